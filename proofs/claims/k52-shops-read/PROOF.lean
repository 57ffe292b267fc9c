import PyProof.Rows.All
import KE.GoesNew
import HandS.CallLocal
import KE.RegKIsAll
import HandS.Strs
import HandS.Text
import HandS.TupMul
import HandS.WordsExc
import HandS.ExcIs
import HandS.ExcOwn
import KE.DatumOrd
import HandS.SortKw
import HandS.Conv
import HandS.WordsDict
import Wide.All
import OpenK.AllK
import Wide.FinOn
import HandS.ForMost
import HandS.Wide
import HandS.NoneIn
import HandS.More
import HandS.TupAny
import HandS.IsInst
import HandS.Lambda
import KE.SortKeyHeap
import KE.KSortKey
import KE.SortData
import HandS.Nested
import HandS.EndTab
import HandS.Finally
import HandS.DictComp
import HandS.DeepEq
import HandS.Style
import HandS.Rev
import HandS.SortRule
import PyProof.Rows.StrMeet
import KE.KExcPX
import HandS.RaiseMore
import HandS.HeadHook3
import HandS.MapJoin
import HandS.Text
import PySem.Challenge.RW_needplan_k52_shops_read
set_option Elab.async false
set_option linter.all false
set_option maxRecDepth 100000
set_option maxHeartbeats 4000000
/-! The value layer: readings of the hand layer told over plain data. -/
namespace VL
open PySem L2

/-- plain data; st is a list that is drawn from (its content is only known to be good) -/
inductive D where
  | non | bl (b : Bool) | int (i : Int) | str (x : Str)
  | tup (ds : List D) | lst (ds : List D) | ro (ds : List D) | dct (kvs : List (Key × D)) | lkd (a : Addr) (kvs : List (Key × D)) | st | cm | ptr (a : Addr) | ty (n : String) | dtt (kvs : List (List Key × V)) | ins (C dx : Addr) (fs : List (Str × D)) | key (ks : List Key)

/-- what a law's defs share: what a list that is drawn from must be; the table of a code object, if a lambda is made -/
structure Gs where
  good : List Int → Prop
  tab : Option Addr
def lamName : Str := "worked.<locals>.<lambda>"
/-- an object that may change, known by what is always true of it -/
def isMk : HO → Bool
  | .ext _ => true
  | .tbl _ => true
  | .rng _ _ => true
  | _ => false
def isTb : HO → Bool
  | .tbl _ => true
  | _ => false
def isLD : HO → Bool
  | .lst _ => true
  | .dK _ => true
  | .dT _ => true
  | .ins _ _ _ => true
  | _ => false
/-- an object that never changes -/
def hard : HO → Bool
  | .tup _ => true
  | .ext _ => true
  | .frz _ (.tup _) => true
  | _ => false
/-- what is on the way, always -/
def GoodP (ps : List (Int × Int)) : Prop := ps.length ≤ 12 ∧ ∀ p ∈ ps, (0 ≤ p.1 ∧ p.1 ≤ 400) ∧ (0 ≤ p.2 ∧ p.2 < 10 ^ 42)
section
variable (K : PySem.W.Frag) (G : Gs)
inductive PrsAt (H : Hp) : List V → List (Int × Int) → Prop
  | nil : PrsAt H [] []
  | cons {a : Addr} {xs : List V} {p : Int × Int} {ps : List (Int × Int)} : SqT K H a [.int p.1, .int p.2] → PrsAt H xs ps → PrsAt H (.ref a :: xs) (p :: ps)

mutual
inductive At (R : Hp) : V → D → Prop
  | non : At R .non .non
  | bl (b : Bool) : At R (.bl b) (.bl b)
  | int (i : Int) : At R (.int i) (.int i)
  | str (x : Str) : At R (.str x) (.str x)
  | tup {a : Addr} {xs : List V} {ds : List D} : SqT K R a xs → AtL R xs ds → At R (.ref a) (.tup ds)
  | lst {a : Addr} {xs : List V} {ds : List D} : R a = some (.lst xs) → AtL R xs ds → At R (.ref a) (.lst ds)
  | ro {a : Addr} {xs : List V} {ds : List D} : SqL K R a xs → AtL R xs ds → At R (.ref a) (.ro ds)
  | dct {a : Addr} {xs : List (Key × V)} {ds : List (Key × D)} : R a = some (.dK xs) → AtD R xs ds → At R (.ref a) (.dct ds)
  | lkd {a : Addr} {o : Obj} {xs : List (Key × V)} {ds : List (Key × D)} : R a = some (.frz o (.dK xs)) → AtD R xs ds → At R (.ref a) (.lkd a ds)
  | st {a : Addr} {φ : Heap → Prop} : R a = some (.ext φ) → At R (.ref a) .st
  | cm {a : Addr} {i j : Int} : R a = some (.rng i j) → At R (.ref a) .cm
  | ptr (a : Addr) : At R (.ref a) (.ptr a)
  | ty (n : String) : At R (.ty n) (.ty n)
  | dtt {a : Addr} {kvs : List (List Key × V)} : R a = some (.dT kvs) → At R (.ref a) (.dtt kvs)
  | ins {a C dx : Addr} {xs : List (Str × V)} {fs : List (Str × D)} : R a = some (.ins C dx xs) → xs.map (·.1) = fs.map (·.1) → AtL R (xs.map (·.2)) (fs.map (·.2)) → At R (.ref a) (.ins C dx fs)
  | key {a : Addr} {ks : List Key} : R a = some (.tup (ks.map kV)) → At R (.ref a) (.key ks)
inductive AtL (R : Hp) : List V → List D → Prop
  | nil : AtL R [] []
  | cons {v : V} {vs : List V} {d : D} {ds : List D} : At R v d → AtL R vs ds → AtL R (v :: vs) (d :: ds)
inductive AtD (R : Hp) : List (Key × V) → List (Key × D) → Prop
  | nil : AtD R [] []
  | cons {k : Key} {v : V} {vs : List (Key × V)} {d : D} {ds : List (Key × D)} : At R v d → AtD R vs ds → AtD R ((k, v) :: vs) ((k, d) :: ds)
end

/-- what R tells of a, H tells too; what R marks as drawn from is a good list -/
def SubAt (H : Hp) (a : Addr) : HO → Prop
  | .ext _ => ∃ ns : List Int, H a = some (.lst (ns.map V.int)) ∧ G.good ns
  | .tbl _ => LamX.TabS H a lamName
  | .rng _ _ => ∃ xs ps, H a = some (.lst xs) ∧ PrsAt K H xs ps ∧ GoodP ps
  | x => H a = some x
def Sub (R H : Hp) : Prop := ∀ a x, R a = some x → SubAt K G H a x

structure Step (R H R' H' : Hp) : Prop where
  same : Same R R'
  sub : Sub K G R' H'
  kept : ∀ a y, H a = some y → (∀ m, R a = some m → isMk m = false) → H' a = some y
  out : ∀ a y, H a = some y → hard y = false → R a = none → R' a = none

/-- the content of an object that the def alone knows -/
def MAt (R : Hp) : HO → D → Prop
  | .lst xs, .lst ds => AtL K R xs ds
  | .dK xs, .dct ds => AtD K R xs ds
  | .dT xs, .dtt ds => xs = ds
  | .ins C dx xs, .ins C2 dx2 fs => C = C2 ∧ dx = dx2 ∧ xs.map (·.1) = fs.map (·.1) ∧ AtL K R (xs.map (·.2)) (fs.map (·.2))
  | _, _ => False

inductive Slot where
  | u | p (d : D) | mu (d : D) | hp (gs : List (Addr × D))
abbrev Vn := List Slot
/-- a value on the way: plain; an own new object; the object of a slot -/
inductive XV where
  | p (d : D) | o (d : D) | m (i : Nat) (d : D)

/-- the objects that a slot owns -/
def Slot.owns (s : Option (Option V)) (a : Addr) : Slot → Prop
  | .mu _ => s = some (some (.ref a))
  | .hp gs => a ∈ gs.map (·.1)
  | _ => False
def NoOwn (env : Vn) (σ : L2.St) (a : Addr) : Prop := ∀ (j : Nat) sl, env[j]? = some sl → ¬ Slot.owns σ[j]? a sl
/-- the state ahead of the def -/
structure Bs where
  R : Hp
  H : Hp
  /-- own objects that no slot holds, as they must stay -/
  pr : List (Addr × HO)

def SlotAt (B : Bs) (R H : Hp) (σ : L2.St) (i : Nat) : Slot → Prop
  | .u => True
  | .p d => ∃ v, σ[i]? = some (some v) ∧ At K R v d
  | .mu d => ∃ a y, σ[i]? = some (some (.ref a)) ∧ B.H a = none ∧ R a = none ∧ H a = some y ∧ MAt K R y d
  | .hp gs => ∀ q ∈ gs, B.H q.1 = none ∧ R q.1 = none ∧ ∃ y, H q.1 = some y ∧ MAt K R y q.2

structure Rep (B : Bs) (env : Vn) (σ : L2.St) (R H : Hp) : Prop where
  sub0 : Sub K G B.R B.H
  tab : ∀ P, G.tab = some P → ∃ ps, B.R P = some (.tbl ps)
  step : Step K G B.R B.H R H
  len : σ.length = env.length
  slots : ∀ (i : Nat) s, env[i]? = some s → SlotAt K B R H σ i s
  dist : ∀ (i j : Nat) si sj a, i ≠ j → env[i]? = some si → env[j]? = some sj → Slot.owns σ[i]? a si → ¬ Slot.owns σ[j]? a sj
  pr : ∀ q ∈ B.pr, B.H q.1 = none ∧ R q.1 = none ∧ H q.1 = some q.2 ∧ isLD q.2 = true ∧ NoOwn env σ q.1

def VAt (B : Bs) (env : Vn) (σ : L2.St) (R H : Hp) (v : V) : XV → Prop
  | .p d => At K R v d
  | .o d => ∃ a y, v = .ref a ∧ B.H a = none ∧ R a = none ∧ H a = some y ∧ MAt K R y d ∧ NoOwn env σ a ∧ ∀ q ∈ B.pr, q.1 ≠ a
  | .m i d => env[i]? = some (.mu d) ∧ σ[i]? = some (some v)

def VE (B : Bs) (t : TE) (env : Vn) (Q : XV → Prop) : Prop := ∀ σ R H, Rep K G B env σ R H → ∀ Qh : VK,
  (∀ v R' H' x, Rep K G B env σ R' H' → Same R R' → VAt K B env σ R' H' v x → Q x → Qh v H') → t σ H Qh
def VT (B : Bs) (t : TT) (env : Vn) (Q : Bool → Prop) : Prop := ∀ σ R H, Rep K G B env σ R H → ∀ Qh : Bool → Hp → Prop,
  (∀ b R' H', Rep K G B env σ R' H' → Same R R' → Q b → Qh b H') → t σ H Qh
/-- arguments: new objects are given away, slots' objects are only lent -/
def VAtL (B : Bs) (env : Vn) (σ : L2.St) (R H : Hp) : List V → List XV → Prop
  | [], [] => True
  | v :: vs, x :: xs => VAt K B env σ R H v x ∧ VAtL B env σ R H vs xs
  | _, _ => False
def XV.isO : XV → Bool
  | .o _ => true
  | _ => false
def XV.fz (x : XV) (k : XV → Prop) : Prop := match x with
  | .o d => k (.p d)
  | .p d => k (.p d)
  | .m i d => k (.m i d)
def VA (B : Bs) (t : TA) (env : Vn) (Q : List XV → Prop) : Prop := ∀ σ R H, Rep K G B env σ R H → ∀ Qh : List V → Hp → Prop,
  (∀ vs R' H' xs, Rep K G B env σ R' H' → Same R R' → VAtL K B env σ R' H' vs xs → (∀ x ∈ xs, x.isO = false) → Q xs → Qh vs H') → t σ H Qh
/-- an operation on two values -/
def VO (B : Bs) (r : V → V → Hp → VK → Prop) (env : Vn) (x y : XV) (Q : XV → Prop) : Prop := ∀ σ R H, Rep K G B env σ R H → ∀ v w, VAt K B env σ R H v x → VAt K B env σ R H w y → ∀ Qh : VK,
  (∀ z R' H' x', Rep K G B env σ R' H' → Same R R' → VAt K B env σ R' H' z x' → Q x' → Qh z H') → r v w H Qh
def VU (B : Bs) (r : V → Hp → VK → Prop) (env : Vn) (x : XV) (Q : XV → Prop) : Prop := ∀ σ R H, Rep K G B env σ R H → ∀ v, VAt K B env σ R H v x → ∀ Qh : VK,
  (∀ z R' H' x', Rep K G B env σ R' H' → Same R R' → VAt K B env σ R' H' z x' → Q x' → Qh z H') → r v H Qh
def VC (B : Bs) (r : List V → Hp → VK → Prop) (env : Vn) (xs : List XV) (Q : XV → Prop) : Prop := ∀ σ R H, Rep K G B env σ R H → ∀ vs, VAtL K B env σ R H vs xs → ∀ Qh : VK,
  (∀ z R' H' x', Rep K G B env σ R' H' → Same R R' → VAt K B env σ R' H' z x' → Q x' → Qh z H') → r vs H Qh
/-- a method of a value upon arguments -/
def VM (B : Bs) (r : V → List V → Hp → VK → Prop) (env : Vn) (x : XV) (xs : List XV) (Q : Vn → XV → Prop) : Prop := True

def VS (B : Bs) (t : TS) (env : Vn) (nx : Vn → Prop) (rt : XV → Prop) (bk ct : Vn → Prop) : Prop := ∀ σ R H, Rep K G B env σ R H → ∀ Z : Ends,
  (∀ env' σ' R' H', Rep K G B env' σ' R' H' → Same R R' → nx env' → Z.nx σ' H') →
  (∀ v env' σ' R' H' x, Rep K G B env' σ' R' H' → Same R R' → VAt K B env' σ' R' H' v x → rt x → Z.rt v H') →
  (∀ env' σ' R' H', Rep K G B env' σ' R' H' → Same R R' → bk env' → Z.bk σ' H') →
  (∀ env' σ' R' H', Rep K G B env' σ' R' H' → Same R R' → ct env' → Z.ct σ' H') → t Z σ H
/-- a target: what is bound is plain -/
def VG (B : Bs) (g : TG) (x : XV) (env : Vn) (Q : Vn → Prop) : Prop := ∀ σ R H, Rep K G B env σ R H → ∀ v, VAt K B env σ R H v x → ∀ Qh : L2.St → Hp → Prop,
  (∀ env' σ' R' H', Rep K G B env' σ' R' H' → Same R R' → Q env' → Qh σ' H') → g v σ H Qh
end

section
variable {K : PySem.W.Frag} {G : Gs} {B : Bs} {env : Vn} {σ : L2.St} {R R' R1 H H' H1 : Hp}

theorem same_rd {a : Addr} {u : HO} (e : Same R R') (h : Rd R a u) : Rd R' a u := by
  rcases h with h | ⟨o, h⟩
  · exact .inl (e _ _ h)
  · exact .inr ⟨o, e _ _ h⟩
theorem same_t {a : Addr} {xs : List V} (e : Same R R') (h : SqT K R a xs) : SqT K R' a xs := by
  rcases h with h | h
  · exact .inl (same_rd e h)
  · exact .inr h
theorem same_l {a : Addr} {xs : List V} (e : Same R R') (h : SqL K R a xs) : SqL K R' a xs := by
  rcases h with h | h
  · exact .inl (same_rd e h)
  · exact .inr h
mutual
theorem At.same (e : Same R R') : ∀ {v : V} {d : D}, At K R v d → At K R' v d
  | _, _, .non => .non
  | _, _, .bl b => .bl b
  | _, _, .int i => .int i
  | _, _, .str x => .str x
  | _, _, .tup h t => .tup (same_t e h) (AtL.same e t)
  | _, _, .lst h t => .lst (e _ _ h) (AtL.same e t)
  | _, _, .ro h t => .ro (same_l e h) (AtL.same e t)
  | _, _, .dct h t => .dct (e _ _ h) (AtD.same e t)
  | _, _, .lkd h t => .lkd (e _ _ h) (AtD.same e t)
  | _, _, .st h => .st (e _ _ h)
  | _, _, .cm h => .cm (e _ _ h)
  | _, _, .ptr a => .ptr a
  | _, _, .ty n => .ty n
  | _, _, .dtt h => .dtt (e _ _ h)
  | _, _, .ins h q t => .ins (e _ _ h) q (AtL.same e t)
  | _, _, .key h => .key (e _ _ h)
theorem AtL.same (e : Same R R') : ∀ {vs : List V} {ds : List D}, AtL K R vs ds → AtL K R' vs ds
  | _, _, .nil => .nil
  | _, _, .cons h t => .cons (At.same e h) (AtL.same e t)
theorem AtD.same (e : Same R R') : ∀ {vs : List (Key × V)} {ds : List (Key × D)}, AtD K R vs ds → AtD K R' vs ds
  | _, _, .nil => .nil
  | _, _, .cons h t => .cons (At.same e h) (AtD.same e t)
end
theorem MAt.same (e : Same R R') {y : HO} {d : D} (h : MAt K R y d) : MAt K R' y d := by
  cases y <;> cases d <;> first | exact h.elim | exact AtL.same e h | exact AtD.same e h | exact h | exact ⟨h.1, h.2.1, h.2.2.1, AtL.same e h.2.2.2⟩
theorem AtL.len : ∀ {vs : List V} {ds : List D}, AtL K R vs ds → vs.length = ds.length
  | _, _, .nil => rfl
  | _, _, .cons _ t => congrArg (· + 1) (AtL.len t)
theorem AtL.get : ∀ {vs : List V} {ds : List D} {i : Nat} {d : D}, AtL K R vs ds → ds[i]? = some d → ∃ v, vs[i]? = some v ∧ At K R v d
  | _, _, _, _, .nil, h => by simp at h
  | _, _, 0, _, .cons h _, e => by
    simp at e
    subst e
    exact ⟨_, rfl, h⟩
  | _, _, i + 1, _, .cons _ t, e => by
    obtain ⟨v, h1, h2⟩ := AtL.get (i := i) t (by simpa using e)
    exact ⟨v, by simpa using h1, h2⟩
theorem AtL.imp : ∀ {vs : List V} {ds : List D}, AtL K R vs ds → (∀ v d, d ∈ ds → At K R v d → At K R' v d) → AtL K R' vs ds
  | _, _, .nil, _ => .nil
  | _, _, .cons h t, f => .cons (f _ _ List.mem_cons_self h) (AtL.imp t fun v d hm => f v d (List.mem_cons_of_mem _ hm))
theorem AtD.imp : ∀ {vs : List (Key × V)} {ds : List (Key × D)}, AtD K R vs ds → (∀ v d, d ∈ ds.map (·.2) → At K R v d → At K R' v d) → AtD K R' vs ds
  | _, _, .nil, _ => .nil
  | _, _, .cons h t, f => .cons (f _ _ (by simp) h) (AtD.imp t fun v d hm => f v d (by simp at hm ⊢; exact .inr hm))
theorem AtL.app : ∀ {vs ws : List V} {ds es : List D}, AtL K R vs ds → AtL K R ws es → AtL K R (vs ++ ws) (ds ++ es)
  | _, _, _, _, .nil, s => s
  | _, _, _, _, .cons h t, s => .cons h (AtL.app t s)
theorem AtL.take : ∀ {vs : List V} {ds : List D} (n : Nat), AtL K R vs ds → AtL K R (vs.take n) (ds.take n)
  | _, _, 0, _ => .nil
  | _, _, _ + 1, .nil => .nil
  | _, _, n + 1, .cons h t => .cons h (AtL.take n t)
theorem AtL.drop : ∀ {vs : List V} {ds : List D} (n : Nat), AtL K R vs ds → AtL K R (vs.drop n) (ds.drop n)
  | _, _, 0, t => t
  | _, _, _ + 1, .nil => .nil
  | _, _, n + 1, .cons _ t => AtL.drop n t
theorem AtL.set {v : V} {d : D} (h : At K R v d) : ∀ {vs : List V} {ds : List D} (n : Nat), AtL K R vs ds → AtL K R (vs.set n v) (ds.set n d)
  | _, _, _, .nil => .nil
  | _, _, 0, .cons _ t => .cons h t
  | _, _, n + 1, .cons q t => .cons q (AtL.set h n t)
theorem AtL.erase : ∀ {vs : List V} {ds : List D} (n : Nat), AtL K R vs ds → AtL K R (vs.eraseIdx n) (ds.eraseIdx n)
  | _, _, _, .nil => .nil
  | _, _, 0, .cons _ t => t
  | _, _, n + 1, .cons h t => .cons h (AtL.erase n t)
theorem AtL.ints : ∀ (ns : List Int), AtL K R (ns.map V.int) (ns.map D.int)
  | [] => .nil
  | n :: r => .cons (.int n) (AtL.ints r)
theorem AtL.ints_inv : ∀ {vs : List V} {ns : List Int}, AtL K R vs (ns.map D.int) → vs = ns.map V.int
  | _, [], h => by cases h; rfl
  | _, n :: r, h => by
    cases h with
    | cons h t =>
      cases h
      rw [AtL.ints_inv t]
      rfl

/-! ### what marks tell stays -/
theorem hard_upd {a : Addr} {y : HO} (h : ∀ o, H a = some o → hard o = false) : ∀ c o, H c = some o → hard o = true → upd H a y c = some o := fun c o e q => by
  have hc : c ≠ a := fun z => by
    rw [z] at e
    rw [h o e] at q
    cases q
  rw [upd_ne hc]
  exact e
theorem hard_new {a : Addr} {y : HO} (h : H a = none) : ∀ c o, H c = some o → hard o = true → upd H a y c = some o := hard_upd fun o e => by
  rw [h] at e
  cases e
theorem hard_ld {o : HO} (h : isLD o = true) : hard o = false := by
  cases o <;> first | rfl | cases h
theorem mat_ld {y : HO} {d : D} (h : MAt K R y d) : isLD y = true := by
  cases y <;> cases d <;> first | rfl | exact h.elim
theorem ld_mk {o : HO} (h : isLD o = true) : isMk o = false := by
  cases o <;> first | rfl | cases h
theorem ld_tb {o : HO} (h : isLD o = true) : isTb o = false := by
  cases o <;> first | rfl | cases h
theorem hard_own {a : Addr} {y o : HO} (h : H a = some o) (q : isLD o = true) : ∀ c u, H c = some u → hard u = true → upd H a y c = some u := hard_upd fun u e => by
  rw [h] at e
  cases e
  exact hard_ld q
theorem sqt_hard {a : Addr} {xs : List V} (s : ∀ c o, H c = some o → hard o = true → H' c = some o) (h : SqT K H a xs) : SqT K H' a xs := by
  rcases h with (h | ⟨o, h⟩) | h
  · exact .inl (.inl (s _ _ h rfl))
  · exact .inl (.inr ⟨o, s _ _ h rfl⟩)
  · exact .inr h
theorem PrsAt.hard (s : ∀ c o, H c = some o → hard o = true → H' c = some o) : ∀ {xs : List V} {ps : List (Int × Int)}, PrsAt K H xs ps → PrsAt K H' xs ps
  | _, _, .nil => .nil
  | _, _, .cons h t => .cons (sqt_hard s h) (PrsAt.hard s t)
theorem subAt_go {b : Addr} {x : HO} (h : SubAt K G H b x) (e : H' b = H b) (s : ∀ c o, H c = some o → hard o = true → H' c = some o) : SubAt K G H' b x := by
  cases x with
  | ext φ =>
    obtain ⟨ns, q, g⟩ := h
    exact ⟨ns, e.trans q, g⟩
  | tbl ps =>
    obtain ⟨qs, h1, h2, h3⟩ := h
    refine ⟨qs, e.trans h1, h2, fun pos cv hc => ?_⟩
    obtain ⟨c, e1, e2⟩ := h3 pos cv hc
    exact ⟨c, e1, s _ _ e2 rfl⟩
  | rng i j =>
    obtain ⟨xs, ps, h1, h2, h3⟩ := h
    exact ⟨xs, ps, e.trans h1, h2.hard s, h3⟩
  | _ => exact e.trans h
theorem subAt_mk {b : Addr} {x : HO} (h : SubAt K G H b x) (hx : isMk x = false) : H b = some x := by
  cases x <;> first | exact h | cases hx
theorem subAt_of {b : Addr} {x : HO} (h : H b = some x) (hx : isMk x = false) : SubAt K G H b x := by
  cases x <;> first | exact h | cases hx
theorem Sub.none (s : Sub K G R H) {a : Addr} (h : H a = Option.none) : R a = Option.none := by
  cases e : R a with
  | none => rfl
  | some x =>
    have q := s a x e
    cases x with
    | ext φ => obtain ⟨ns, q, _⟩ := q; rw [h] at q; cases q
    | tbl ps => obtain ⟨qs, q, _⟩ := q; rw [h] at q; cases q
    | rng i j => obtain ⟨xs, ps, q, _⟩ := q; rw [h] at q; cases q
    | _ => have q : H a = some _ := q; rw [h] at q; cases q
theorem Sub.of (s : Sub K G R H) {a : Addr} {x : HO} (h : R a = some x) (hx : isMk x = false) : H a = some x := subAt_mk (s a x h) hx
theorem Sub.rd (s : Sub K G R H) {a : Addr} {x : HO} (h : Rd R a x) (hx : isMk x = false) : Rd H a x := by
  rcases h with h | ⟨o, h⟩
  · exact .inl (s.of h hx)
  · exact .inr ⟨o, s.of h rfl⟩
theorem Sub.t (s : Sub K G R H) {a : Addr} {xs : List V} (h : SqT K R a xs) : SqT K H a xs := by
  rcases h with h | h
  · exact .inl (s.rd h rfl)
  · exact .inr h
theorem Sub.l (s : Sub K G R H) {a : Addr} {xs : List V} (h : SqL K R a xs) : SqL K H a xs := by
  rcases h with h | h
  · exact .inl (s.rd h rfl)
  · exact .inr h
theorem no_mk {a : Addr} (n : R a = none) : ∀ m, R a = some m → isMk m = false := fun m z => by rw [n] at z; cases z
theorem Step.refl (s : Sub K G R H) : Step K G R H R H := ⟨Same.refl R, s, fun _ _ h _ => h, fun _ _ _ _ h => h⟩
theorem Step.nx (s : Step K G R H R1 H1) {a : Addr} (hx : ∀ m, R a = some m → isMk m = false) {y : HO} (h : H a = some y) : ∀ m, R1 a = some m → isMk m = false := fun m z => by
  cases e : R a with
  | none =>
    cases hy : hard y with
    | false =>
      rw [s.out a y h hy e] at z
      cases z
    | true =>
      have h1 := s.kept a y h (no_mk e)
      have q := s.sub a m z
      cases m with
      | ext φ => obtain ⟨ns, q, _⟩ := q; rw [h1] at q; cases q; cases hy
      | tbl ps => obtain ⟨qs, q, _⟩ := q; rw [h1] at q; cases q; cases hy
      | rng i j => obtain ⟨xs, ps, q, _⟩ := q; rw [h1] at q; cases q; cases hy
      | _ => rfl
  | some x =>
    rw [s.same a x e] at z
    cases z
    exact hx _ e
theorem Step.trans (s : Step K G R H R1 H1) (t : Step K G R1 H1 R' H') : Step K G R H R' H' where
  same := s.same.trans t.same
  sub := t.sub
  kept := fun a y h hx => t.kept a y (s.kept a y h hx) (s.nx hx h)
  out := fun a y h hd n => t.out a y (s.kept a y h (no_mk n)) hd (s.out a y h hd n)
theorem Step.fresh (s0 : Sub K G R H) (s : Step K G R H R' H') {a : Addr} (h : H' a = Option.none) : H a = Option.none := by
  cases e : H a with
  | none => rfl
  | some y =>
    cases e1 : R a with
    | none =>
      rw [s.kept a y e (no_mk e1)] at h
      cases h
    | some x =>
      have := s.sub.none h
      rw [s.same a x e1] at this
      cases this

theorem Rep.sub (r : Rep K G B env σ R H) : Sub K G R H := r.step.sub
/-- a step of a call that knows nothing of the slots' own objects -/
theorem Rep.go (r : Rep K G B env σ R H) (s : Step K G R H R' H') : Rep K G B env σ R' H' where
  sub0 := r.sub0
  tab := r.tab
  step := r.step.trans s
  len := r.len
  dist := r.dist
  pr := fun q hq => by
    obtain ⟨h1, h2, h3, h4⟩ := r.pr q hq
    exact ⟨h1, s.out _ _ h3 (hard_ld h4.1) h2, s.kept _ _ h3 (no_mk h2), h4⟩
  slots := fun i sl h => by
    have := r.slots i sl h
    cases sl with
    | u => trivial
    | p d =>
      obtain ⟨v, h1, h2⟩ := this
      exact ⟨v, h1, h2.same s.same⟩
    | mu d =>
      obtain ⟨a, y, h1, h2, h3, h4, h5⟩ := this
      exact ⟨a, y, h1, h2, s.out a y h4 (hard_ld (mat_ld h5)) h3, s.kept a y h4 (no_mk h3), h5.same s.same⟩
    | hp gs =>
      refine fun q hq => ?_
      obtain ⟨h2, h3, y, h4, h5⟩ := this q hq
      exact ⟨h2, s.out _ y h4 (hard_ld (mat_ld h5)) h3, y, s.kept _ y h4 (no_mk h3), h5.same s.same⟩
theorem Rep.fresh (r : Rep K G B env σ R H) {a : Addr} (h : H a = none) : B.H a = none := r.step.fresh r.sub0 h
/-- what a slot owns -/
theorem Rep.own (r : Rep K G B env σ R H) {j : Nat} {sl : Slot} {a : Addr} (h : env[j]? = some sl) (o : Slot.owns σ[j]? a sl) : B.H a = none ∧ R a = none ∧ ∃ y, H a = some y ∧ isLD y = true := by
  have := r.slots j sl h
  cases sl with
  | u => exact o.elim
  | p d => exact o.elim
  | mu d =>
    obtain ⟨b, y, h1, h2, h3, h4, h5⟩ := this
    have o' : σ[j]? = some (some (.ref a)) := o
    rw [h1] at o'
    cases o'
    exact ⟨h2, h3, y, h4, mat_ld h5⟩
  | hp gs =>
    obtain ⟨q, hq, e⟩ := List.mem_map.mp (show a ∈ gs.map (·.1) from o)
    obtain ⟨h2, h3, y, h4, h5⟩ := this q hq
    subst e
    exact ⟨h2, h3, y, h4, mat_ld h5⟩
theorem Rep.noslot (r : Rep K G B env σ R H) {a : Addr} (h : H a = none) : NoOwn env σ a := fun j sl q o => by
  obtain ⟨_, _, y, e, _⟩ := r.own q o
  rw [h] at e
  cases e
theorem Rep.nopr (r : Rep K G B env σ R H) {a : Addr} (h : H a = none) : ∀ q ∈ B.pr, q.1 ≠ a := fun q hq z => by
  have h3 := (r.pr q hq).2.2.1
  rw [z, h] at h3
  cases h3
/-- a new object that is nobody's yet -/
theorem sub_new (s : Sub K G R H) {a : Addr} {o : HO} (h : H a = none) : Sub K G R (upd H a o) := fun b x e => by
  have hb : b ≠ a := fun z => by
    subst z
    rw [s.none h] at e
    cases e
  exact subAt_go (s b x e) (upd_ne hb) (hard_new h)
theorem step_new (s : Sub K G R H) {a : Addr} {o : HO} (h : H a = none) : Step K G R H R (upd H a o) where
  same := Same.refl R
  sub := sub_new s h
  kept := fun b y e _ => by
    rw [upd_ne (ne_of_none e h)]
    exact e
  out := fun _ _ _ _ n => n
theorem Rep.new (r : Rep K G B env σ R H) {a : Addr} {o : HO} (h : H a = none) : Rep K G B env σ R (upd H a o) := r.go (step_new r.sub h)
/-- what was an own object becomes plain, or is marked -/
theorem sub_put (s : Sub K G R H) {a : Addr} {o : HO} (h : SubAt K G H a o) : Sub K G (upd R a o) H := fun b x e => by
  by_cases hb : b = a
  · subst hb
    rw [upd_same] at e
    cases e
    exact h
  · rw [upd_ne hb] at e
    exact s b x e
theorem same_take {a : Addr} {o : HO} (h : R a = none) : Same R (upd R a o) := fun b x e => by
  rw [upd_ne (ne_of_none e h)]
  exact e
theorem mat_mk {y : HO} {d : D} (h : MAt K R y d) : isMk y = false := ld_mk (mat_ld h)
theorem Rep.put (r : Rep K G B env σ R H) {a : Addr} {o : HO} (h : SubAt K G H a o) (h0 : B.H a = none) (hn : R a = none) (hs : NoOwn env σ a) (hp : ∀ q ∈ B.pr, q.1 ≠ a) : Rep K G B env σ (upd R a o) H where
  sub0 := r.sub0
  tab := r.tab
  step := {
    same := r.step.same.trans (same_take hn)
    sub := sub_put r.sub h
    kept := r.step.kept
    out := fun b y e hd n => by
      rw [upd_ne (ne_of_none e h0)]
      exact r.step.out b y e hd n }
  len := r.len
  dist := r.dist
  pr := fun q hq => by
    obtain ⟨h1, h2, h3, h4⟩ := r.pr q hq
    exact ⟨h1, by rw [upd_ne (hp q hq)]; exact h2, h3, h4⟩
  slots := fun i sl q => by
    have := r.slots i sl q
    cases sl with
    | u => trivial
    | p d =>
      obtain ⟨v, h1, h2⟩ := this
      exact ⟨v, h1, h2.same (same_take hn)⟩
    | mu d =>
      obtain ⟨b, y, h1, h2, h3, h4, h5⟩ := this
      have hb : b ≠ a := fun z => by
        subst z
        exact hs i _ q h1
      exact ⟨b, y, h1, h2, by rw [upd_ne hb]; exact h3, h4, h5.same (same_take hn)⟩
    | hp gs =>
      refine fun g hg => ?_
      obtain ⟨h2, h3, y, h4, h5⟩ := this g hg
      have hb : g.1 ≠ a := fun z => hs i _ q (show a ∈ gs.map (·.1) from List.mem_map.mpr ⟨g, hg, z⟩)
      exact ⟨h2, by rw [upd_ne hb]; exact h3, y, h4, h5.same (same_take hn)⟩
theorem Rep.take (r : Rep K G B env σ R H) {a : Addr} {o : HO} (h : H a = some o) (hx : isMk o = false) (h0 : B.H a = none) (hn : R a = none) (hs : NoOwn env σ a) (hp : ∀ q ∈ B.pr, q.1 ≠ a) : Rep K G B env σ (upd R a o) H := r.put (subAt_of h hx) h0 hn hs hp
theorem At.of_mat {a : Addr} {y : HO} {d : D} (h : MAt K R y d) (hn : R a = none) : At K (upd R a y) (.ref a) d := by
  cases y <;> cases d <;> first
    | exact h.elim
    | exact .lst upd_same (AtL.same (same_take hn) h)
    | exact .dct upd_same (AtD.same (same_take hn) h)
    | (have h : _ = _ := h; subst h; exact .dtt upd_same)
    | (obtain ⟨h1, h2, h3, h4⟩ := h; subst h1; subst h2; exact .ins upd_same h3 (AtL.same (same_take hn) h4))

theorem At.of_matS {a : Addr} {y : HO} {d : D} (h : MAt K R y d) (e : R' a = some y) (s : Same R R') : At K R' (.ref a) d := by
  cases y <;> cases d <;> first
    | exact h.elim
    | exact .lst e (AtL.same s h)
    | exact .dct e (AtD.same s h)
    | (have h : _ = _ := h; subst h; exact .dtt e)
    | (obtain ⟨h1, h2, h3, h4⟩ := h; subst h1; subst h2; exact .ins e h3 (AtL.same s h4))
theorem VAt.go {v : V} {x : XV} (h : VAt K B env σ R H v x) (hx : x.isO = false) (s : Same R R') : VAt K B env σ R' H' v x := by
  cases x with
  | p d => exact At.same s h
  | o d => cases hx
  | m i d => exact h
theorem VAtL.go : ∀ {vs : List V} {xs : List XV}, VAtL K B env σ R H vs xs → (∀ x ∈ xs, x.isO = false) → Same R R' → VAtL K B env σ R' H' vs xs
  | [], [], _, _, _ => trivial
  | [], _ :: _, h, _, _ => h.elim
  | _ :: _, [], h, _, _ => h.elim
  | _ :: _, _ :: _, h, hx, s => ⟨h.1.go (hx _ List.mem_cons_self) s, VAtL.go h.2 (fun x q => hx x (List.mem_cons_of_mem _ q)) s⟩
/-- a value is given away -/
theorem VAt.fz {v : V} {x : XV} {k : XV → Prop} (r : Rep K G B env σ R H) (h : VAt K B env σ R H v x) (q : x.fz k) : ∃ R' x', Rep K G B env σ R' H ∧ Same R R' ∧ VAt K B env σ R' H v x' ∧ x'.isO = false ∧ k x' := by
  cases x with
  | p d => exact ⟨R, .p d, r, Same.refl R, h, rfl, q⟩
  | m i d => exact ⟨R, .m i d, r, Same.refl R, h, rfl, q⟩
  | o d =>
    obtain ⟨a, y, rfl, h0, hn, hy, hm, hs, hp⟩ := h
    exact ⟨upd R a y, .p d, r.take hy (mat_mk hm) h0 hn hs hp, same_take hn, At.of_mat hm hn, rfl, q⟩
theorem fz_p {d : D} {k : XV → Prop} (q : k (.p d)) : XV.fz (.p d) k := q
theorem fz_o {d : D} {k : XV → Prop} (q : k (.p d)) : XV.fz (.o d) k := q
theorem fz_m {i : Nat} {d : D} {k : XV → Prop} (q : k (.m i d)) : XV.fz (.m i d) k := q

/-! ### expressions -/
variable {Q : XV → Prop}
theorem ve_var {i : Nat} {d : D} (h : env[i]? = some (.p d)) (q : Q (.p d)) : VE K G B (tVar i) env Q := fun σ R H r Qh k => by
  obtain ⟨v, h1, h2⟩ := r.slots i _ h
  exact ⟨v, h1, k v R H (.p d) r (Same.refl R) h2 q⟩
theorem ve_varm {i : Nat} {d : D} (h : env[i]? = some (.mu d)) (q : Q (.m i d)) : VE K G B (tVar i) env Q := fun σ R H r Qh k => by
  obtain ⟨a, y, h1, _⟩ := r.slots i _ h
  exact ⟨_, h1, k _ R H (.m i d) r (Same.refl R) ⟨h, h1⟩ q⟩
theorem ve_int {i : Int} (q : Q (.p (.int i))) : VE K G B (tC (.int i)) env Q := fun σ R H r Qh k => k _ R H (.p (.int i)) r (Same.refl R) (At.int i) q
theorem ve_str {i : Str} (q : Q (.p (.str i))) : VE K G B (tC (.str i)) env Q := fun σ R H r Qh k => k _ R H (.p (.str i)) r (Same.refl R) (At.str i) q
theorem ve_bl {i : Bool} (q : Q (.p (.bl i))) : VE K G B (tC (.bl i)) env Q := fun σ R H r Qh k => k _ R H (.p (.bl i)) r (Same.refl R) (At.bl i) q
theorem ve_non (q : Q (.p .non)) : VE K G B (tC .non) env Q := fun σ R H r Qh k => k _ R H (.p .non) r (Same.refl R) At.non q
theorem ve_op {r : R2} {ta tb : TE} (h : VE K G B ta env fun x => x.fz fun x => VE K G B tb env fun y => y.fz fun y => VO K G B r env x y Q) : VE K G B (tOp r ta tb) env Q := fun σ R H rp Qh k =>
  h σ R H rp _ fun v R1 H1 x r1 s1 hv q => by
    obtain ⟨R2, x', r2, s2, hv2, ho, q2⟩ := hv.fz r1 q
    refine q2 σ R2 H1 r2 _ fun w R3 H3 y r3 s3 hw q3 => ?_
    obtain ⟨R4, y', r4, s4, hw4, ho4, q4⟩ := hw.fz r3 q3
    exact q4 σ R4 H3 r4 v w (hv2.go ho (s3.trans s4)) hw4 Qh fun z R5 H5 x5 r5 s5 hz q5 => k z R5 H5 x5 r5 (((((s1.trans s2).trans s3).trans s4)).trans s5) hz q5
theorem ve_un {r : V → Hp → VK → Prop} {ta : TE} (h : VE K G B ta env fun x => x.fz fun x => VU K G B r env x Q) : VE K G B (tUn r ta) env Q := fun σ R H rp Qh k =>
  h σ R H rp _ fun v R1 H1 x r1 s1 hv q => by
    obtain ⟨R2, x', r2, s2, hv2, ho, q2⟩ := hv.fz r1 q
    exact q2 σ R2 H1 r2 v hv2 Qh fun z R5 H5 x5 r5 s5 hz q5 => k z R5 H5 x5 r5 ((s1.trans s2).trans s5) hz q5
theorem va_nil {Q : List XV → Prop} (q : Q []) : VA K G B tNil env Q := fun σ R H rp Qh k => k [] R H [] rp (Same.refl R) trivial (fun _ h => by cases h) q
theorem va_cons {Q : List XV → Prop} {ta : TE} {tr : TA} (h : VE K G B ta env fun x => x.fz fun x => VA K G B tr env fun xs => Q (x :: xs)) : VA K G B (tCons ta tr) env Q := fun σ R H rp Qh k =>
  h σ R H rp _ fun v R1 H1 x r1 s1 hv q => by
    obtain ⟨R2, x', r2, s2, hv2, ho, q2⟩ := hv.fz r1 q
    refine q2 σ R2 H1 r2 _ fun vs R3 H3 xs r3 s3 hvs hx q3 => ?_
    exact k (v :: vs) R3 H3 (x' :: xs) r3 ((s1.trans s2).trans s3) ⟨hv2.go ho s3, hvs⟩ (fun y hy => by
      rcases List.mem_cons.mp hy with rfl | hy
      · exact ho
      · exact hx y hy) q3
theorem ve_cb {r : List V → Hp → VK → Prop} {t : TA} (h : VA K G B t env fun xs => VC K G B r env xs Q) : VE K G B (tCB r t) env Q := fun σ R H rp Qh k =>
  h σ R H rp _ fun vs R1 H1 xs r1 s1 hv _ q => q σ R1 H1 r1 vs hv Qh fun z R5 H5 x5 r5 s5 hz q5 => k z R5 H5 x5 r5 (s1.trans s5) hz q5

/-! ### calls of defs -/
/-- the table is known -/
def TabIn (G : Gs) (R : Hp) : Prop := ∀ P, G.tab = some P → ∃ ps, R P = some (.tbl ps)
theorem TabIn.go (t : TabIn G R) (s : Same R R') : TabIn G R' := fun P e => by
  obtain ⟨ps, h⟩ := t P e
  exact ⟨ps, s P _ h⟩
theorem Rep.tab' (r : Rep K G B env σ R H) : TabIn G R := TabIn.go (R := B.R) r.tab r.step.same
/-- the promise of a def: args and result are plain data; fr: the result is a new object; rs: the classes that may be raised -/
def SpA (K : PySem.W.Frag) (G : Gs) {α : Type} (fr : Bool) (args : α → List D) (pre : α → Prop) (post : α → D → Prop) (rs : α → Addr → Prop) : Sp := fun vs H Q E =>
  ∃ R x, (Sub K G R H ∧ TabIn G R) ∧ AtL K R vs (args x) ∧ pre x ∧
    (∀ v R' H' d, Step K G R H R' H' → At K R' v d → (fr = true → ∃ a, v = .ref a ∧ H a = none ∧ ∀ o u, R' a ≠ some (.frz o u)) → post x d → Q v H') ∧
    (∀ C R' H', Step K G R H R' H' → rs x C → E (.ref C) none H')
abbrev noRs {α : Type} : α → Addr → Prop := fun _ _ => False
def XV.plain : XV → Option D
  | .p d => some d
  | _ => none
theorem atL_of : ∀ {vs : List V} {ds : List D}, VAtL K B env σ R H vs (ds.map XV.p) → AtL K R vs ds
  | [], [], _ => .nil
  | [], _ :: _, h => h.elim
  | _ :: _, [], h => h.elim
  | _ :: _, _ :: _, h => .cons h.1 (atL_of h.2)
/-- what the def may raise, goes on -/
def Lets (K : PySem.W.Frag) (G : Gs) (B : Bs) (E : XK) (X : Addr → Prop) : Prop := ∀ C R' H', Step K G B.R B.H R' H' → X C → E (.ref C) none H'
theorem lets_none {E : XK} : Lets K G B E fun _ => False := fun _ _ _ _ h => h.elim
theorem ve_call {α : Type} {fr : Bool} {args : α → List D} {pre : α → Prop} {post : α → D → Prop} {rs : α → Addr → Prop} {E : XK} {X : Addr → Prop} {t : TA} (L : Lets K G B E X)
    (h : VA K G B t env fun xs => ∃ x, xs = (args x).map XV.p ∧ pre x ∧ (∀ C, rs x C → X C) ∧ ∀ d, post x d → Q (.p d)) : VE K G B (tCall (SpA K G fr args pre post rs) [] E t) env Q := fun σ R H rp Qh k =>
  h σ R H rp _ fun vs R1 H1 xs r1 s1 hv _ ⟨x, e, hp, hr, q⟩ => by
    subst e
    rw [List.append_nil]
    exact ⟨R1, x, ⟨r1.sub, r1.tab'⟩, atL_of hv, hp, fun v R' H' d s ha _ hd => k v R' H' (.p d) (r1.go s) (s1.trans s.same) ha (q d hd), fun C R' H' s hc => L C R' H' (r1.step.trans s) (hr C hc)⟩
/-- no list or dict within -/
def D.deepT : Nat → D → Bool
  | 0, _ => false
  | n + 1, d => match d with
    | .tup ds => ds.all (D.deepT n)
    | .lst _ => false
    | .ro _ => false
    | .dct _ => false
    | .lkd _ _ => false
    | .dtt _ => false
    | .ins _ _ _ => false
    | _ => true
def D.flat (d : D) : Bool := match d with
  | .lst ds => ds.all (D.deepT 9)
  | .dct kvs => kvs.all fun p => D.deepT 9 p.2
  | d => D.deepT 9 d
def without (R : Hp) (a : Addr) : Hp := fun b => if b = a then none else R b
theorem without_ne {a b : Addr} (h : b ≠ a) : without R a b = R b := by unfold without; rw [if_neg h]
theorem without_same {a : Addr} : without R a a = none := by unfold without; rw [if_pos rfl]
theorem at_without {a : Addr} {y : HO} (ha : R a = some y) (hy : isLD y = true) : ∀ (n : Nat) {v : V} {d : D}, D.deepT n d = true → At K R v d → At K (without R a) v d := by
  intro n
  induction n with
  | zero => intro v d h _; cases h
  | succ n ih =>
    intro v d h t
    cases t with
    | non => exact .non
    | bl b => exact .bl b
    | int i => exact .int i
    | str x => exact .str x
    | @tup b xs ds hs ht =>
      refine .tup (xs := xs) ?_ ?_
      · rcases hs with (hs | ⟨o, hs⟩) | hs
        · refine .inl (.inl ?_)
          rw [without_ne]
          · exact hs
          · rintro rfl
            rw [ha] at hs
            cases hs
            cases hy
        · refine .inl (.inr ⟨o, ?_⟩)
          rw [without_ne]
          · exact hs
          · rintro rfl
            rw [ha] at hs
            cases hs
            cases hy
        · exact .inr hs
      · have hd : ∀ d ∈ ds, D.deepT n d = true := List.all_eq_true.mp h
        exact ht.imp fun v d hm => ih (hd d hm)
    | lst _ _ => cases h
    | ro _ _ => cases h
    | dct _ _ => cases h
    | lkd _ _ => cases h
    | dtt _ => cases h
    | ins _ _ _ => cases h
    | @key b ks hs =>
      refine .key ?_
      rw [without_ne]
      · exact hs
      · rintro rfl
        rw [ha] at hs
        cases hs
        cases hy
    | ty n => exact .ty n
    | @st b φ hs =>
      refine .st (φ := φ) ?_
      rw [without_ne]
      · exact hs
      · rintro rfl
        rw [ha] at hs
        cases hs
        cases hy
    | ptr b => exact .ptr b
    | @cm b i j hs =>
      refine .cm (i := i) (j := j) ?_
      rw [without_ne]
      · exact hs
      · rintro rfl
        rw [ha] at hs
        cases hs
        cases hy

theorem AtL.without {a : Addr} {y : HO} (ha : R a = some y) (hy : isLD y = true) {n : Nat} {vs : List V} {ds : List D} (h : ds.all (D.deepT n) = true) (t : AtL K R vs ds) : AtL K (without R a) vs ds :=
  t.imp fun v d hm => at_without ha hy n (List.all_eq_true.mp h d hm)
theorem AtD.without {a : Addr} {y : HO} (ha : R a = some y) (hy : isLD y = true) {n : Nat} {vs : List (Key × V)} {ds : List (Key × D)} (h : (ds.all fun p => D.deepT n p.2) = true) (t : AtD K R vs ds) : AtD K (without R a) vs ds :=
  t.imp fun v d hm => at_without ha hy n (by
    obtain ⟨p, hp, rfl⟩ := List.mem_map.mp hm
    exact List.all_eq_true.mp h p hp)
/-- a step of a call whose result is a new object that is kept apart -/
theorem Rep.goW (r : Rep K G B env σ R H) (s : Step K G R H R' H') {a : Addr} (h : H a = none) : Rep K G B env σ (without R' a) H' where
  sub0 := r.sub0
  tab := r.tab
  step := {
    same := fun b x e => by
      rw [without_ne]
      · exact (r.step.trans s).same b x e
      · rintro rfl
        rw [r.sub0.none (r.fresh h)] at e
        cases e
    sub := fun b x e => by
      by_cases hb : b = a
      · subst hb
        rw [without_same] at e
        cases e
      · rw [without_ne hb] at e
        exact s.sub b x e
    kept := (r.step.trans s).kept
    out := fun b y e hd n => by
      by_cases hb : b = a
      · subst hb
        exact without_same
      · rw [without_ne hb]
        exact (r.step.trans s).out b y e hd n }
  len := r.len
  dist := r.dist
  pr := fun q hq => by
    obtain ⟨h1, h2, h3, h4⟩ := (r.go s).pr q hq
    exact ⟨h1, by rw [without_ne (r.nopr h q hq)]; exact h2, h3, h4⟩
  slots := fun i sl q => by
    have same : Same R (without R' a) := fun b x e => by
      rw [without_ne]
      · exact s.same b x e
      · rintro rfl
        rw [r.sub.none h] at e
        cases e
    have := r.slots i sl q
    cases sl with
    | u => trivial
    | p d =>
      obtain ⟨v, h1, h2⟩ := this
      exact ⟨v, h1, h2.same same⟩
    | mu d =>
      obtain ⟨b, y, h1, h2, h3, h4, h5⟩ := this
      have hb : b ≠ a := ne_of_none h4 h
      exact ⟨b, y, h1, h2, by rw [without_ne hb]; exact s.out b y h4 (hard_ld (mat_ld h5)) h3, s.kept b y h4 (no_mk h3), h5.same same⟩
    | hp gs =>
      refine fun g hg => ?_
      obtain ⟨h2, h3, y, h4, h5⟩ := this g hg
      have hb : g.1 ≠ a := ne_of_none h4 h
      exact ⟨h2, by rw [without_ne hb]; exact s.out _ y h4 (hard_ld (mat_ld h5)) h3, y, s.kept _ y h4 (no_mk h3), h5.same same⟩
theorem Rep.sameW (r : Rep K G B env σ R H) (s : Step K G R H R' H') {a : Addr} (h : H a = none) : Same R (without R' a) := fun b x e => by
  rw [without_ne]
  · exact s.same b x e
  · rintro rfl
    rw [r.sub.none h] at e
    cases e
/-- a call whose result is a new list or dict of plain things, kept as one's own -/
theorem ve_callO {α : Type} {args : α → List D} {pre : α → Prop} {post : α → D → Prop} {rs : α → Addr → Prop} {E : XK} {X : Addr → Prop} {t : TA} (L : Lets K G B E X)
    (h : VA K G B t env fun xs => ∃ x, xs = (args x).map XV.p ∧ pre x ∧ (∀ C, rs x C → X C) ∧ ∀ d, post x d → D.flat d = true ∧ ((∃ ds, d = .lst ds) ∨ ∃ ds, d = .dct ds) ∧ Q (.o d)) : VE K G B (tCall (SpA K G true args pre post rs) [] E t) env Q := fun σ R H rp Qh k =>
  h σ R H rp _ fun vs R1 H1 xs r1 s1 hv _ ⟨x, e, hp, hr, q⟩ => by
    subst e
    rw [List.append_nil]
    refine ⟨R1, x, ⟨r1.sub, r1.tab'⟩, atL_of hv, hp, fun v R' H' d s ha hf hd => ?_, fun C R' H' s hc => L C R' H' (r1.step.trans s) (hr C hc)⟩
    obtain ⟨a, rfl, hn, hz⟩ := hf rfl
    obtain ⟨fl, ld, q⟩ := q d hd
    refine k (.ref a) (VL.without R' a) H' (.o d) (r1.goW s hn) (s1.trans (r1.sameW s hn)) ?_ q
    rcases ld with ⟨ds, rfl⟩ | ⟨ds, rfl⟩
    · cases ha with
      | lst h1 h2 => exact ⟨a, _, rfl, r1.fresh hn, without_same, s.sub.of h1 rfl, AtL.without h1 rfl fl h2, r1.noslot hn, r1.nopr hn⟩
    · cases ha with
      | @dct _ xs _ h1 h2 => exact ⟨a, _, rfl, r1.fresh hn, without_same, s.sub.of h1 rfl, AtD.without h1 rfl fl h2, r1.noslot hn, r1.nopr hn⟩

/-! ### slots -/
theorem Rep.set (r : Rep K G B env σ R H) {i : Nat} {sl : Slot} {v : V} (hi : i < env.length) (h : SlotAt K B R H (σ.set i (some v)) i sl)
    (hm : ∀ a, Slot.owns (some (some v)) a sl → NoOwn env σ a ∧ ∀ q ∈ B.pr, q.1 ≠ a) : Rep K G B (env.set i sl) (σ.set i (some v)) R H where
  sub0 := r.sub0
  tab := r.tab
  step := r.step
  len := by rw [List.length_set, List.length_set]; exact r.len
  slots := fun j s q => by
    by_cases e : i = j
    · subst e
      rw [List.getElem?_set_self hi] at q
      cases q
      exact h
    · rw [List.getElem?_set_ne e] at q
      have := r.slots j s q
      cases s with
      | u => trivial
      | p d =>
        obtain ⟨w, h1, h2⟩ := this
        exact ⟨w, by rw [List.getElem?_set_ne e]; exact h1, h2⟩
      | mu d =>
        obtain ⟨a, y, h1, h2⟩ := this
        exact ⟨a, y, by rw [List.getElem?_set_ne e]; exact h1, h2⟩
      | hp gs => exact this
  dist := fun j k sj sk a hjk hj hk => by
    have hs : i < σ.length := by rw [r.len]; exact hi
    by_cases ej : i = j
    · subst ej
      rw [List.getElem?_set_self hi] at hj
      have ek : ¬ i = k := hjk
      rw [List.getElem?_set_ne ek] at hk
      rw [List.getElem?_set_self hs, List.getElem?_set_ne ek]
      cases hj
      exact fun o => (hm a o).1 k _ hk
    · rw [List.getElem?_set_ne ej] at hj
      by_cases ek : i = k
      · subst ek
        rw [List.getElem?_set_self hi] at hk
        rw [List.getElem?_set_self hs, List.getElem?_set_ne ej]
        cases hk
        exact fun o o' => (hm a o').1 j _ hj o
      · rw [List.getElem?_set_ne ek] at hk
        rw [List.getElem?_set_ne ek, List.getElem?_set_ne ej]
        exact r.dist j k sj sk a hjk hj hk
  pr := fun q hq => by
    obtain ⟨h1, h2, h3, h0, h4⟩ := r.pr q hq
    refine ⟨h1, h2, h3, h0, fun j e hj => ?_⟩
    have hs : i < σ.length := by rw [r.len]; exact hi
    by_cases ej : i = j
    · subst ej
      rw [List.getElem?_set_self hi] at hj
      cases hj
      rw [List.getElem?_set_self hs]
      exact fun z => (hm _ z).2 q hq rfl
    · rw [List.getElem?_set_ne ej] at hj ⊢
      exact h4 j e hj
theorem noOwn_u {s : Option (Option V)} {P : Addr → Prop} : ∀ a, Slot.owns s a .u → P a := fun _ h => h.elim
theorem noOwn_p {s : Option (Option V)} {d : D} {P : Addr → Prop} : ∀ a, Slot.owns s a (.p d) → P a := fun _ h => h.elim
theorem Rep.ilt (r : Rep K G B env σ R H) {i : Nat} (hi : i < env.length) : i < σ.length := by rw [r.len]; exact hi

/-! ### targets -/
variable {nx : Vn → Prop} {rt : XV → Prop} {bk ct : Vn → Prop} {Qe : Vn → Prop}
theorem vg_p {i : Nat} {d : D} (hi : i < env.length) (q : Qe (env.set i (.p d))) : VG K G B (gName i) (.p d) env Qe := fun σ R H r v hv Qh k =>
  k _ _ R H (r.set (sl := .p d) hi ⟨v, List.getElem?_set_self (r.ilt hi), hv⟩ noOwn_p) (Same.refl R) q
theorem vg_o {i : Nat} {d : D} (hi : i < env.length) (q : Qe (env.set i (.mu d))) : VG K G B (gName i) (.o d) env Qe := fun σ R H r v hv Qh k => by
  obtain ⟨a, y, rfl, h1, h2, h3, h4, h5, h6⟩ := hv
  exact k _ _ R H (r.set (sl := .mu d) hi ⟨a, y, List.getElem?_set_self (r.ilt hi), h1, h2, h3, h4⟩ fun b z => by
    have z' : (some (some (V.ref a)) : Option (Option V)) = some (some (.ref b)) := z
    cases z'
    exact ⟨h5, h6⟩) (Same.refl R) q
def VGs (K : PySem.W.Frag) (G : Gs) (B : Bs) (g : TGs) (ds : List D) (env : Vn) (Q : Vn → Prop) : Prop := ∀ σ R H, Rep K G B env σ R H → ∀ vs, AtL K R vs ds → ∀ Qh : L2.St → Hp → Prop,
  (∀ env' σ' R' H', Rep K G B env' σ' R' H' → Same R R' → Q env' → Qh σ' H') → g vs σ H Qh
theorem vgs_nil (q : Qe env) : VGs K G B gNil [] env Qe := fun σ R H r vs hv Qh k => by
  cases hv
  exact ⟨rfl, k _ _ _ _ r (Same.refl R) q⟩
theorem vgs_cons {t : TG} {u : TGs} {d : D} {ds : List D} (h : VG K G B t (.p d) env fun e => VGs K G B u ds e Qe) : VGs K G B (gCons t u) (d :: ds) env Qe := fun σ R H r vs hv Qh k => by
  cases hv with
  | @cons v vs _ _ h1 h2 =>
    exact ⟨v, vs, rfl, h σ R H r v h1 _ fun e' σ' R' H' r' s' q => q σ' R' H' r' vs (h2.same s') Qh fun e2 σ2 R2 H2 r2 s2 q2 => k e2 σ2 R2 H2 r2 (s'.trans s2) q2⟩
theorem vg_tup {n : Nat} {t : TGs} {ds : List D} (hn : ds.length = n) (h : VGs K G B t ds env Qe) : VG K G B (gTup K n t) (.p (.tup ds)) env Qe := fun σ R H r v hv Qh k => by
  cases hv with
  | @tup a xs _ h1 h2 => exact ⟨a, xs, rfl, r.sub.t h1, by rw [h2.len]; exact hn, h σ R H r xs h2 Qh k⟩
theorem vg_lst {n : Nat} {t : TGs} {ds : List D} (hn : ds.length = n) (h : VGs K G B t ds env Qe) : VG K G B (gUnl K n t) (.p (.lst ds)) env Qe := fun σ R H r v hv Qh k => by
  cases hv with
  | @lst a xs _ h1 h2 => exact ⟨a, xs, rfl, r.sub.l (.inl (.inl h1)), by rw [h2.len]; exact hn, h σ R H r xs h2 Qh k⟩

/-! ### statements -/
theorem vs_next (q : nx env) : VS K G B tNext env nx rt bk ct := fun σ R H r Z kn _ _ _ => kn env σ R H r (Same.refl R) q
theorem vs_break (q : bk env) : VS K G B tBreak env nx rt bk ct := fun σ R H r Z _ _ kb _ => kb env σ R H r (Same.refl R) q
theorem vs_cont (q : ct env) : VS K G B tCont env nx rt bk ct := fun σ R H r Z _ _ _ kc => kc env σ R H r (Same.refl R) q
theorem vs_seq {t u : TS} (h : VS K G B t env (fun e => VS K G B u e nx rt bk ct) rt bk ct) : VS K G B (tSeq t u) env nx rt bk ct := fun σ R H r Z kn kr kb kc =>
  h σ R H r { Z with nx := u Z } (fun e' σ' R' H' r' s' q => q σ' R' H' r' Z (fun e2 σ2 R2 H2 r2 s2 q2 => kn e2 σ2 R2 H2 r2 (s'.trans s2) q2) (fun v e2 σ2 R2 H2 x r2 s2 hv q2 => kr v e2 σ2 R2 H2 x r2 (s'.trans s2) hv q2)
    (fun e2 σ2 R2 H2 r2 s2 q2 => kb e2 σ2 R2 H2 r2 (s'.trans s2) q2) (fun e2 σ2 R2 H2 r2 s2 q2 => kc e2 σ2 R2 H2 r2 (s'.trans s2) q2)) kr kb kc
theorem vs_mid {t u : TS} (M : Vn → Prop) (h : VS K G B t env M rt bk ct) (h2 : ∀ e, M e → VS K G B u e nx rt bk ct) : VS K G B (tSeq t u) env nx rt bk ct :=
  vs_seq fun σ R H r Z kn kr kb kc => h σ R H r Z (fun e σ' R' H' r' s' q => kn e σ' R' H' r' s' (h2 e q)) kr kb kc
theorem vs_ret {te : TE} (h : VE K G B te env rt) : VS K G B (tRet te) env nx rt bk ct := fun σ R H r Z _ kr _ _ => h σ R H r _ fun v R' H' x r' s' hv q => kr v env σ R' H' x r' s' hv q
theorem vs_retN (q : rt (.p .non)) : VS K G B tRetN env nx rt bk ct := fun σ R H r Z _ kr _ _ => kr _ env σ R H (.p .non) r (Same.refl R) At.non q
theorem vs_expr {te : TE} (h : VE K G B te env fun _ => nx env) : VS K G B (tDrop te) env nx rt bk ct := fun σ R H r Z kn _ _ _ => h σ R H r _ fun v R' H' x r' s' hv q => kn env σ R' H' r' s' q
theorem vs_if {c : TT} {t u : TS} (h : VT K G B c env fun b => (b = true → VS K G B t env nx rt bk ct) ∧ (b = false → VS K G B u env nx rt bk ct)) : VS K G B (tIfS c t u) env nx rt bk ct := fun σ R H r Z kn kr kb kc =>
  h σ R H r _ fun b R' H' r' s' q => by
    have kn' : ∀ env' σ' R'' H', Rep K G B env' σ' R'' H' → Same R' R'' → nx env' → Z.nx σ' H' := fun e σ2 R2 H2 r2 s2 q2 => kn e σ2 R2 H2 r2 (s'.trans s2) q2
    have kr' : ∀ v env' σ' R'' H' x, Rep K G B env' σ' R'' H' → Same R' R'' → VAt K B env' σ' R'' H' v x → rt x → Z.rt v H' := fun v e σ2 R2 H2 x r2 s2 hv q2 => kr v e σ2 R2 H2 x r2 (s'.trans s2) hv q2
    have kb' : ∀ env' σ' R'' H', Rep K G B env' σ' R'' H' → Same R' R'' → bk env' → Z.bk σ' H' := fun e σ2 R2 H2 r2 s2 q2 => kb e σ2 R2 H2 r2 (s'.trans s2) q2
    have kc' : ∀ env' σ' R'' H', Rep K G B env' σ' R'' H' → Same R' R'' → ct env' → Z.ct σ' H' := fun e σ2 R2 H2 r2 s2 q2 => kc e σ2 R2 H2 r2 (s'.trans s2) q2
    cases b with
    | true =>
      show t Z σ H'
      exact q.1 rfl σ R' H' r' Z kn' kr' kb' kc'
    | false =>
      show u Z σ H'
      exact q.2 rfl σ R' H' r' Z kn' kr' kb' kc'
theorem vs_asg {te : TE} {g : TG} (h : VE K G B te env fun x => VG K G B g x env nx) : VS K G B (tAsg te g) env nx rt bk ct := fun σ R H r Z kn _ _ _ =>
  h σ R H r _ fun v R' H' x r' s' hv q => q σ R' H' r' v hv _ fun e2 σ2 R2 H2 r2 s2 q2 => kn e2 σ2 R2 H2 r2 (s'.trans s2) q2
theorem vs_aug {i : Nat} {te : TE} {ti : TIp} {d : D} (hd : env[i]? = some (.p d)) (h : VE K G B te env fun y => y.fz fun y => VO K G B ti env (.p d) y fun z => VG K G B (gName i) z env nx) : VS K G B (tAug i te ti) env nx rt bk ct := fun σ R H r Z kn _ _ _ => by
  obtain ⟨x, h1, h2⟩ := r.slots i _ hd
  refine ⟨x, h1, h σ R H r _ fun w R1 H1 y r1 s1 hw q1 => ?_⟩
  obtain ⟨R2, y', r2, s2, hw2, ho, q2⟩ := hw.fz r1 q1
  exact q2 σ R2 H1 r2 x w (At.same (s1.trans s2) h2) hw2 _ fun z R3 H3 x3 r3 s3 hz q3 => q3 σ R3 H3 r3 z hz _ fun e4 σ4 R4 H4 r4 s4 q4 => kn e4 σ4 R4 H4 r4 (((s1.trans s2).trans s3).trans s4) q4

/-! ### tests -/
variable {Qb : Bool → Prop}
theorem vt_B {te : TE} (h : VE K G B te env fun x => ∃ b, x = .p (.bl b) ∧ Qb b) : VT K G B (tB te) env Qb := fun σ R H r Qh k => h σ R H r _ fun v R' H' x r' s' hv ⟨b, e, q⟩ => by
  subst e
  cases hv
  exact ⟨b, rfl, k b R' H' r' s' q⟩
theorem vt_test {te : TE} (h : VE K G B te env fun x => ∃ b, x = .p (.bl b) ∧ Qb b) : VT K G B (tTest te) env Qb := fun σ R H r Qh k => h σ R H r _ fun v R' H' x r' s' hv ⟨b, e, q⟩ => by
  subst e
  cases hv
  exact ⟨b, rfl, k b R' H' r' s' q⟩
theorem vt_and {t u : TT} (h : VT K G B t env fun b => (b = true → VT K G B u env Qb) ∧ (b = false → Qb false)) : VT K G B (tAnd t u) env Qb := fun σ R H r Qh k => h σ R H r _ fun b R' H' r' s' q => by
  cases b with
  | true =>
    show u σ H' Qh
    exact q.1 rfl σ R' H' r' Qh fun c R2 H2 r2 s2 q2 => k c R2 H2 r2 (s'.trans s2) q2
  | false =>
    show Qh false H'
    exact k false R' H' r' s' (q.2 rfl)
theorem vt_or {t u : TT} (h : VT K G B t env fun b => (b = true → Qb true) ∧ (b = false → VT K G B u env Qb)) : VT K G B (tOr t u) env Qb := fun σ R H r Qh k => h σ R H r _ fun b R' H' r' s' q => by
  cases b with
  | true =>
    show Qh true H'
    exact k true R' H' r' s' (q.1 rfl)
  | false =>
    show u σ H' Qh
    exact q.2 rfl σ R' H' r' Qh fun c R2 H2 r2 s2 q2 => k c R2 H2 r2 (s'.trans s2) q2
theorem vt_not {t : TT} (h : VT K G B t env fun b => Qb (!b)) : VT K G B (tNot t) env Qb := fun σ R H r Qh k => h σ R H r _ fun b R' H' r' s' q => k (!b) R' H' r' s' q
theorem ve_andV {ta tb : TE} (h : VE K G B ta env fun x => ∃ b, x = .p (.bl b) ∧ (b = true → VE K G B tb env Q) ∧ (b = false → Q (.p (.bl false)))) : VE K G B (tAndV ta tb) env Q := fun σ R H r Qh k => h σ R H r _ fun v R' H' x r' s' hv ⟨b, e, q1, q2⟩ => by
  subst e
  cases hv
  refine ⟨b, rfl, ?_⟩
  cases b with
  | true =>
    show tb σ H' Qh
    exact q1 rfl σ R' H' r' Qh fun z R2 H2 x2 r2 s2 hz q => k z R2 H2 x2 r2 (s'.trans s2) hz q
  | false =>
    show Qh (.bl false) H'
    exact k _ R' H' (.p (.bl false)) r' s' (At.bl false) (q2 rfl)
theorem ve_orV {ta tb : TE} (h : VE K G B ta env fun x => ∃ b, x = .p (.bl b) ∧ (b = true → Q (.p (.bl true))) ∧ (b = false → VE K G B tb env Q)) : VE K G B (tOrV ta tb) env Q := fun σ R H r Qh k => h σ R H r _ fun v R' H' x r' s' hv ⟨b, e, q1, q2⟩ => by
  subst e
  cases hv
  refine ⟨b, rfl, ?_⟩
  cases b with
  | true =>
    show Qh (.bl true) H'
    exact k _ R' H' (.p (.bl true)) r' s' (At.bl true) (q1 rfl)
  | false =>
    show tb σ H' Qh
    exact q2 rfl σ R' H' r' Qh fun z R2 H2 x2 r2 s2 hz q => k z R2 H2 x2 r2 (s'.trans s2) hz q
theorem ve_notV {ta : TE} (h : VE K G B ta env fun x => ∃ b, x = .p (.bl b) ∧ Q (.p (.bl (!b)))) : VE K G B (tNotV ta) env Q := fun σ R H r Qh k => h σ R H r _ fun v R' H' x r' s' hv ⟨b, e, q⟩ => by
  subst e
  cases hv
  exact ⟨b, rfl, k _ R' H' (.p (.bl (!b))) r' s' (At.bl _) q⟩
theorem ve_if {t : TT} {ta tb : TE} (h : VT K G B t env fun b => (b = true → VE K G B ta env Q) ∧ (b = false → VE K G B tb env Q)) : VE K G B (tIf t ta tb) env Q := fun σ R H r Qh k => h σ R H r _ fun b R' H' r' s' q => by
  cases b with
  | true =>
    show ta σ H' Qh
    exact q.1 rfl σ R' H' r' Qh fun z R2 H2 x2 r2 s2 hz q => k z R2 H2 x2 r2 (s'.trans s2) hz q
  | false =>
    show tb σ H' Qh
    exact q.2 rfl σ R' H' r' Qh fun z R2 H2 x2 r2 s2 hz q => k z R2 H2 x2 r2 (s'.trans s2) hz q

/-! ### own objects change -/
/-- an object of a slot changes, and with it the slot -/
theorem Rep.mutS (r : Rep K G B env σ R H) {i : Nat} {sl sl' : Slot} {a : Addr} {y : HO} (hd : env[i]? = some sl) (ha : Slot.owns σ[i]? a sl) (hs : SlotAt K B R (upd H a y) σ i sl') (ho : ∀ b, Slot.owns σ[i]? b sl' → Slot.owns σ[i]? b sl) : Rep K G B (env.set i sl') σ R (upd H a y) := by
  obtain ⟨h0, hn, y0, hy, hl⟩ := r.own hd ha
  have hi : i < env.length := (List.getElem?_eq_some_iff.mp hd).1
  have back : ∀ (j : Nat) s b, (env.set i sl')[j]? = some s → Slot.owns σ[j]? b s → ∃ s0, env[j]? = some s0 ∧ Slot.owns σ[j]? b s0 := fun j s b hj o => by
    by_cases e : i = j
    · subst e
      rw [List.getElem?_set_self hi] at hj
      cases hj
      exact ⟨sl, hd, ho b o⟩
    · rw [List.getElem?_set_ne e] at hj
      exact ⟨s, hj, o⟩
  exact {
    sub0 := r.sub0
    tab := r.tab
    step := {
      same := r.step.same
      sub := fun b x e => subAt_go (r.step.sub b x e) (upd_ne (ne_of_none e hn)) (hard_own hy hl)
      kept := fun b x e n => by
        rw [upd_ne (ne_of_none e h0)]
        exact r.step.kept b x e n
      out := r.step.out }
    len := by rw [List.length_set]; exact r.len
    slots := fun j s q => by
      by_cases e : i = j
      · subst e
        rw [List.getElem?_set_self hi] at q
        cases q
        exact hs
      · rw [List.getElem?_set_ne e] at q
        have := r.slots j s q
        cases s with
        | u => trivial
        | p d => exact this
        | mu d =>
          obtain ⟨b, z, g1, g2, g3, g4, g5⟩ := this
          have hb : b ≠ a := fun w => by
            subst w
            exact r.dist i j _ _ b e hd q ha g1
          exact ⟨b, z, g1, g2, g3, by rw [upd_ne hb]; exact g4, g5⟩
        | hp gs =>
          refine fun g hg => ?_
          obtain ⟨g2, g3, z, g4, g5⟩ := this g hg
          have hb : g.1 ≠ a := fun w => r.dist i j _ _ a e hd q ha (show a ∈ gs.map (·.1) from List.mem_map.mpr ⟨g, hg, w⟩)
          exact ⟨g2, g3, z, by rw [upd_ne hb]; exact g4, g5⟩
    dist := fun j k sj sk b hjk hj hk o1 o2 => by
      obtain ⟨t1, q1, w1⟩ := back j sj b hj o1
      obtain ⟨t2, q2, w2⟩ := back k sk b hk o2
      exact r.dist j k t1 t2 b hjk q1 q2 w1 w2
    pr := fun q hq => by
      obtain ⟨g1, g2, g3, g0, g4⟩ := r.pr q hq
      have hb : q.1 ≠ a := fun w => g4 i _ hd (by rw [w]; exact ha)
      refine ⟨g1, g2, by rw [upd_ne hb]; exact g3, g0, fun j e hj o => ?_⟩
      obtain ⟨t1, q1, w1⟩ := back j e _ hj o
      exact g4 j t1 q1 w1 }
/-- the object of an own slot changes -/
theorem Rep.mut (r : Rep K G B env σ R H) {i : Nat} {d d' : D} {a : Addr} {y : HO} (hd : env[i]? = some (.mu d)) (ha : σ[i]? = some (some (.ref a))) (hm : MAt K R y d') : Rep K G B (env.set i (.mu d')) σ R (upd H a y) := by
  obtain ⟨h0, hn, _⟩ := r.own hd (show Slot.owns σ[i]? a (.mu d) from ha)
  exact r.mutS (sl' := .mu d') hd ha ⟨a, y, ha, h0, hn, upd_same, hm⟩ fun b o => o
/-- an own object of nobody's changes -/
theorem Rep.mutA (r : Rep K G B env σ R H) {a : Addr} {y y0 : HO} (hy : H a = some y0) (hl : hard y0 = false) (h0 : B.H a = none) (hn : R a = none) (hs : NoOwn env σ a) (hp : ∀ q ∈ B.pr, q.1 ≠ a) : Rep K G B env σ R (upd H a y) where
  sub0 := r.sub0
  tab := r.tab
  step := {
    same := r.step.same
    sub := fun b x e => subAt_go (r.step.sub b x e) (upd_ne (ne_of_none e hn)) (hard_upd fun u e => by rw [hy] at e; cases e; exact hl)
    kept := fun b x e n => by
      rw [upd_ne (ne_of_none e h0)]
      exact r.step.kept b x e n
    out := r.step.out }
  len := r.len
  dist := r.dist
  pr := fun q hq => by
    obtain ⟨g1, g2, g3, g0, g4⟩ := r.pr q hq
    exact ⟨g1, g2, by rw [upd_ne (hp q hq)]; exact g3, g0, g4⟩
  slots := fun j s q => by
    have := r.slots j s q
    cases s with
    | u => trivial
    | p d => exact this
    | mu d =>
      obtain ⟨b, z, g1, g2, g3, g4, g5⟩ := this
      have hb : b ≠ a := fun w => by
        subst w
        exact hs j _ q g1
      exact ⟨b, z, g1, g2, g3, by rw [upd_ne hb]; exact g4, g5⟩
    | hp gs =>
      refine fun g hg => ?_
      obtain ⟨g2, g3, z, g4, g5⟩ := this g hg
      have hb : g.1 ≠ a := fun w => hs j _ q (show a ∈ gs.map (·.1) from List.mem_map.mpr ⟨g, hg, w⟩)
      exact ⟨g2, g3, z, by rw [upd_ne hb]; exact g4, g5⟩
/-- a slot is forgotten -/
theorem Rep.forget (r : Rep K G B env σ R H) (i : Nat) : Rep K G B (env.set i .u) σ R H := by
  have back : ∀ (j : Nat) s, (env.set i .u)[j]? = some s → s = .u ∨ env[j]? = some s := fun j s hj => by
    by_cases e : i = j
    · subst e
      have hi := (List.getElem?_eq_some_iff.mp hj).1
      rw [List.length_set] at hi
      rw [List.getElem?_set_self hi] at hj
      exact .inl (Option.some.inj hj).symm
    · rw [List.getElem?_set_ne e] at hj
      exact .inr hj
  exact {
    sub0 := r.sub0
    tab := r.tab
    step := r.step
    len := by rw [List.length_set]; exact r.len
    slots := fun j s hj => by
      rcases back j s hj with rfl | h
      · trivial
      · exact r.slots j s h
    dist := fun j k sj sk a hjk hj hk o1 o2 => by
      rcases back j sj hj with rfl | h
      · exact o1
      · rcases back k sk hk with rfl | h2
        · exact o2
        · exact r.dist j k sj sk a hjk h h2 o1 o2
    pr := fun q hq => by
      obtain ⟨g1, g2, g3, g0, g4⟩ := r.pr q hq
      refine ⟨g1, g2, g3, g0, fun j e hj o => ?_⟩
      rcases back j e hj with rfl | h
      · exact o
      · exact g4 j e h o }
/-- .. then nobody owns its object -/
theorem Rep.noown (r : Rep K G B env σ R H) {i : Nat} {sl : Slot} {a : Addr} (h : env[i]? = some sl) (ow : Slot.owns σ[i]? a sl) : NoOwn (env.set i .u) σ a := fun j e hj o => by
  have hi := (List.getElem?_eq_some_iff.mp h).1
  by_cases q : i = j
  · subst q
    rw [List.getElem?_set_self hi] at hj
    cases hj
    exact o.elim
  · rw [List.getElem?_set_ne q] at hj
    exact r.dist i j _ _ a q h hj ow o
theorem Rep.nopr' (r : Rep K G B env σ R H) {i : Nat} {sl : Slot} {a : Addr} (h : env[i]? = some sl) (ow : Slot.owns σ[i]? a sl) : ∀ q ∈ B.pr, q.1 ≠ a := fun q hq w => (r.pr q hq).2.2.2.2 i _ h (by rw [w]; exact ow)
/-- what is known is nobody's -/
theorem Rep.known (r : Rep K G B env σ R H) {a : Addr} {y : HO} (h : R a = some y) : NoOwn env σ a ∧ ∀ q ∈ B.pr, q.1 ≠ a := ⟨fun j sl hj o => (by
    have := (r.own hj o).2.1
    rw [h] at this
    cases this), fun q hq z => by
    have := (r.pr q hq).2.1
    rw [z, h] at this
    cases this⟩
/-- knowledge of an object of this def's is given up -/
theorem Rep.drop (r : Rep K G B env σ R H) {a : Addr} (hB : B.H a = none) (hs : ∀ i sl, env[i]? = some sl → SlotAt K B R H σ i sl → SlotAt K B (without R a) H σ i sl) : Rep K G B env σ (without R a) H where
  sub0 := r.sub0
  tab := r.tab
  step := {
    same := fun b x e => by
      rw [without_ne (fun z => by subst z; rw [r.sub0.none hB] at e; cases e)]
      exact r.step.same b x e
    sub := fun b x e => by
      by_cases hb : b = a
      · subst hb
        rw [without_same] at e
        cases e
      · rw [without_ne hb] at e
        exact r.step.sub b x e
    kept := r.step.kept
    out := fun b y e hd n => by
      rw [without_ne (fun z => by subst z; rw [hB] at e; cases e)]
      exact r.step.out b y e hd n }
  len := r.len
  dist := r.dist
  pr := fun q hq => by
    obtain ⟨g1, g2, g3, g0, g4⟩ := r.pr q hq
    refine ⟨g1, ?_, g3, g0, g4⟩
    by_cases hb : q.1 = a
    · rw [hb]
      exact without_same
    · rw [without_ne hb]
      exact g2
  slots := fun i sl h => hs i sl h (r.slots i sl h)
/-- protecting, and back -/
theorem Rep.guard (r : Rep K G B env σ R H) {a : Addr} {y : HO} (h0 : B.H a = none) (hn : R a = none) (hy : H a = some y) (hl : isLD y = true) (hs : NoOwn env σ a) : Rep K G { B with pr := (a, y) :: B.pr } env σ R H where
  sub0 := r.sub0
  tab := r.tab
  step := r.step
  len := r.len
  dist := r.dist
  slots := r.slots
  pr := fun q hq => by
    rcases List.mem_cons.mp hq with rfl | hq
    · exact ⟨h0, hn, hy, hl, hs⟩
    · exact r.pr q hq
theorem Rep.unguard {q : Addr × HO} (r : Rep K G { B with pr := q :: B.pr } env σ R H) : Rep K G B env σ R H where
  sub0 := r.sub0
  tab := r.tab
  step := r.step
  len := r.len
  dist := r.dist
  slots := r.slots
  pr := fun p hp => r.pr p (List.mem_cons_of_mem _ hp)
theorem Rep.guarded {a : Addr} {y : HO} (r : Rep K G { B with pr := (a, y) :: B.pr } env σ R H) : B.H a = none ∧ R a = none ∧ H a = some y ∧ isLD y = true ∧ NoOwn env σ a := r.pr _ List.mem_cons_self

/-! ### what is walked -/
/-- the walk J tells the items one by one, as plain things -/
structure Wk (K : PySem.W.Frag) (G : Gs) (B : Bs) (R : Hp) (J : It) (items : List D) : Prop where
  go : ∀ (B : Bs) env σ R' H', Rep K G B env σ R' H' → Same R R' → ∀ i d, items[i]? = some d → J.go i H' ∧ ∀ v H2, J.yld i H' v H2 → ∃ R2, Rep K G B env σ R2 H2 ∧ Same R' R2 ∧ At K R2 v d
  stop : ∀ (B : Bs) env σ R' H', Rep K G B env σ R' H' → Same R R' → J.stop items.length H'
def VI (K : PySem.W.Frag) (G : Gs) (B : Bs) (wi : TI) (env : Vn) (Q : List D → Prop) : Prop := ∀ σ R H, Rep K G B env σ R H → ∀ Qh : It → Hp → Prop,
  (∀ J R' H' items, Rep K G B env σ R' H' → Same R R' → Wk K G B R' J items → Q items → Qh J H') → wi σ H Qh
theorem vs_for {wi : TI} {g : TG} {tb : TS} (h : VI K G B wi env fun items => ∃ Iv : Nat → Vn → Prop, Iv 0 env ∧
    (∀ i d e, items[i]? = some d → Iv i e → VG K G B g (.p d) e fun e' => VS K G B tb e' (Iv (i + 1)) rt nx (Iv (i + 1))) ∧ (∀ e, Iv items.length e → nx e)) : VS K G B (tFor wi g tb) env nx rt bk ct := fun σ R H r Z kn kr kb kc =>
  h σ R H r _ fun J R1 H1 items r1 s1 wk ⟨Iv, h0, hs, he⟩ => by
    refine ⟨fun i m σ' H' => i + m = items.length ∧ ∃ e R', Rep K G B e σ' R' H' ∧ Same R1 R' ∧ Iv i e, ⟨items.length, Nat.zero_add _, env, R1, r1, Same.refl _, h0⟩, ?_⟩
    rintro i m σ' H' ⟨hi, e, R', r', s', q⟩
    by_cases hm : m = 0
    · subst hm
      have ei : i = items.length := hi
      subst ei
      exact .inl ⟨wk.stop B e σ' R' H' r' s', kn e σ' R' H' r' (s1.trans s') (he e q)⟩
    · have hlt : i < items.length := by omega
      obtain ⟨g1, g2⟩ := wk.go B e σ' R' H' r' s' i items[i] (List.getElem?_eq_getElem hlt)
      refine .inr ⟨g1, fun σ2 H2 => ∃ e2 R2, Rep K G B e2 σ2 R2 H2 ∧ Same R1 R2 ∧ Iv (i + 1) e2, fun σ2 H2 ⟨e2, R2, a, b, c⟩ => ⟨m - 1, by omega, by omega, e2, R2, a, b, c⟩, fun v H2 hy => ?_⟩
      obtain ⟨R2, r2, s2, hv⟩ := g2 v H2 hy
      refine hs i items[i] e (List.getElem?_eq_getElem hlt) q σ' R2 H2 r2 v hv _ fun e3 σ3 R3 H3 r3 s3 q3 => ?_
      have st : Same R R3 := ((s1.trans s').trans s2).trans s3
      have st1 : Same R1 R3 := (s'.trans s2).trans s3
      exact q3 σ3 R3 H3 r3 _ (fun e4 σ4 R4 H4 r4 s4 q4 => ⟨e4, R4, r4, st1.trans s4, q4⟩) (fun v e4 σ4 R4 H4 x r4 s4 hv4 q4 => kr v e4 σ4 R4 H4 x r4 (st.trans s4) hv4 q4)
        (fun e4 σ4 R4 H4 r4 s4 q4 => kn e4 σ4 R4 H4 r4 (st.trans s4) q4) (fun e4 σ4 R4 H4 r4 s4 q4 => ⟨e4, R4, r4, st1.trans s4, q4⟩)
theorem vs_while {c : TT} {tb : TS} (Iv : Nat → Vn → Prop) (h0 : ∃ m, Iv m env) (hs : ∀ m e, Iv m e → VT K G B c e fun b => (b = true → VS K G B tb e (fun e' => ∃ m', m' < m ∧ Iv m' e') rt nx (fun e' => ∃ m', m' < m ∧ Iv m' e')) ∧ (b = false → nx e)) :
    VS K G B (tWhile c tb) env nx rt bk ct := fun σ R H r Z kn kr kb kc => by
  obtain ⟨m0, h0⟩ := h0
  refine ⟨fun m σ' H' => ∃ e R', Rep K G B e σ' R' H' ∧ Same R R' ∧ Iv m e, ⟨m0, env, R, r, Same.refl R, h0⟩, ?_⟩
  rintro m σ' H' ⟨e, R', r', s', q⟩
  refine hs m e q σ' R' H' r' _ fun b R2 H2 r2 s2 q2 => ?_
  cases b with
  | true =>
    refine iteT ⟨fun σ3 H3 => ∃ e3 R3, Rep K G B e3 σ3 R3 H3 ∧ Same R R3 ∧ ∃ m', m' < m ∧ Iv m' e3, fun σ3 H3 ⟨e3, R3, a, b, m', hm, c⟩ => ⟨m', hm, e3, R3, a, b, c⟩, ?_⟩
    have st : Same R R2 := s'.trans s2
    exact q2.1 rfl σ' R2 H2 r2 _ (fun e4 σ4 R4 H4 r4 s4 q4 => ⟨e4, R4, r4, st.trans s4, q4⟩) (fun v e4 σ4 R4 H4 x r4 s4 hv4 q4 => kr v e4 σ4 R4 H4 x r4 (st.trans s4) hv4 q4)
        (fun e4 σ4 R4 H4 r4 s4 q4 => kn e4 σ4 R4 H4 r4 (st.trans s4) q4) (fun e4 σ4 R4 H4 r4 s4 q4 => ⟨e4, R4, r4, st.trans s4, q4⟩)
  | false => exact iteF (kn e σ' R2 H2 r2 (s'.trans s2) (q2.2 rfl))
/-- lists, tuples, ranges -/
theorem vi_list {tl : TE} {Ql : List D → Prop} (h : VE K G B tl env fun x => x.fz fun x => (∃ ds, (x = .p (.lst ds) ∨ x = .p (.ro ds)) ∧ Ql ds)) : VI K G B (iList K tl) env Ql := fun σ R H r Qh k =>
  h σ R H r _ fun v R1 H1 x r1 s1 hv q => by
    obtain ⟨R2, x', r2, s2, hv2, ho, ds, e, q2⟩ := hv.fz r1 q
    obtain ⟨a, xs, rfl, hl, ha⟩ : ∃ a xs, v = .ref a ∧ SqL K R2 a xs ∧ AtL K R2 xs ds := by
      rcases e with rfl | rfl
      · cases hv2 with
        | @lst a xs _ h1 h2 => exact ⟨a, xs, rfl, .inl (.inl h1), h2⟩
      · cases hv2 with
        | @ro a xs _ h1 h2 => exact ⟨a, xs, rfl, h1, h2⟩
    refine ⟨a, rfl, ⟨xs, r2.sub.l hl⟩, k _ R2 H1 ds r2 (s1.trans s2) ⟨?_, ?_⟩ q2⟩
    · intro B' e' σ' R' H' r' s' i d hi
      obtain ⟨v, hv, hd⟩ := ha.get hi
      have hL := r'.sub.l (same_l s' hl)
      refine ⟨⟨xs, v, hL, hv⟩, ?_⟩
      rintro w H3 ⟨rfl, hw⟩
      have := hw xs hL
      rw [hv] at this
      cases this
      exact ⟨R', r', Same.refl _, hd.same s'⟩
    · intro B' e' σ' R' H' r' s'
      exact ⟨xs, r'.sub.l (same_l s' hl), by rw [ha.len]; exact Nat.le_refl _⟩
theorem vi_tup {tl : TE} {Ql : List D → Prop} (h : VE K G B tl env fun x => ∃ ds, x = .p (.tup ds) ∧ Ql ds) : VI K G B (iTup K tl) env Ql := fun σ R H r Qh k =>
  h σ R H r _ fun v R2 H1 x r2 s2 hv2 ⟨ds, e, q2⟩ => by
    subst e
    obtain ⟨a, xs, rfl, hl, ha⟩ : ∃ a xs, v = .ref a ∧ SqT K R2 a xs ∧ AtL K R2 xs ds := by
      cases hv2 with
      | @tup a xs _ h1 h2 => exact ⟨a, xs, rfl, h1, h2⟩
    refine ⟨a, rfl, ⟨xs, r2.sub.t hl⟩, k _ R2 H1 ds r2 s2 ⟨?_, ?_⟩ q2⟩
    · intro B' e' σ' R' H' r' s' i d hi
      obtain ⟨v, hv, hd⟩ := ha.get hi
      have hL := r'.sub.t (same_t s' hl)
      refine ⟨⟨xs, v, hL, hv⟩, ?_⟩
      rintro w H3 ⟨rfl, hw⟩
      have := hw xs hL
      rw [hv] at this
      cases this
      exact ⟨R', r', Same.refl _, hd.same s'⟩
    · intro B' e' σ' R' H' r' s'
      exact ⟨xs, r'.sub.t (same_t s' hl), by rw [ha.len]; exact Nat.le_refl _⟩
def rangeD (lo : Int) (n : Nat) : List D := (List.range n).map fun i => D.int (lo + (i : Nat))
theorem rangeD_len (lo : Int) (n : Nat) : (rangeD lo n).length = n := by
  unfold rangeD
  rw [List.length_map, List.length_range]
theorem rangeD_get {lo : Int} {n i : Nat} {d : D} (h : (rangeD lo n)[i]? = some d) : i < n ∧ d = .int (lo + (i : Nat)) := by
  unfold rangeD at h
  rw [List.getElem?_map] at h
  by_cases hi : i < n
  · rw [List.getElem?_range hi] at h
    cases h
    exact ⟨hi, rfl⟩
  · rw [List.getElem?_eq_none_iff.mpr (by rw [List.length_range]; omega)] at h
    cases h
theorem wk_range {lo : Int} {n : Nat} : Wk K G B R (Itr lo n) (rangeD lo n) where
  go := fun B e σ R' H' r s i d hi => by
    obtain ⟨h1, rfl⟩ := rangeD_get hi
    refine ⟨h1, ?_⟩
    rintro v H2 ⟨rfl, rfl⟩
    exact ⟨R', r, Same.refl _, .int _⟩
  stop := fun B e σ R' H' r s => by
    rw [rangeD_len]
    exact Nat.le_refl _
theorem vi_range1 {ta : TA} {Ql : List D → Prop} (h : VA K G B ta env fun xs => ∃ j : Int, xs = [.p (.int j)] ∧ (-(2 ^ 62) ≤ j ∧ j < 2 ^ 62) ∧ Ql (rangeD 0 j.toNat)) : VI K G B (iRng1 ta) env Ql := fun σ R H r Qh k =>
  h σ R H r _ fun vs R1 H1 xs r1 s1 hv _ ⟨j, e, hj, q⟩ => by
    subst e
    match vs, hv with
    | [v], hv =>
      cases hv.1
      exact ⟨j, rfl, hj.1, hj.2, k _ R1 H1 _ r1 s1 wk_range q⟩
theorem vi_range2 {ta : TA} {Ql : List D → Prop} (h : VA K G B ta env fun xs => ∃ i j : Int, xs = [.p (.int i), .p (.int j)] ∧ (-(2 ^ 62) ≤ i ∧ i < 2 ^ 62 ∧ -(2 ^ 62) ≤ j ∧ j < 2 ^ 62) ∧ Ql (rangeD i (j - i).toNat)) : VI K G B (iRng2 ta) env Ql := fun σ R H r Qh k =>
  h σ R H r _ fun vs R1 H1 xs r1 s1 hv _ ⟨i, j, e, hj, q⟩ => by
    subst e
    match vs, hv with
    | [v, w], hv =>
      cases hv.1
      cases hv.2.1
      exact ⟨i, j, rfl, hj, k _ R1 H1 _ r1 s1 wk_range q⟩

/-! ### a def -/
theorem rep_start {N : List Str} {vs : List V} {ds : List D} (s : Sub K G R H) (tb : TabIn G R) (h : AtL K R vs ds) (hn : ds.length ≤ N.length) : Rep K G ⟨R, H, []⟩ (ds.map Slot.p ++ List.replicate (N.length - ds.length) .u) (L2.start N vs) R H where
  sub0 := s
  tab := tb
  step := Step.refl s
  len := by
    unfold L2.start
    rw [List.length_append, List.length_append, List.length_map, List.length_map, List.length_replicate, List.length_replicate, h.len]
  pr := fun _ h => by cases h
  slots := fun i sl q => by
    by_cases hi : i < ds.length
    · rw [List.getElem?_append_left (by rw [List.length_map]; exact hi), List.getElem?_map, List.getElem?_eq_getElem hi] at q
      cases q
      obtain ⟨v, h1, h2⟩ := h.get (List.getElem?_eq_getElem hi)
      refine ⟨v, ?_, h2⟩
      unfold L2.start
      rw [List.getElem?_append_left (by rw [List.length_map, h.len]; exact hi), List.getElem?_map, h1]
      rfl
    · rw [List.getElem?_append_right (by rw [List.length_map]; omega), List.getElem?_replicate] at q
      split at q
      · cases q
        trivial
      · cases q
  dist := fun i j si sj a _ q _ o => by
    by_cases hi : i < ds.length
    · rw [List.getElem?_append_left (by rw [List.length_map]; exact hi), List.getElem?_map, List.getElem?_eq_getElem hi] at q
      cases q
      exact o.elim
    · rw [List.getElem?_append_right (by rw [List.length_map]; omega), List.getElem?_replicate] at q
      split at q
      · cases q
        exact o.elim
      · cases q
/-- what a def hands back: a new object of its own, or a plain thing -/
def Rt (fr : Bool) (post : D → Prop) (x : XV) : Prop := match x with
  | .p d => fr = false ∧ post d
  | .o d => post d
  | .m _ d => post d
theorem run_def {α : Type} {fr : Bool} {args : α → List D} {pre : α → Prop} {post : α → D → Prop} {rs : α → Addr → Prop} {vs : List V} {Q : VK} {E : XK} {t : TS} {N : List Str}
    (hn : ∀ x, (args x).length ≤ N.length) {env0 : α → Vn} (he : ∀ x, (args x).map Slot.p ++ List.replicate (N.length - (args x).length) .u = env0 x)
    (h : ∀ B x, pre x → Lets K G B E (rs x) → VS K G B t (env0 x) (fun _ => fr = false ∧ post x .non) (Rt fr (post x)) (fun _ => False) (fun _ => False))
    (hs : SpA K G fr args pre post rs vs H Q E) : t { nx := fun _ H' => Q .non H', rt := Q } (L2.start N vs) H := by
  obtain ⟨R, x, ⟨s, tb⟩, ha, hp, q, qe⟩ := hs
  have h := h ⟨R, H, []⟩ x hp (fun C R' H' st hc => qe C R' H' st hc)
  rw [← he x] at h
  refine h _ R H (rep_start s tb ha (hn x)) _ ?_ ?_ ?_ ?_
  · intro e σ' R' H' r _ ⟨hf, hq⟩
    exact q .non R' H' .non r.step .non (fun z => by rw [hf] at z; cases z) hq
  · intro v e σ' R' H' y r _ hv hq
    cases y with
    | p d => exact q v R' H' d r.step hv (fun z => by rw [hq.1] at z; cases z) hq.2
    | o d =>
      obtain ⟨a, y, rfl, h0, hn, hy, hm, h5, h6⟩ := hv
      have r2 := r.take hy (mat_mk hm) h0 hn h5 h6
      exact q _ _ H' d r2.step (At.of_mat hm hn) (fun _ => ⟨a, rfl, h0, fun o u z => by
        rw [upd_same] at z
        cases z
        cases d <;> exact hm.elim⟩) hq
    | m i d =>
      obtain ⟨h1, h2⟩ := hv
      obtain ⟨a, y, g1, g2, g3, g4, g5⟩ := r.slots i _ h1
      rw [g1] at h2
      cases h2
      -- the slot is given up
      refine q _ (upd R' a y) H' d ?_ (At.of_mat g5 g3) (fun _ => ⟨a, rfl, g2, fun o u z => by
        rw [upd_same] at z
        cases z
        cases d <;> exact g5.elim⟩) hq
      exact {
        same := r.step.same.trans (same_take g3)
        sub := sub_put r.sub (subAt_of g4 (mat_mk g5))
        kept := r.step.kept
        out := fun b z e hd n => by
          rw [upd_ne (ne_of_none e g2)]
          exact r.step.out b z e hd n }
  · intro _ _ _ _ _ _ q
    exact q.elim
  · intro _ _ _ _ _ _ q
    exact q.elim
theorem spA_len {α : Type} {fr : Bool} {args : α → List D} {pre : α → Prop} {post : α → D → Prop} {rs : α → Addr → Prop} {vs : List V} {Q : VK} {E : XK} {n : Nat} (hn : ∀ x, (args x).length = n) (h : SpA K G fr args pre post rs vs H Q E) : vs.length = n := by
  obtain ⟨R, x, _, ha, _⟩ := h
  rw [ha.len, hn]

/-! ### ghost steps: an own object becomes plain; a list of good ints is drawn from -/
theorem set_same {i : Nat} {x : Option V} (h : σ[i]? = some x) : σ.set i x = σ := by
  apply List.ext_getElem?
  intro j
  by_cases e : i = j
  · subst e
    have hi := (List.getElem?_eq_some_iff.mp h).1
    rw [List.getElem?_set_self hi, h]
  · rw [List.getElem?_set_ne e]
/-- an own slot's object is marked or made plain: o -/
theorem Rep.putS (r : Rep K G B env σ R H) {i : Nat} {d d' : D} {a : Addr} {o : HO} (hd : env[i]? = some (.mu d)) (h1 : σ[i]? = some (some (.ref a))) (ho : SubAt K G H a o) (hat : At K (upd R a o) (.ref a) d') : Rep K G B (env.set i (.p d')) σ (upd R a o) H ∧ Same R (upd R a o) := by
  have ow : Slot.owns σ[i]? a (.mu d) := h1
  obtain ⟨h2, h3, _⟩ := r.own hd ow
  have hi : i < env.length := (List.getElem?_eq_some_iff.mp hd).1
  have e1 := set_same h1
  refine ⟨?_, same_take h3⟩
  have r1 : Rep K G B (env.set i .u) σ R H := by
    have := r.set (i := i) (sl := .u) (v := .ref a) hi trivial noOwn_u
    rw [e1] at this
    exact this
  have hs : NoOwn (env.set i .u) σ a := fun j e hj o => by
    by_cases q : i = j
    · subst q
      rw [List.getElem?_set_self hi] at hj
      cases hj
      exact o.elim
    · rw [List.getElem?_set_ne q] at hj
      exact r.dist i j _ _ a q hd hj ow o
  have r2 := r1.put ho h2 h3 hs fun q hq w => (r.pr q hq).2.2.2.2 i _ hd (by rw [w]; exact h1)
  have := r2.set (i := i) (sl := .p d') (v := .ref a) (by rw [List.length_set]; exact hi) ⟨.ref a, List.getElem?_set_self (r.ilt hi), hat⟩ noOwn_p
  rw [e1, List.set_set] at this
  exact this
theorem Rep.freeze (r : Rep K G B env σ R H) {i : Nat} {d : D} (hd : env[i]? = some (.mu d)) : ∃ R', Rep K G B (env.set i (.p d)) σ R' H ∧ Same R R' := by
  obtain ⟨a, y, h1, h2, h3, h4, h5⟩ := r.slots i _ hd
  exact ⟨_, r.putS hd h1 (subAt_of h4 (mat_mk h5)) (At.of_mat h5 h3)⟩
theorem vs_freeze (i : Nat) {t : TS} {d : D} (hd : env[i]? = some (.mu d)) (h : VS K G B t (env.set i (.p d)) nx rt bk ct) : VS K G B t env nx rt bk ct := fun σ R H r Z kn kr kb kc => by
  obtain ⟨R', r', s⟩ := r.freeze hd
  exact h σ R' H r' Z (fun e σ' R2 H2 r2 s2 => kn e σ' R2 H2 r2 (s.trans s2)) (fun v e σ' R2 H2 x r2 s2 => kr v e σ' R2 H2 x r2 (s.trans s2)) (fun e σ' R2 H2 r2 s2 => kb e σ' R2 H2 r2 (s.trans s2)) (fun e σ' R2 H2 r2 s2 => kc e σ' R2 H2 r2 (s.trans s2))
end
end VL

namespace VL
open PySem L2
section
variable {K : PySem.W.Frag} {G : Gs} {B : Bs} {env : Vn} {σ : L2.St} {R R' R1 H H' H1 : Hp} {Q : XV → Prop} {nx : Vn → Prop} {rt : XV → Prop} {bk ct : Vn → Prop} {Qe : Vn → Prop} {Qb : Bool → Prop}

/-! ### small keys to values -/
def XV.plains : List XV → Option (List D)
  | [] => some []
  | .p d :: r => match XV.plains r with
    | some ds => some (d :: ds)
    | none => none
  | _ :: _ => none
theorem plains_at : ∀ {vs : List V} {xs : List XV} {ds : List D}, XV.plains xs = some ds → VAtL K B env σ R H vs xs → AtL K R vs ds
  | [], [], _, e, _ => by
    cases e
    exact .nil
  | [], _ :: _, _, _, h => h.elim
  | _ :: _, [], _, _, h => h.elim
  | v :: vs, .p d :: xs, ds, e, h => by
    unfold XV.plains at e
    cases q : XV.plains xs with
    | none =>
      rw [q] at e
      cases e
    | some es =>
      rw [q] at e
      cases e
      exact .cons h.1 (plains_at q h.2)
  | _ :: _, .o _ :: _, _, e, _ => by cases e
  | _ :: _, .m _ _ :: _, _, e, _ => by cases e
/-- a new plain object -/
theorem Rep.newP (r : Rep K G B env σ R H) {a : Addr} {y : HO} (h : H a = none) (hy : isMk y = false) : Rep K G B env σ (upd R a y) (upd H a y) :=
  (r.new h).take upd_same hy (r.fresh h) (r.sub.none h) (r.noslot h) (r.nopr h)
theorem ve_tup {ta : TA} (h : VA K G B ta env fun xs => ∃ ds, XV.plains xs = some ds ∧ ds.length ≤ 100000 ∧ Q (.p (.tup ds))) : VE K G B (tTup ta) env Q := fun σ R H r Qh k =>
  h σ R H r _ fun vs R1 H1 xs r1 s1 hv _ ⟨ds, e, hl, q⟩ => by
    have ha := plains_at e hv
    refine ⟨by rw [ha.len]; exact Nat.le_trans hl (by decide), fun p hp => ?_⟩
    have hn := r1.sub.none hp
    exact k (.ref p) _ _ (.p (.tup ds)) (r1.newP hp rfl) (s1.trans (same_take hn)) (.tup (.inl (.inl upd_same)) (ha.same (same_take hn))) q
theorem ve_lst {ta : TA} (h : VA K G B ta env fun xs => ∃ ds, XV.plains xs = some ds ∧ ds.length ≤ 100000 ∧ Q (.o (.lst ds))) : VE K G B (tLst ta) env Q := fun σ R H r Qh k =>
  h σ R H r _ fun vs R1 H1 xs r1 s1 hv _ ⟨ds, e, hl, q⟩ => by
    have ha := plains_at e hv
    refine ⟨by rw [ha.len]; exact Nat.le_trans hl (by decide), fun p hp => ?_⟩
    exact k (.ref p) R1 _ (.o (.lst ds)) (r1.new hp) s1 ⟨p, _, rfl, r1.fresh hp, r1.sub.none hp, upd_same, ha, r1.noslot hp, r1.nopr hp⟩ q
/-- a new own list, a new own dict -/
theorem own_lst (r : Rep K G B env σ R H) {p : Addr} {xs : List V} {ds : List D} (hp : H p = none) (ha : AtL K R xs ds) : Rep K G B env σ R (upd H p (.lst xs)) ∧ VAt K B env σ R (upd H p (.lst xs)) (.ref p) (.o (.lst ds)) :=
  ⟨r.new hp, p, _, rfl, r.fresh hp, r.sub.none hp, upd_same, ha, r.noslot hp, r.nopr hp⟩
theorem own_dct (r : Rep K G B env σ R H) {p : Addr} {xs : List (Key × V)} {ds : List (Key × D)} (hp : H p = none) (ha : AtD K R xs ds) : Rep K G B env σ R (upd H p (.dK xs)) ∧ VAt K B env σ R (upd H p (.dK xs)) (.ref p) (.o (.dct ds)) :=
  ⟨r.new hp, p, _, rfl, r.fresh hp, r.sub.none hp, upd_same, ha, r.noslot hp, r.nopr hp⟩
theorem ve_dnew (q : Q (.o (.dct []))) : VE K G B tDNewK env Q := fun σ R H r Qh k p hp => by
  obtain ⟨r2, v2⟩ := own_dct (ds := []) r hp .nil
  exact k _ R _ _ r2 (Same.refl R) v2 q

/-! ### a list is read: plain, locked, or a slot's -/
def XV.seqL : XV → Option (List D)
  | .p (.lst ds) => some ds
  | .p (.ro ds) => some ds
  | .m _ (.lst ds) => some ds
  | _ => none
theorem seqL_at (r : Rep K G B env σ R H) {v : V} {x : XV} {ds : List D} (h : VAt K B env σ R H v x) (e : x.seqL = some ds) : ∃ a xs, v = .ref a ∧ SqL K H a xs ∧ AtL K R xs ds := by
  cases x with
  | p d =>
    cases d with
    | lst es =>
      cases e
      cases h with
      | @lst a xs _ h1 h2 => exact ⟨a, xs, rfl, r.sub.l (.inl (.inl h1)), h2⟩
    | ro es =>
      cases e
      cases h with
      | @ro a xs _ h1 h2 => exact ⟨a, xs, rfl, r.sub.l h1, h2⟩
    | _ => cases e
  | o d => cases e
  | m i d =>
    cases d with
    | lst es =>
      cases e
      obtain ⟨h1, h2⟩ := h
      obtain ⟨a, y, g1, g2, g3, g4, g5⟩ := r.slots i _ h1
      rw [g1] at h2
      cases h2
      cases y with
      | lst xs => exact ⟨a, xs, rfl, .inl (.inl g4), g5⟩
      | _ => exact g5.elim
    | _ => cases e
/-- exactly a list, not a locked one -/
def XV.exL : XV → Option (List D)
  | .p (.lst ds) => some ds
  | .m _ (.lst ds) => some ds
  | _ => none
theorem exL_at (r : Rep K G B env σ R H) {v : V} {x : XV} {ds : List D} (h : VAt K B env σ R H v x) (e : x.exL = some ds) : ∃ a xs, v = .ref a ∧ H a = some (.lst xs) ∧ AtL K R xs ds := by
  cases x with
  | p d =>
    cases d with
    | lst es =>
      cases e
      cases h with
      | @lst a xs _ h1 h2 => exact ⟨a, xs, rfl, r.sub.of h1 (rfl), h2⟩
    | _ => cases e
  | o d => cases e
  | m i d =>
    cases d with
    | lst es =>
      cases e
      obtain ⟨h1, h2⟩ := h
      obtain ⟨a, y, g1, g2, g3, g4, g5⟩ := r.slots i _ h1
      rw [g1] at h2
      cases h2
      cases y with
      | lst xs => exact ⟨a, xs, rfl, g4, g5⟩
      | _ => exact g5.elim
    | _ => cases e
theorem tup_at (r : Rep K G B env σ R H) {v : V} {ds : List D} (h : VAt K B env σ R H v (.p (.tup ds))) : ∃ a xs, v = .ref a ∧ SqT K H a xs ∧ SqT K R a xs ∧ AtL K R xs ds := by
  cases h with
  | @tup a xs _ h1 h2 => exact ⟨a, xs, rfl, r.sub.t h1, h1, h2⟩
theorem int_at {v : V} {i : Int} (h : VAt K B env σ R H v (.p (.int i))) : v = .int i := by cases h; rfl
theorem str_at {v : V} {i : Str} (h : VAt K B env σ R H v (.p (.str i))) : v = .str i := by cases h; rfl
theorem bl_at {v : V} {i : Bool} (h : VAt K B env σ R H v (.p (.bl i))) : v = .bl i := by cases h; rfl

/-! ### operators -/
theorem vo_I0 {g : Int → Int → Int} {i j : Int} (q : Q (.p (.int (g i j)))) : VO K G B (rI0 fun i j => .int (g i j)) env (.p (.int i)) (.p (.int j)) Q := fun σ R H r v w hv hw Qh k =>
  ⟨i, j, int_at hv, int_at hw, k _ R H (.p (.int (g i j))) r (Same.refl R) (.int _) q⟩
theorem vo_B0 {g : Int → Int → Bool} {i j : Int} (q : Q (.p (.bl (g i j)))) : VO K G B (rI0 fun i j => .bl (g i j)) env (.p (.int i)) (.p (.int j)) Q := fun σ R H r v w hv hw Qh k =>
  ⟨i, j, int_at hv, int_at hw, k _ R H (.p (.bl (g i j))) r (Same.refl R) (.bl _) q⟩
theorem vo_I {C : Int → Int → Prop} {g : Int → Int → Int} {i j : Int} (hc : C i j) (q : Q (.p (.int (g i j)))) : VO K G B (rI C fun i j => .int (g i j)) env (.p (.int i)) (.p (.int j)) Q := fun σ R H r v w hv hw Qh k =>
  ⟨i, j, int_at hv, int_at hw, hc, k _ R H (.p (.int (g i j))) r (Same.refl R) (.int _) q⟩
theorem vo_ip {f : Int → Int → Int} {i j : Int} (q : Q (.p (.int (f i j)))) : VO K G B (ipI f) env (.p (.int i)) (.p (.int j)) Q := fun σ R H r v w hv hw Qh k =>
  ⟨i, j, int_at hv, int_at hw, k _ R H (.p (.int (f i j))) r (Same.refl R) (.int _) q⟩
theorem vu_I {g : Int → Int} {i : Int} (q : Q (.p (.int (g i)))) : VU K G B (rU fun i => .int (g i)) env (.p (.int i)) Q := fun σ R H r v hv Qh k =>
  ⟨i, int_at hv, k _ R H (.p (.int (g i))) r (Same.refl R) (.int _) q⟩
/-- scalars -/
def D.sc : D → Option V
  | .non => some .non
  | .bl b => some (.bl b)
  | .int i => some (.int i)
  | .str x => some (.str x)
  | _ => none
theorem sc_at {v w : V} {d : D} (h : VAt K B env σ R H v (.p d)) (e : d.sc = some w) : v = w := by
  cases d <;> first | (cases e; cases h; rfl; done) | cases e
theorem vo_eq {d e : D} {v w : V} (hd : d.sc = some v) (he : e.sc = some w) (hs : scal v w = true) (q : Q (.p (.bl (decide (v = w))))) : VO K G B rEq env (.p d) (.p e) Q := fun σ R H r x y hx hy Qh k => by
  have e1 := sc_at hx hd
  have e2 := sc_at hy he
  subst e1
  subst e2
  exact ⟨hs, k _ R H (.p (.bl _)) r (Same.refl R) (.bl _) q⟩
theorem vo_ne {d e : D} {v w : V} (hd : d.sc = some v) (he : e.sc = some w) (hs : scal v w = true) (q : Q (.p (.bl (!decide (v = w))))) : VO K G B rNe env (.p d) (.p e) Q := fun σ R H r x y hx hy Qh k => by
  have e1 := sc_at hx hd
  have e2 := sc_at hy he
  subst e1
  subst e2
  exact ⟨hs, k _ R H (.p (.bl _)) r (Same.refl R) (.bl _) q⟩
theorem dec_int (i j : Int) : decide (V.int i = V.int j) = decide (i = j) := decide_eq_decide.mpr ⟨fun h => by cases h; rfl, fun h => by rw [h]⟩
theorem dec_str (i j : Str) : decide (V.str i = V.str j) = decide (i = j) := decide_eq_decide.mpr ⟨fun h => by cases h; rfl, fun h => by rw [h]⟩
theorem dec_bl (i j : Bool) : decide (V.bl i = V.bl j) = decide (i = j) := decide_eq_decide.mpr ⟨fun h => by cases h; rfl, fun h => by rw [h]⟩
theorem vo_eq_int {i j : Int} (q : Q (.p (.bl (decide (i = j))))) : VO K G B rEq env (.p (.int i)) (.p (.int j)) Q := vo_eq rfl rfl rfl (by rw [dec_int]; exact q)
theorem vo_ne_int {i j : Int} (q : Q (.p (.bl (!decide (i = j))))) : VO K G B rNe env (.p (.int i)) (.p (.int j)) Q := vo_ne rfl rfl rfl (by rw [dec_int]; exact q)
theorem vo_eq_str {i j : Str} (q : Q (.p (.bl (decide (i = j))))) : VO K G B rEq env (.p (.str i)) (.p (.str j)) Q := vo_eq rfl rfl rfl (by rw [dec_str]; exact q)
theorem vo_ne_str {i j : Str} (q : Q (.p (.bl (!decide (i = j))))) : VO K G B rNe env (.p (.str i)) (.p (.str j)) Q := vo_ne rfl rfl rfl (by rw [dec_str]; exact q)
theorem vo_eq_bl {i j : Bool} (q : Q (.p (.bl (decide (i = j))))) : VO K G B rEq env (.p (.bl i)) (.p (.bl j)) Q := vo_eq rfl rfl rfl (by rw [dec_bl]; exact q)
theorem vo_ne_bl {i j : Bool} (q : Q (.p (.bl (!decide (i = j))))) : VO K G B rNe env (.p (.bl i)) (.p (.bl j)) Q := vo_ne rfl rfl rfl (by rw [dec_bl]; exact q)
def D.isNon : D → Bool
  | .non => true
  | _ => false
theorem non_at {v : V} {d : D} (h : At K R v d) : decide (v = .non) = d.isNon := by
  cases h <;> rfl
/-- is None, is not None -/
theorem vo_isN {d : D} (q : Q (.p (.bl d.isNon))) : VO K G B (fun x y H Q => y = .non ∧ Q (.bl (decide (x = .non))) H) env (.p d) (.p .non) Q := fun σ R H r v w hv hw Qh k => by
  cases hw
  exact ⟨rfl, by rw [non_at hv]; exact k _ R H (.p (.bl _)) r (Same.refl R) (.bl _) q⟩
theorem vo_notN {d : D} (q : Q (.p (.bl (!d.isNon)))) : VO K G B (fun x y H Q => y = .non ∧ Q (.bl (!decide (x = .non))) H) env (.p d) (.p .non) Q := fun σ R H r v w hv hw Qh k => by
  cases hw
  exact ⟨rfl, by rw [non_at hv]; exact k _ R H (.p (.bl _)) r (Same.refl R) (.bl _) q⟩
/-- xs[i] -/
theorem atl_at {xs : List V} {ds : List D} {i : Int} {d : D} (h : AtL K R xs ds) (e : atI ds i = some d) : ∃ v, atI xs i = some v ∧ At K R v d := by
  unfold atI at e ⊢
  rw [h.len]
  cases q : ixN ds.length i with
  | none =>
    rw [q] at e
    cases e
  | some j =>
    rw [q] at e
    exact h.get e
theorem vo_ixL {x : XV} {ds : List D} {i : Int} {d : D} (hx : x.seqL = some ds) (hi : atI ds i = some d) (q : Q (.p d)) : VO K G B (rIxL K) env x (.p (.int i)) Q := fun σ R H r v w hv hw Qh k => by
  obtain ⟨a, xs, rfl, h1, h2⟩ := seqL_at r hv hx
  obtain ⟨v, h3, h4⟩ := atl_at h2 hi
  exact ⟨a, xs, i, v, rfl, int_at hw, h1, h3, k v R H (.p d) r (Same.refl R) h4 q⟩
theorem vo_ixT {ds : List D} {i : Int} {d : D} (hi : atI ds i = some d) (q : Q (.p d)) : VO K G B (rIxT K) env (.p (.tup ds)) (.p (.int i)) Q := fun σ R H r v w hv hw Qh k => by
  obtain ⟨a, xs, rfl, h1, _, h2⟩ := tup_at r hv
  obtain ⟨v, h3, h4⟩ := atl_at h2 hi
  exact ⟨a, xs, i, v, rfl, int_at hw, h1, h3, k v R H (.p d) r (Same.refl R) h4 q⟩
theorem vo_ixS {z : Str} {i : Int} {c : Nat} (hz : z.length ≤ 100000) (hi : atI z.cps.toList i = some c) (q : Q (.p (.str ⟨#[c]⟩))) : VO K G B rIxS env (.p (.str z)) (.p (.int i)) Q := fun σ R H r v w hv hw Qh k =>
  ⟨z, i, c, str_at hv, int_at hw, Nat.le_trans hz (by decide), hi, k _ R H (.p (.str _)) r (Same.refl R) (.str _) q⟩
theorem vo_add_str {i j : Str} (hl : i.length + j.length ≤ 100000) (q : Q (.p (.str (i ++ j)))) : VO K G B (fun x y H Q => ∃ i j, x = .str i ∧ y = .str j ∧ i.length + j.length ≤ sizeLine ∧ Q (.str (i ++ j)) H) env (.p (.str i)) (.p (.str j)) Q := fun σ R H r v w hv hw Qh k =>
  ⟨i, j, str_at hv, str_at hw, Nat.le_trans hl (by decide), k _ R H (.p (.str _)) r (Same.refl R) (.str _) q⟩
/-- xs + ys, [x] * n -/
theorem vo_cat {x y : XV} {ds es : List D} (hx : x.exL = some ds) (hy : y.exL = some es) (hl : ds.length + es.length ≤ 100000) (q : Q (.o (.lst (ds ++ es)))) : VO K G B rCat env x y Q := fun σ R H r v w hv hw Qh k => by
  obtain ⟨a, xs, rfl, h1, h2⟩ := exL_at r hv hx
  obtain ⟨b, ys, rfl, g1, g2⟩ := exL_at r hw hy
  refine ⟨a, b, xs, ys, rfl, rfl, h1, g1, by rw [h2.len, g2.len]; exact Nat.le_trans hl (by decide), fun p hp => ?_⟩
  obtain ⟨r2, v2⟩ := own_lst r hp (h2.app g2)
  exact k _ R _ _ r2 (Same.refl R) v2 q
theorem AtL.rep1 {v : V} {d : D} (h : At K R v d) : ∀ n, AtL K R (List.replicate n v) (List.replicate n d)
  | 0 => .nil
  | n + 1 => .cons h (AtL.rep1 h n)
theorem rep_one {α : Type} (x : α) : ∀ n, (List.replicate n [x]).flatten = List.replicate n x
  | 0 => rfl
  | n + 1 => by
    rw [List.replicate_succ, List.flatten_cons, rep_one x n]
    rfl
theorem vo_rep1 {x : XV} {d : D} {n : Int} (hx : x.exL = some [d]) (hn : n ≤ 100000) (h0 : -(2 ^ 63) ≤ n) (q : Q (.o (.lst (List.replicate n.toNat d)))) : VO K G B rRep env x (.p (.int n)) Q := fun σ R H r v w hv hw Qh k => by
  obtain ⟨a, xs, rfl, h1, h2⟩ := exL_at r hv hx
  cases h2 with
  | @cons v vs _ _ h3 h4 =>
    cases h4
    refine ⟨a, n, [v], rfl, int_at hw, h1, h0, Int.lt_of_le_of_lt hn (by decide), ?_, fun p hp => ?_⟩
    · show 1 * n.toNat ≤ sizeLine
      rw [Nat.one_mul]
      exact Nat.le_trans (show n.toNat ≤ 100000 by omega) (by decide)
    · rw [rep_one]
      obtain ⟨r2, v2⟩ := own_lst r hp (AtL.rep1 h3 n.toNat)
      exact k _ R _ _ r2 (Same.refl R) v2 q
/-- t + u of tuples -/
theorem vo_catA {ds es : List D} (hl : ds.length + es.length ≤ 100000) (q : Q (.p (.tup (ds ++ es)))) : VO K G B (rCatA K) env (.p (.tup ds)) (.p (.tup es)) Q := fun σ R H r v w hv hw Qh k => by
  obtain ⟨a, xs, rfl, h1, h1', h2⟩ := tup_at r hv
  obtain ⟨b, ys, rfl, g1, g1', g2⟩ := tup_at r hw
  refine ⟨a, b, xs, ys, rfl, rfl, h1, g1, by rw [h2.len, g2.len]; exact Nat.le_trans hl (by decide), fun e => ?_, fun _ e => ?_, fun _ _ p hp => ?_⟩
  · subst e
    cases h2
    exact k _ R H (.p (.tup _)) r (Same.refl R) (.tup g1' g2) q
  · subst e
    cases g2
    rw [List.append_nil] at q
    exact k _ R H (.p (.tup _)) r (Same.refl R) (.tup h1' h2) q
  · have hn := r.sub.none hp
    exact k _ _ _ (.p (.tup _)) (r.newP hp rfl) (same_take hn) (.tup (.inl (.inl upd_same)) ((h2.app g2).same (same_take hn))) q

/-! ### calls of built-ins -/
theorem vc1 {r : List V → Hp → VK → Prop} {x : XV} (h : ∀ σ R H, Rep K G B env σ R H → ∀ v, VAt K B env σ R H v x → ∀ Qh : VK,
    (∀ z R' H' x', Rep K G B env σ R' H' → Same R R' → VAt K B env σ R' H' z x' → Q x' → Qh z H') → r [v] H Qh) : VC K G B r env [x] Q := fun σ R H rp vs hv Qh k => by
  match vs, hv with
  | [v], hv => exact h σ R H rp v hv.1 Qh k
theorem vc2 {r : List V → Hp → VK → Prop} {x y : XV} (h : ∀ σ R H, Rep K G B env σ R H → ∀ v w, VAt K B env σ R H v x → VAt K B env σ R H w y → ∀ Qh : VK,
    (∀ z R' H' x', Rep K G B env σ R' H' → Same R R' → VAt K B env σ R' H' z x' → Q x' → Qh z H') → r [v, w] H Qh) : VC K G B r env [x, y] Q := fun σ R H rp vs hv Qh k => by
  match vs, hv with
  | [v, w], hv => exact h σ R H rp v w hv.1 hv.2.1 Qh k
/-- len of a list, a tuple, a text -/
theorem vc_lenL {x : XV} {ds : List D} (hx : x.seqL = some ds) (q : Q (.p (.int ds.length))) : VC K G B (fun xs H Q => ∃ p ys, xs = [.ref p] ∧ (SqL K H p ys ∨ SqT K H p ys) ∧ Q (.int ys.length) H) env [x] Q := vc1 fun σ R H r v hv Qh k => by
  obtain ⟨a, xs, rfl, h1, h2⟩ := seqL_at r hv hx
  exact ⟨a, xs, rfl, .inl h1, by rw [h2.len]; exact k _ R H (.p (.int _)) r (Same.refl R) (.int _) q⟩
theorem vc_lenT {ds : List D} (q : Q (.p (.int ds.length))) : VC K G B (fun xs H Q => ∃ p ys, xs = [.ref p] ∧ (SqL K H p ys ∨ SqT K H p ys) ∧ Q (.int ys.length) H) env [.p (.tup ds)] Q := vc1 fun σ R H r v hv Qh k => by
  obtain ⟨a, xs, rfl, h1, _, h2⟩ := tup_at r hv
  exact ⟨a, xs, rfl, .inr h1, by rw [h2.len]; exact k _ R H (.p (.int _)) r (Same.refl R) (.int _) q⟩
theorem vc_lenS {z : Str} (hl : z.length ≤ 100000) (q : Q (.p (.int z.length))) : VC K G B (fun xs H Q => ∃ z, xs = [.str z] ∧ z.length ≤ sizeLine ∧ Q (.int z.length) H) env [.p (.str z)] Q := vc1 fun σ R H r v hv Qh k =>
  ⟨z, by rw [str_at hv], Nat.le_trans hl (by decide), k _ R H (.p (.int _)) r (Same.refl R) (.int _) q⟩
theorem vc_listL {x : XV} {ds : List D} (hx : x.seqL = some ds) (q : Q (.o (.lst ds))) : VC K G B (fun xs H Q => ∃ p ys, xs = [.ref p] ∧ (SqL K H p ys ∨ SqT K H p ys) ∧ ∀ l, H l = none → Q (.ref l) (upd H l (.lst ys))) env [x] Q := vc1 fun σ R H r v hv Qh k => by
  obtain ⟨a, xs, rfl, h1, h2⟩ := seqL_at r hv hx
  refine ⟨a, xs, rfl, .inl h1, fun l hl => ?_⟩
  obtain ⟨r2, v2⟩ := own_lst r hl h2
  exact k _ R _ _ r2 (Same.refl R) v2 q
theorem vc_listT {ds : List D} (q : Q (.o (.lst ds))) : VC K G B (fun xs H Q => ∃ p ys, xs = [.ref p] ∧ (SqL K H p ys ∨ SqT K H p ys) ∧ ∀ l, H l = none → Q (.ref l) (upd H l (.lst ys))) env [.p (.tup ds)] Q := vc1 fun σ R H r v hv Qh k => by
  obtain ⟨a, xs, rfl, h1, _, h2⟩ := tup_at r hv
  refine ⟨a, xs, rfl, .inr h1, fun l hl => ?_⟩
  obtain ⟨r2, v2⟩ := own_lst r hl h2
  exact k _ R _ _ r2 (Same.refl R) v2 q
theorem vc_tupL {x : XV} {ds : List D} (hx : x.seqL = some ds) (q : Q (.p (.tup ds))) : VC K G B (fun xs H Q => ∃ p ys, xs = [.ref p] ∧ ((SqL K H p ys ∧ ∀ l, H l = none → Q (.ref l) (upd H l (.tup ys))) ∨ (SqT K H p ys ∧ Q (.ref p) H))) env [x] Q := vc1 fun σ R H r v hv Qh k => by
  obtain ⟨a, xs, rfl, h1, h2⟩ := seqL_at r hv hx
  refine ⟨a, xs, rfl, .inl ⟨h1, fun l hl => ?_⟩⟩
  have hn := r.sub.none hl
  exact k _ _ _ (.p (.tup _)) (r.newP hl rfl) (same_take hn) (.tup (.inl (.inl upd_same)) (h2.same (same_take hn))) q
theorem vc_max2 {i j : Int} (q : Q (.p (.int (max i j)))) : VC K G B (fun xs H Q => ∃ i j, xs = [.int i, .int j] ∧ Q (.int (if j > i then j else i)) H) env [.p (.int i), .p (.int j)] Q := vc2 fun σ R H r v w hv hw Qh k => by
  refine ⟨i, j, by rw [int_at hv, int_at hw], ?_⟩
  have e : (if j > i then j else i) = max i j := by split <;> omega
  rw [e]
  exact k _ R H (.p (.int _)) r (Same.refl R) (.int _) q
theorem vc_min2 {i j : Int} (q : Q (.p (.int (min i j)))) : VC K G B (fun xs H Q => ∃ i j, xs = [.int i, .int j] ∧ Q (.int (if j < i then j else i)) H) env [.p (.int i), .p (.int j)] Q := vc2 fun σ R H r v w hv hw Qh k => by
  refine ⟨i, j, by rw [int_at hv, int_at hw], ?_⟩
  have e : (if j < i then j else i) = min i j := by split <;> omega
  rw [e]
  exact k _ R H (.p (.int _)) r (Same.refl R) (.int _) q
theorem vc_abs {i : Int} (q : Q (.p (.int (if i < 0 then -i else i)))) : VC K G B (fun xs H Q => ∃ i, xs = [.int i] ∧ Q (.int (if i < 0 then -i else i)) H) env [.p (.int i)] Q := vc1 fun σ R H r v hv Qh k =>
  ⟨i, by rw [int_at hv], k _ R H (.p (.int _)) r (Same.refl R) (.int _) q⟩
theorem vc_intB {b : Bool} (q : Q (.p (.int (if b then 1 else 0)))) : VC K G B (fun xs H Q => (∃ i, xs = [.int i] ∧ Q (.int i) H) ∨ ∃ k, xs = [.bl k] ∧ Q (.int (if k then 1 else 0)) H) env [.p (.bl b)] Q := vc1 fun σ R H r v hv Qh k =>
  .inr ⟨b, by rw [bl_at hv], k _ R H (.p (.int _)) r (Same.refl R) (.int _) q⟩
/-- typed lists -/
theorem ints_at {x : XV} {ns : List Int} (r : Rep K G B env σ R H) {v : V} (h : VAt K B env σ R H v x) (e : x.seqL = some (ns.map D.int)) : ∃ a, v = .ref a ∧ SqL K H a (ns.map V.int) := by
  obtain ⟨a, xs, rfl, h1, h2⟩ := seqL_at r h e
  rw [AtL.ints_inv h2] at h1
  exact ⟨a, rfl, h1⟩
theorem AtL.bls_inv : ∀ {vs : List V} {ns : List Bool}, AtL K R vs (ns.map D.bl) → vs = ns.map V.bl
  | _, [], h => by cases h; rfl
  | _, n :: r, h => by
    cases h with
    | cons h t =>
      cases h
      rw [AtL.bls_inv t]
      rfl
theorem AtL.strs_inv : ∀ {vs : List V} {ns : List Str}, AtL K R vs (ns.map D.str) → vs = ns.map V.str
  | _, [], h => by cases h; rfl
  | _, n :: r, h => by
    cases h with
    | cons h t =>
      cases h
      rw [AtL.strs_inv t]
      rfl
theorem vc_sum {x : XV} {ns : List Int} (hx : x.seqL = some (ns.map D.int)) (q : Q (.p (.int ns.sum))) : VC K G B (rSum K) env [x] Q := vc1 fun σ R H r v hv Qh k => by
  obtain ⟨a, rfl, h1⟩ := ints_at r hv hx
  exact ⟨a, ns, rfl, h1, k _ R H (.p (.int _)) r (Same.refl R) (.int _) q⟩
theorem vc_any {x : XV} {bs : List Bool} (hx : x.seqL = some (bs.map D.bl)) (q : Q (.p (.bl (bs.any id)))) : VC K G B (rAny K) env [x] Q := vc1 fun σ R H r v hv Qh k => by
  obtain ⟨a, xs, rfl, h1, h2⟩ := seqL_at r hv hx
  rw [AtL.bls_inv h2] at h1
  exact ⟨a, bs, rfl, h1, k _ R H (.p (.bl _)) r (Same.refl R) (.bl _) q⟩
theorem vc_all {x : XV} {bs : List Bool} (hx : x.seqL = some (bs.map D.bl)) (q : Q (.p (.bl (bs.all id)))) : VC K G B (rAll K) env [x] Q := vc1 fun σ R H r v hv Qh k => by
  obtain ⟨a, xs, rfl, h1, h2⟩ := seqL_at r hv hx
  rw [AtL.bls_inv h2] at h1
  exact ⟨a, bs, rfl, h1, k _ R H (.p (.bl _)) r (Same.refl R) (.bl _) q⟩

/-! ### slices -/
def VP (K : PySem.W.Frag) (G : Gs) (B : Bs) (t : TO) (env : Vn) (Q : Option Int → Prop) : Prop := ∀ σ R H, Rep K G B env σ R H → ∀ Qh : Option Int → Hp → Prop,
  (∀ o R' H', Rep K G B env σ R' H' → Same R R' → Q o → Qh o H') → t σ H Qh
theorem vp_none {Qo : Option Int → Prop} (q : Qo none) : VP K G B tNoPart env Qo := fun σ R H r Qh k => k none R H r (Same.refl R) q
theorem vp_some {Qo : Option Int → Prop} {te : TE} (h : VE K G B te env fun x => ∃ i, x = .p (.int i) ∧ Qo (some i)) : VP K G B (tPart te) env Qo := fun σ R H r Qh k => h σ R H r _ fun v R' H' x r' s' hv ⟨i, e, q⟩ => by
  subst e
  exact ⟨i, int_at hv, k _ R' H' r' s' q⟩
def VSl (K : PySem.W.Frag) (G : Gs) (B : Bs) (r : V → Option Int → Option Int → Hp → VK → Prop) (env : Vn) (x : XV) (lo hi : Option Int) (Q : XV → Prop) : Prop := ∀ σ R H, Rep K G B env σ R H → ∀ v, VAt K B env σ R H v x → ∀ Qh : VK,
  (∀ z R' H' x', Rep K G B env σ R' H' → Same R R' → VAt K B env σ R' H' z x' → Q x' → Qh z H') → r v lo hi H Qh
theorem ve_slice {r : V → Option Int → Option Int → Hp → VK → Prop} {te : TE} {tl th : TO} (h : VE K G B te env fun x => x.fz fun x => VP K G B tl env fun lo => VP K G B th env fun hi => VSl K G B r env x lo hi Q) : VE K G B (tSl r te tl th) env Q := fun σ R H rp Qh k =>
  h σ R H rp _ fun v R1 H1 x r1 s1 hv q => by
    obtain ⟨R2, x', r2, s2, hv2, ho, q2⟩ := hv.fz r1 q
    exact q2 σ R2 H1 r2 _ fun lo R3 H3 r3 s3 q3 => q3 σ R3 H3 r3 _ fun hi R4 H4 r4 s4 q4 => q4 σ R4 H4 r4 v (hv2.go ho (s3.trans s4)) Qh fun z R5 H5 x5 r5 s5 hz q5 => k z R5 H5 x5 r5 ((((s1.trans s2).trans s3).trans s4).trans s5) hz q5
def cutD (ds : List D) (lo hi : Option Int) : List D := (ds.drop (HT.sIx ds.length 0 lo)).take (HT.sIx ds.length ds.length hi - HT.sIx ds.length 0 lo)
theorem AtL.cut {xs : List V} {ds : List D} (h : AtL K R xs ds) (lo hi : Option Int) : AtL K R (cutV xs lo hi) (cutD ds lo hi) := by
  unfold cutV cutD
  rw [h.len]
  exact (h.drop _).take _
theorem vsl_list {x : XV} {ds : List D} {lo hi : Option Int} (hx : x.seqL = some ds) (q : Q (.o (.lst (cutD ds lo hi)))) : VSl K G B (rSlL K) env x lo hi Q := fun σ R H r v hv Qh k => by
  obtain ⟨a, xs, rfl, h1, h2⟩ := seqL_at r hv hx
  refine ⟨a, xs, rfl, h1, fun p hp => ?_⟩
  obtain ⟨r2, v2⟩ := own_lst r hp (h2.cut lo hi)
  exact k _ R _ _ r2 (Same.refl R) v2 q
theorem cutD_all {ds : List D} {lo hi : Option Int} (h : HT.sIx ds.length 0 lo = 0 ∧ HT.sIx ds.length ds.length hi = ds.length) : cutD ds lo hi = ds := by
  unfold cutD
  rw [h.1, h.2, List.drop_zero, Nat.sub_zero, List.take_length]
theorem vsl_tup {ds : List D} {lo hi : Option Int} (q : Q (.p (.tup (cutD ds lo hi)))) : VSl K G B (rSlA K) env (.p (.tup ds)) lo hi Q := fun σ R H r v hv Qh k => by
  obtain ⟨a, xs, rfl, h1, h1', h2⟩ := tup_at r hv
  refine ⟨a, xs, rfl, h1, fun e => ?_, fun _ p hp => ?_⟩
  · rw [h2.len] at e
    rw [cutD_all e] at q
    exact k _ R H (.p (.tup _)) r (Same.refl R) (.tup h1' h2) q
  · have hn := r.sub.none hp
    exact k _ _ _ (.p (.tup _)) (r.newP hp rfl) (same_take hn) (.tup (.inl (.inl upd_same)) ((h2.cut lo hi).same (same_take hn))) q
theorem vsl_str {z : Str} {lo hi : Option Int} (hl : z.length ≤ 100000) (q : Q (.p (.str (cutS z lo hi)))) : VSl K G B rSlS env (.p (.str z)) lo hi Q := fun σ R H r v hv Qh k =>
  ⟨z, str_at hv, Nat.le_trans hl (by decide), k _ R H (.p (.str _)) r (Same.refl R) (.str _) q⟩

/-! ### own lists change -/
/-- xs.append(e) -/
theorem vs_append {i : Nat} {te : TE} {ds : List D} (hd : env[i]? = some (.mu (.lst ds))) (h : VE K G B te env fun x => x.fz fun x => ∃ d, x = .p d ∧ ds.length < 100000 ∧ nx (env.set i (.mu (.lst (ds ++ [d]))))) :
    VS K G B (tDrop (tBM K "list" rAppend (tVar i) (tCons te tNil))) env nx rt bk ct := fun σ R H r Z kn _ _ _ => by
  obtain ⟨a, y, h1, h2, h3, h4, h5⟩ := r.slots i _ hd
  obtain ⟨xs, rfl⟩ : ∃ xs, y = .lst xs := by cases y <;> first | exact ⟨_, rfl⟩ | exact h5.elim
  refine ⟨.ref a, h1, .inl ⟨rfl, xs, .inl (.inl h4)⟩, h σ R H r _ fun v R1 H1 x r1 s1 hv q => ?_⟩
  obtain ⟨R2, x', r2, s2, hv2, ho, d, rfl, hl, q2⟩ := hv.fz r1 q
  obtain ⟨b, y, g1, g2, g3, g4, g5⟩ := r2.slots i _ hd
  rw [h1] at g1
  cases g1
  obtain ⟨ys, rfl⟩ : ∃ xs, y = .lst xs := by cases y <;> first | exact ⟨_, rfl⟩ | exact g5.elim
  refine ⟨a, ys, v, rfl, rfl, g4, by rw [AtL.len g5]; exact Nat.lt_of_lt_of_le hl (by decide), ?_⟩
  exact kn _ σ R2 _ (r2.mut hd h1 (y := .lst (ys ++ [v])) (d' := .lst (ds ++ [d])) (AtL.app g5 (.cons hv2 .nil))) (s1.trans s2) q2
/-- xs[e] = v -/
theorem vg_subL {i : Nat} {te : TE} {ds : List D} {d : D} (hd : env[i]? = some (.mu (.lst ds))) (h : VE K G B te env fun x => ∃ z j, x = .p (.int z) ∧ ixN ds.length z = some j ∧ Qe (env.set i (.mu (.lst (ds.set j d))))) :
    VG K G B (gSub (tVar i) te rSetL) (.p d) env Qe := fun σ R H r v hv Qh k => by
  obtain ⟨a, y, h1, _⟩ := r.slots i _ hd
  refine ⟨.ref a, h1, h σ R H r _ fun w R1 H1 x r1 s1 hw ⟨z, j, e, hj, q⟩ => ?_⟩
  subst e
  cases hw
  obtain ⟨b, y, g1, g2, g3, g4, g5⟩ := r1.slots i _ hd
  rw [h1] at g1
  cases g1
  obtain ⟨ys, rfl⟩ : ∃ xs, y = .lst xs := by cases y <;> first | exact ⟨_, rfl⟩ | exact g5.elim
  refine ⟨a, ys, z, j, rfl, rfl, g4, by rw [AtL.len g5]; exact hj, ?_⟩
  exact k _ σ R1 _ (r1.mut hd h1 (y := .lst (ys.set j v)) (d' := .lst (ds.set j d)) (AtL.set (At.same s1 hv) j g5)) s1 q
theorem vg_fz {g : TG} {d : D} (h : VG K G B g (.p d) env Qe) : VG K G B g (.o d) env Qe := fun σ R H r v hv Qh k => by
  obtain ⟨a, y, rfl, h0, hn, hy, hm, hs, hp⟩ := hv
  exact h σ (upd R a y) H (r.take hy (mat_mk hm) h0 hn hs hp) (.ref a) (At.of_mat hm hn) Qh fun e σ' R' H' r' s' q => k e σ' R' H' r' ((same_take hn).trans s') q
/-- x = xs.pop(), xs.pop(k) -/
theorem vs_pop {i : Nat} {g : TG} {ds : List D} {d : D} (hd : env[i]? = some (.mu (.lst ds))) (hl : ds[ds.length - 1]? = some d) (h : VG K G B g (.p d) (env.set i (.mu (.lst ds.dropLast))) nx) :
    VS K G B (tAsg (tBM0 K "list" rPop (tVar i)) g) env nx rt bk ct := fun σ R H r Z kn _ _ _ => by
  obtain ⟨a, y, h1, h2, h3, h4, h5⟩ := r.slots i _ hd
  obtain ⟨xs, rfl⟩ : ∃ xs, y = .lst xs := by cases y <;> first | exact ⟨_, rfl⟩ | exact h5.elim
  have h6 : AtL K R xs ds := h5
  obtain ⟨v, hv, hd'⟩ := h6.get hl
  refine ⟨.ref a, h1, .inl ⟨rfl, xs, .inl (.inl h4)⟩, a, xs, v, rfl, rfl, h4, by rw [h6.len]; exact hv, ?_⟩
  refine h σ R _ (r.mut hd h1 (y := .lst xs.dropLast) (d' := .lst ds.dropLast) ?_) v hd' _ fun e σ' R' H' r' s' q => kn e σ' R' H' r' s' q
  show AtL K R xs.dropLast ds.dropLast
  rw [List.dropLast_eq_take, List.dropLast_eq_take, h6.len]
  exact h6.take _
theorem vs_popAt {i : Nat} {te : TE} {g : TG} {ds : List D} (hd : env[i]? = some (.mu (.lst ds))) (h : VE K G B te env fun x => ∃ (z : Int) (j : Nat) (d : D), x = .p (.int z) ∧ -(2 ^ 63) ≤ z ∧ z < 2 ^ 63 ∧ seqIndex? z ds.length = some j ∧ ds[j]? = some d ∧ VG K G B g (.p d) (env.set i (.mu (.lst (ds.eraseIdx j)))) nx) :
    VS K G B (tAsg (tBM K "list" rPopAt (tVar i) (tCons te tNil)) g) env nx rt bk ct := fun σ R H r Z kn _ _ _ => by
  obtain ⟨a, y, h1, h2, h3, h4, h5⟩ := r.slots i _ hd
  obtain ⟨xs, rfl⟩ : ∃ xs, y = .lst xs := by cases y <;> first | exact ⟨_, rfl⟩ | exact h5.elim
  refine ⟨.ref a, h1, .inl ⟨rfl, xs, .inl (.inl h4)⟩, h σ R H r _ fun v R1 H1 x r1 s1 hv ⟨z, j, d, e, z1, z2, hj, hl, q⟩ => ?_⟩
  subst e
  cases hv
  obtain ⟨b, y, g1, g2, g3, g4, g5⟩ := r1.slots i _ hd
  rw [h1] at g1
  cases g1
  obtain ⟨ys, rfl⟩ : ∃ xs, y = .lst xs := by cases y <;> first | exact ⟨_, rfl⟩ | exact g5.elim
  have g6 : AtL K R1 ys ds := g5
  obtain ⟨v, hv, hd'⟩ := g6.get hl
  refine ⟨a, ys, z, j, v, rfl, rfl, g4, z1, z2, by rw [g6.len]; exact hj, hv, ?_⟩
  exact q σ R1 _ (r1.mut hd h1 (y := .lst (ys.eraseIdx j)) (d' := .lst (ds.eraseIdx j)) (g6.erase j)) v hd' _ fun e σ' R' H' r' s' q => kn e σ' R' H' r' (s1.trans s') q
/-- xs.insert(e, f) -/
theorem vs_insert {i : Nat} {te tf : TE} {ds : List D} (hd : env[i]? = some (.mu (.lst ds))) (h : VE K G B te env fun x => ∃ z, x = .p (.int z) ∧ 0 ≤ z ∧ z < 2 ^ 63 ∧ ds.length < 100000 ∧ VE K G B tf env fun y => y.fz fun y => ∃ d, y = .p d ∧ nx (env.set i (.mu (.lst (ds.take z.toNat ++ [d] ++ ds.drop z.toNat))))) :
    VS K G B (tDrop (tBM K "list" (fun x vs H Q => ∃ (l : Addr) (xs : List V) (i : Int) (y : V), x = .ref l ∧ vs = [.int i, y] ∧ H l = some (.lst xs) ∧ xs.length < sizeLine ∧ 0 ≤ i ∧ i < 2 ^ 63 ∧ Q .non (upd H l (.lst (xs.take i.toNat ++ [y] ++ xs.drop i.toNat)))) (tVar i) (tCons te (tCons tf tNil)))) env nx rt bk ct := fun σ R H r Z kn _ _ _ => by
  obtain ⟨a, y, h1, h2, h3, h4, h5⟩ := r.slots i _ hd
  obtain ⟨xs, rfl⟩ : ∃ xs, y = .lst xs := by cases y <;> first | exact ⟨_, rfl⟩ | exact h5.elim
  refine ⟨.ref a, h1, .inl ⟨rfl, xs, .inl (.inl h4)⟩, h σ R H r _ fun w R0 H0 x0 r0 s0 hw ⟨z, e, z0, z1, hl, h'⟩ => h' σ R0 H0 r0 _ fun v R1 H1 x r1 s1 hv q => ?_⟩
  subst e
  cases hw
  obtain ⟨R2, x', r2, s2, hv2, ho, d, rfl, q2⟩ := hv.fz r1 q
  obtain ⟨b, y, g1, g2, g3, g4, g5⟩ := r2.slots i _ hd
  rw [h1] at g1
  cases g1
  obtain ⟨ys, rfl⟩ : ∃ xs, y = .lst xs := by cases y <;> first | exact ⟨_, rfl⟩ | exact g5.elim
  have g6 : AtL K R2 ys ds := g5
  refine ⟨a, ys, z, v, rfl, rfl, g4, by rw [g6.len]; exact Nat.lt_of_lt_of_le hl (by decide), z0, z1, ?_⟩
  exact kn _ σ R2 _ (r2.mut hd h1 (y := .lst (ys.take z.toNat ++ [v] ++ ys.drop z.toNat)) (d' := .lst (ds.take z.toNat ++ [d] ++ ds.drop z.toNat)) (((g6.take _).app (.cons hv2 .nil)).app (g6.drop _))) ((s0.trans s1).trans s2) q2

/-! ### comprehensions -/
def TgOnly (g : TG) (vs : List Nat) : Prop := ∀ v σ H (Q Q' : L2.St → Hp → Prop), (∀ σ' H', wipe σ' vs = wipe σ vs → Q σ' H' → Q' σ' H') → g v σ H Q → g v σ H Q'
def TgsOnly (g : TGs) (vs : List Nat) : Prop := ∀ v σ H (Q Q' : L2.St → Hp → Prop), (∀ σ' H', wipe σ' vs = wipe σ vs → Q σ' H' → Q' σ' H') → g v σ H Q → g v σ H Q'
theorem wipe_set : ∀ (σ : L2.St) (vs : List Nat) (i : Nat) (x : Option V), i ∈ vs → wipe (σ.set i x) vs = wipe σ vs := by
  have out : ∀ (σ : L2.St) (vs : List Nat) (i : Nat) (x : Option V), i ∉ vs → wipe (σ.set i x) vs = (wipe σ vs).set i x := by
    intro σ vs
    induction vs with
    | nil => intro i x _; rfl
    | cons v r ih =>
      intro i x h
      have hv : i ≠ v := fun z => h (by rw [z]; exact List.mem_cons_self)
      show (wipe (σ.set i x) r).set v none = ((wipe σ r).set v none).set i x
      rw [ih i x fun z => h (List.mem_cons_of_mem _ z), List.set_comm _ _ (Ne.symm hv).symm]
  intro σ vs
  induction vs with
  | nil => intro i x h; cases h
  | cons v r ih =>
    intro i x h
    show (wipe (σ.set i x) r).set v none = (wipe σ r).set v none
    by_cases hr : i ∈ r
    · rw [ih i x hr]
    · have e : i = v := by
        rcases List.mem_cons.mp h with e | e
        · exact e
        · exact absurd e hr
      subst e
      rw [out σ r i x hr, List.set_set]
theorem only_name {i : Nat} {vs : List Nat} (h : i ∈ vs) : TgOnly (gName i) vs := fun v σ H Q Q' k q => k _ _ (wipe_set σ vs i _ h) q
theorem only_nil {vs : List Nat} : TgsOnly gNil vs := fun v σ H Q Q' k ⟨e, q⟩ => ⟨e, k _ _ rfl q⟩
theorem only_cons {t : TG} {u : TGs} {vs : List Nat} (h1 : TgOnly t vs) (h2 : TgsOnly u vs) : TgsOnly (gCons t u) vs := fun v σ H Q Q' k ⟨x, r, e, q⟩ =>
  ⟨x, r, e, h1 x σ H _ _ (fun σ' H' w q => h2 r σ' H' _ _ (fun σ2 H2 w2 q2 => k σ2 H2 (w2.trans w) q2) q) q⟩
theorem only_tup {n : Nat} {u : TGs} {vs : List Nat} (h2 : TgsOnly u vs) : TgOnly (gTup K n u) vs := fun v σ H Q Q' k ⟨a, xs, e, h, hl, q⟩ => ⟨a, xs, e, h, hl, h2 xs σ H _ _ k q⟩
theorem wipe_wipe (σ : L2.St) : ∀ vs, wipe (wipe σ vs) vs = wipe σ vs := by
  have h : ∀ (vs ws : List Nat) (τ : L2.St), (∀ v ∈ ws, v ∈ vs) → wipe (wipe τ ws) vs = wipe τ vs := by
    intro vs ws
    induction ws with
    | nil => intro τ _; rfl
    | cons w r ih =>
      intro τ hw
      show wipe ((wipe τ r).set w none) vs = wipe τ vs
      rw [wipe_set _ _ _ _ (hw w List.mem_cons_self)]
      exact ih τ fun v q => hw v (List.mem_cons_of_mem _ q)
  intro vs
  exact h vs vs σ fun v q => q
theorem wipe_get {σ : L2.St} : ∀ {vs : List Nat} {i : Nat}, i ∉ vs → (wipe σ vs)[i]? = σ[i]?
  | [], _, _ => rfl
  | v :: r, i, h => by
    show ((wipe σ r).set v none)[i]? = σ[i]?
    rw [List.getElem?_set_ne (fun z => h (by rw [z]; exact List.mem_cons_self))]
    exact wipe_get fun z => h (List.mem_cons_of_mem _ z)
theorem Rep.wiped (r : Rep K G B env σ R H) {vs : List Nat} (hu : ∀ v ∈ vs, env[v]? = some .u) : Rep K G B env (wipe σ vs) R H := by
  have hg : ∀ (j : Nat) sl, env[j]? = some sl → sl ≠ .u → (wipe σ vs)[j]? = σ[j]? := fun j sl q n => wipe_get fun z => n (by rw [hu j z] at q; exact (Option.some.inj q).symm)
  have ho : ∀ (j : Nat) sl a, env[j]? = some sl → Slot.owns (wipe σ vs)[j]? a sl → Slot.owns σ[j]? a sl := fun j sl a h o => by
    by_cases n : sl = .u
    · subst n
      exact o.elim
    · rw [hg j sl h n] at o
      exact o
  exact {
    sub0 := r.sub0
    tab := r.tab
    step := r.step
    len := by rw [wipe_length]; exact r.len
    slots := fun i sl q => by
      have := r.slots i sl q
      cases sl with
      | u => trivial
      | p d =>
        obtain ⟨v, h1, h2⟩ := this
        exact ⟨v, by rw [hg i _ q (fun z => by cases z)]; exact h1, h2⟩
      | mu d =>
        obtain ⟨a, y, h1, h2⟩ := this
        exact ⟨a, y, by rw [hg i _ q (fun z => by cases z)]; exact h1, h2⟩
      | hp gs => exact this
    dist := fun i j si sj a n hi hj o1 o2 => r.dist i j si sj a n hi hj (ho i si a hi o1) (ho j sj a hj o2)
    pr := fun q hq => by
      obtain ⟨h1, h2, h3, h0, h4⟩ := r.pr q hq
      exact ⟨h1, h2, h3, h0, fun j e hj o => h4 j e hj (ho j e _ hj o)⟩ }
def Agree (vs : List Nat) (env e : Vn) : Prop := e.length = env.length ∧ ∀ i : Nat, i ∉ vs → e[i]? = env[i]?
theorem Agree.refl {vs : List Nat} : Agree vs env env := ⟨rfl, fun _ _ => rfl⟩
theorem Agree.set {vs : List Nat} {e : Vn} {i : Nat} {s : Slot} (h : Agree vs env e) (hi : i ∈ vs) : Agree vs env (e.set i s) := ⟨by rw [List.length_set]; exact h.1, fun j hj => by
  rw [List.getElem?_set_ne (fun z => hj (by rw [← z]; exact hi))]
  exact h.2 j hj⟩
theorem Rep.unwiped {σ2 : L2.St} {e2 : Vn} {vs : List Nat} (r : Rep K G B env σ R H) (r2 : Rep K G B e2 σ2 R' H') (hu : ∀ v ∈ vs, env[v]? = some .u) (a : Agree vs env e2) (hw : wipe σ2 vs = wipe σ vs) : Rep K G B env σ R' H' := by
  have hs : ∀ i : Nat, i ∉ vs → σ2[i]? = σ[i]? := fun i hi => by rw [← wipe_get hi, hw, wipe_get hi]
  have he : ∀ (i : Nat) sl, env[i]? = some sl → sl ≠ .u → e2[i]? = some sl ∧ σ2[i]? = σ[i]? := fun i sl q n => by
    have hi : i ∉ vs := fun z => n (by rw [hu i z] at q; exact (Option.some.inj q).symm)
    exact ⟨by rw [a.2 i hi]; exact q, hs i hi⟩
  exact {
    sub0 := r.sub0
    tab := r.tab
    step := r2.step
    len := r.len
    dist := r.dist
    slots := fun i sl q => by
      by_cases n : sl = .u
      · subst n
        trivial
      · obtain ⟨q1, q2⟩ := he i sl q n
        have := r2.slots i sl q1
        cases sl with
        | u => trivial
        | p d =>
          obtain ⟨v, h1, h2⟩ := this
          exact ⟨v, by rw [← q2]; exact h1, h2⟩
        | mu d =>
          obtain ⟨a, y, h1, h2⟩ := this
          exact ⟨a, y, by rw [← q2]; exact h1, h2⟩
        | hp gs => exact this
    pr := fun q hq => by
      obtain ⟨h1, h2, h3, h4⟩ := r2.pr q hq
      exact ⟨h1, h2, h3, (r.pr q hq).2.2.2⟩ }
/-- [elt for target in iter if test] -/
theorem ve_lc {wi : TI} {g : TG} {tt : TT} {te : TE} {vs : List Nat} (hu : ∀ v ∈ vs, env[v]? = some .u) (ho : TgOnly g vs)
    (h : VI K G B wi env fun items => items.length < 100000 ∧ ∃ Iv : Nat → List D → Prop, Iv 0 [] ∧
      (∀ p (i : Nat) d acc, items[i]? = some d → Iv i acc → VG K G { B with pr := p :: B.pr } g (.p d) env fun e => Agree vs env e ∧ VT K G { B with pr := p :: B.pr } tt e fun b =>
        (b = true → VE K G { B with pr := p :: B.pr } te e fun x => x.fz fun x => ∃ y, x = .p y ∧ Iv (i + 1) (acc ++ [y])) ∧ (b = false → Iv (i + 1) acc)) ∧ (∀ acc, Iv items.length acc → Q (.o (.lst acc)))) :
    VE K G B (tLc wi g tt te vs) env Q := fun σ R H r Qh k =>
  h σ R H r _ fun J R1 H1 items r1 s1 wk ⟨hsz, Iv, h0, hs, he⟩ => by
    intro D hD
    refine ⟨fun i m H' => i + m = items.length ∧ ∃ R' xs ds, Rep K G { B with pr := (D, .lst xs) :: B.pr } env σ R' H' ∧ Same R1 R' ∧ AtL K R' xs ds ∧ ds.length ≤ i ∧ Iv i ds,
      ⟨items.length, Nat.zero_add _, R1, [], [], (r1.new hD).guard (r1.fresh hD) (r1.sub.none hD) upd_same rfl (r1.noslot hD), Same.refl _, .nil, Nat.le_refl _, h0⟩, ?_⟩
    rintro i m H' ⟨hi, R', xs, ds, r', s', ha, hl, q⟩
    obtain ⟨d1, d2, d3, _, d4⟩ := r'.guarded
    have ru := r'.unguard
    by_cases hm : m = 0
    · subst hm
      have ei : i = items.length := hi
      subst ei
      refine .inl ⟨wk.stop _ env σ R' H' r' s', k (.ref D) R' H' (.o (.lst ds)) ru (s1.trans s') ⟨D, _, rfl, d1, d2, d3, ha, d4, ?_⟩ (he ds q)⟩
      -- no elder protected object is D
      intro p hp e
      have h3 := (r1.pr p hp).2.2.1
      rw [e, hD] at h3
      cases h3
    · have hlt : i < items.length := by omega
      have rw' := r'.wiped hu
      obtain ⟨g1, g2⟩ := wk.go _ env _ R' H' rw' s' i items[i] (List.getElem?_eq_getElem hlt)
      refine .inr ⟨g1, fun H2 => ∃ R' xs ds, Rep K G { B with pr := (D, .lst xs) :: B.pr } env σ R' H2 ∧ Same R1 R' ∧ AtL K R' xs ds ∧ ds.length ≤ i + 1 ∧ Iv (i + 1) ds, fun H2 ⟨R2, ys, es, a, b, c, d, e⟩ => ⟨m - 1, by omega, by omega, R2, ys, es, a, b, c, d, e⟩, fun v H2 hy => ?_⟩
      obtain ⟨R2, r2, s2, hv⟩ := g2 v H2 hy
      have st2 : Same R1 R2 := s'.trans s2
      refine ho v (wipe σ vs) H2 _ _ ?_ (hs _ i items[i] ds (List.getElem?_eq_getElem hlt) q _ R2 H2 r2 v hv (fun σ3 H3 => ∃ e R3, Rep K G { B with pr := (D, .lst xs) :: B.pr } e σ3 R3 H3 ∧ Same R2 R3 ∧ Agree vs env e ∧ VT K G { B with pr := (D, .lst xs) :: B.pr } tt e _) fun e σ3 R3 H3 r3 s3 q3 => ⟨e, R3, r3, s3, q3.1, q3.2⟩)
      rintro σ3 H3 hw ⟨e, R3, r3, s3, hag, q3⟩
      have hw3 : wipe σ3 vs = wipe σ vs := hw.trans (wipe_wipe σ vs)
      refine ⟨hw3, q3 σ3 R3 H3 r3 _ fun b R4 H4 r4 s4 q4 => ?_⟩
      cases b with
      | false =>
        have st4 : Same R1 R4 := (st2.trans s3).trans s4
        exact iteF ⟨R4, xs, ds, r'.unwiped r4 hu hag hw3, st4, ha.same ((s2.trans s3).trans s4), Nat.le_succ_of_le hl, q4.2 rfl⟩
      | true =>
        refine iteT (q4.1 rfl σ3 R4 H4 r4 _ fun w R5 H5 x r5 s5 hw5 q5 => ?_)
        obtain ⟨R6, x', r6, s6, hv6, hof, y, rfl, q6⟩ := hw5.fz r5 q5
        obtain ⟨f1, f2, f3, _, f4⟩ := r6.guarded
        have st6 : Same R1 R6 := ((((st2.trans s3).trans s4).trans s5).trans s6)
        have st6' : Same R' R6 := ((((s2.trans s3).trans s4).trans s5).trans s6)
        refine ⟨xs, f3, by rw [ha.len]; exact Nat.lt_of_le_of_lt hl (Nat.lt_trans hlt (Nat.lt_of_lt_of_le hsz (by decide))), R6, xs ++ [w], ds ++ [y], ?_, st6, (ha.same st6').app (.cons hv6 .nil), ?_, q6⟩
        · have r7 := (r'.unwiped r6 hu hag hw3)
          have r8 := r7.unguard
          have np : ∀ q ∈ B.pr, q.1 ≠ D := fun p hp e => by
            have h3 := (r1.pr p hp).2.2.1
            rw [e, hD] at h3
            cases h3
          exact (r8.mutA (y := .lst (xs ++ [w])) f3 rfl f1 f2 d4 np).guard f1 f2 upd_same rfl d4
        · rw [List.length_append]
          exact Nat.succ_le_succ hl
/-- .. of one thing an item -/
theorem ve_lcm {wi : TI} {g : TG} {tt : TT} {te : TE} {vs : List Nat} (hu : ∀ v ∈ vs, env[v]? = some .u) (ho : TgOnly g vs) 
    (h : VI K G B wi env fun items => items.length < 100000 ∧ ∃ f : D → Option D,
      (∀ p (i : Nat) d, items[i]? = some d → VG K G { B with pr := p :: B.pr } g (.p d) env fun e => Agree vs env e ∧ VT K G { B with pr := p :: B.pr } tt e fun b =>
        (b = true → VE K G { B with pr := p :: B.pr } te e fun x => x.fz fun x => ∃ y, x = .p y ∧ f d = some y) ∧ (b = false → f d = none)) ∧ Q (.o (.lst (items.filterMap f)))) :
    VE K G B (tLc wi g tt te vs) env Q := ve_lc hu ho fun σ R H r Qh k => h σ R H r _ fun J R1 H1 items r1 s1 wk ⟨hsz, f, hs, q⟩ => k J R1 H1 items r1 s1 wk
  ⟨hsz, fun i acc => acc = (items.take i).filterMap f, rfl, fun p i d acc hi e => by
    subst e
    have et : items.take (i + 1) = items.take i ++ [d] := by rw [List.take_add_one, hi]; rfl
    refine fun σ R H r v hv Qh k => hs p i d hi σ R H r v hv Qh fun e σ' R' H' r' s' ⟨ha, q⟩ => k e σ' R' H' r' s' ⟨ha, fun σ R H r Qh k => q σ R H r Qh fun b R' H' r' s' q => k b R' H' r' s' ⟨fun hb σ R H r Qh k => q.1 hb σ R H r Qh fun v R' H' x r' s' hv q => k v R' H' x r' s' hv ?_, fun hb => ?_⟩⟩
    · have key : ∀ y, f d = some y → (items.take i).filterMap f ++ [y] = (items.take (i + 1)).filterMap f := fun y hf => by
        rw [et, List.filterMap_append]
        simp [hf]
      cases x with
      | p d' =>
        obtain ⟨y, e, hf⟩ := q
        cases e
        exact fz_p ⟨_, rfl, key _ hf⟩
      | o d' =>
        obtain ⟨y, e, hf⟩ := q
        cases e
        exact fz_o ⟨_, rfl, key _ hf⟩
      | m _ d' =>
        obtain ⟨y, e, hf⟩ := q
        cases e
    · show (items.take i).filterMap f = (items.take (i + 1)).filterMap f
      rw [et, List.filterMap_append]
      simp [q.2 hb], fun acc e => by
    subst e
    rw [List.take_length]
    exact q⟩
/-- no tests, one test -/
theorem vt_yes (q : Qb true) : VT K G B tYes env Qb := fun σ R H r Qh k => k true R H r (Same.refl R) q
/-! ### one step of a reading -/
theorem ex_bl {Qb : Bool → Prop} {b : Bool} (q : Qb b) : ∃ c, XV.p (.bl b) = XV.p (.bl c) ∧ Qb c := ⟨b, rfl, q⟩
theorem ex_int {Qb : Int → Prop} {b : Int} (q : Qb b) : ∃ c, XV.p (.int b) = XV.p (.int c) ∧ Qb c := ⟨b, rfl, q⟩
theorem ex_io {Qb : Option Int → Prop} {b : Int} (q : Qb (some b)) : ∃ c, XV.p (.int b) = XV.p (.int c) ∧ Qb (some c) := ⟨b, rfl, q⟩
theorem ex_plains {Q : List D → Prop} {xs : List XV} {ds : List D} (h : XV.plains xs = some ds) (hl : Nat.ble ds.length 100000 = true) (q : Q ds) : ∃ ds, XV.plains xs = some ds ∧ ds.length ≤ 100000 ∧ Q ds := ⟨ds, h, Nat.le_of_ble_eq_true hl, q⟩
end
end VL

namespace VL
open PySem L2
section
variable {K : PySem.W.Frag} {G : Gs} {B : Bs} {env : Vn} {σ : L2.St} {R R' R1 H H' H1 : Hp} {Q : XV → Prop} {nx : Vn → Prop} {rt : XV → Prop} {bk ct : Vn → Prop} {Qe : Vn → Prop} {Qb : Bool → Prop} {Ql : List D → Prop}

theorem and_f {b : Bool} {A B : Prop} (hb : b = false) (q : B) : (b = true → A) ∧ (b = false → B) := ⟨fun h => (by rw [hb] at h; cases h), fun _ => q⟩
theorem and_t {b : Bool} {A B : Prop} (hb : b = true) (q : A) : (b = true → A) ∧ (b = false → B) := ⟨fun _ => q, fun h => (by rw [hb] at h; cases h)⟩
theorem vs_cut {t : TS} (M : Vn → Prop) (h : VS K G B t env M rt bk ct) (k : ∀ e, M e → nx e) : VS K G B t env nx rt bk ct := fun σ R H r Z kn kr kb kc => h σ R H r Z (fun e σ' R' H' r' s' q => kn e σ' R' H' r' s' (k e q)) kr kb kc
theorem flat_ints (ns : List Int) : D.flat (.lst (ns.map D.int)) = true := by
  show (ns.map D.int).all (D.deepT 9) = true
  rw [List.all_map]
  exact List.all_eq_true.mpr fun _ _ => rfl
theorem cutD_ints (ns : List Int) (lo hi : Option Int) : cutD (ns.map D.int) lo hi = ((ns.drop (HT.sIx ns.length 0 lo)).take (HT.sIx ns.length ns.length hi - HT.sIx ns.length 0 lo)).map D.int := by
  unfold cutD
  rw [List.length_map, ← List.map_drop, ← List.map_take]
theorem atI_map {ns : List Int} {j : Nat} {n : Int} (h : ns[j]? = some n) : atI (ns.map D.int) (j : Int) = some (.int n) := atI_nat (by rw [List.getElem?_map, h]; rfl)
theorem sIx_nn {n d : Nat} {k : Int} (h : 0 ≤ k) : HT.sIx n d (some k) = min k.toNat n := by
  show (if k < 0 then (k + (n : Int)).toNat else min k.toNat n) = min k.toNat n
  rw [if_neg (by omega)]

/-! ### a call to which slots' objects are lent -/
def MuAt (env : Vn) (σ : L2.St) (b : Addr) : Prop := ∃ (i : Nat) (sl : Slot), env[i]? = some sl ∧ Slot.owns σ[i]? b sl
open Classical in
noncomputable def lend (R H : Hp) (env : Vn) (σ : L2.St) : Hp := fun b => if MuAt env σ b then H b else R b
open Classical in
noncomputable def cutMu (R : Hp) (env : Vn) (σ : L2.St) : Hp := fun b => if MuAt env σ b then none else R b
theorem lend_mu {b : Addr} (h : MuAt env σ b) : lend R H env σ b = H b := if_pos h
theorem lend_no {b : Addr} (h : ¬ MuAt env σ b) : lend R H env σ b = R b := if_neg h
theorem cut_mu {b : Addr} (h : MuAt env σ b) : cutMu R env σ b = none := if_pos h
theorem cut_no {b : Addr} (h : ¬ MuAt env σ b) : cutMu R env σ b = R b := if_neg h
theorem Rep.mu (r : Rep K G B env σ R H) {b : Addr} (h : MuAt env σ b) : R b = none ∧ ∃ y, H b = some y ∧ isLD y = true := by
  obtain ⟨i, sl, h1, h2⟩ := h
  exact (r.own h1 h2).2
theorem at_cut (hc : ∀ b, MuAt env σ b → ∃ y, R b = some y ∧ isLD y = true) : ∀ (n : Nat) {v : V} {d : D}, D.deepT n d = true → At K R v d → At K (cutMu R env σ) v d := by
  intro n
  induction n with
  | zero => intro v d h _; cases h
  | succ n ih =>
    intro v d h t
    cases t with
    | non => exact .non
    | bl b => exact .bl b
    | int i => exact .int i
    | str x => exact .str x
    | ty n => exact .ty n
    | @tup b xs ds hs ht =>
      have hn : ∀ u, R b = some u → isLD u = false → cutMu R env σ b = R b := fun u e hu => cut_no fun z => by
        obtain ⟨y, h1, h2⟩ := hc b z
        rw [e] at h1
        cases h1
        rw [hu] at h2
        cases h2
      refine .tup (xs := xs) ?_ ?_
      · rcases hs with (hs | ⟨o, hs⟩) | hs
        · exact .inl (.inl (by rw [hn _ hs rfl]; exact hs))
        · exact .inl (.inr ⟨o, by rw [hn _ hs rfl]; exact hs⟩)
        · exact .inr hs
      · have hd : ∀ d ∈ ds, D.deepT n d = true := List.all_eq_true.mp h
        exact ht.imp fun v d hm => ih (hd d hm)
    | lst _ _ => cases h
    | ro _ _ => cases h
    | dct _ _ => cases h
    | lkd _ _ => cases h
    | dtt _ => cases h
    | ins _ _ _ => cases h
    | @key b ks hs =>
      refine .key ?_
      rw [cut_no]
      · exact hs
      · intro z
        obtain ⟨y, h1, h2⟩ := hc b z
        rw [hs] at h1
        cases h1
        cases h2
    | @st b φ hs =>
      refine .st (φ := φ) ?_
      rw [cut_no]
      · exact hs
      · intro z
        obtain ⟨y, h1, h2⟩ := hc b z
        rw [hs] at h1
        cases h1
        cases h2
    | ptr b => exact .ptr b
    | @cm b i j hs =>
      refine .cm (i := i) (j := j) ?_
      rw [cut_no]
      · exact hs
      · intro z
        obtain ⟨y, h1, h2⟩ := hc b z
        rw [hs] at h1
        cases h1
        cases h2
def XV.lent : List XV → Option (List D)
  | [] => some []
  | .p d :: r => match XV.lent r with
    | some ds => some (d :: ds)
    | none => none
  | .m _ d :: r => match XV.lent r with
    | some ds => some (d :: ds)
    | none => none
  | .o _ :: _ => none
theorem lent_at (r : Rep K G B env σ R H) : ∀ {vs : List V} {xs : List XV} {ds : List D}, XV.lent xs = some ds → VAtL K B env σ R H vs xs → AtL K (lend R H env σ) vs ds
  | [], [], _, e, _ => by
    cases e
    exact .nil
  | [], _ :: _, _, _, h => h.elim
  | _ :: _, [], _, _, h => h.elim
  | v :: vs, .p d :: xs, ds, e, h => by
    unfold XV.lent at e
    cases q : XV.lent xs with
    | none =>
      rw [q] at e
      cases e
    | some es =>
      rw [q] at e
      cases e
      have s : Same R (lend R H env σ) := fun b x e => by
        rw [lend_no]
        · exact e
        · intro z
          rw [(r.mu z).1] at e
          cases e
      exact .cons (At.same s h.1) (lent_at r q h.2)
  | v :: vs, .m i d :: xs, ds, e, h => by
    unfold XV.lent at e
    cases q : XV.lent xs with
    | none =>
      rw [q] at e
      cases e
    | some es =>
      rw [q] at e
      cases e
      have s : Same R (lend R H env σ) := fun b x e => by
        rw [lend_no]
        · exact e
        · intro z
          rw [(r.mu z).1] at e
          cases e
      refine .cons ?_ (lent_at r q h.2)
      obtain ⟨h1, h2⟩ := h.1
      obtain ⟨a, y, g1, g2, g3, g4, g5⟩ := r.slots i _ h1
      rw [g1] at h2
      cases h2
      have e : lend R H env σ a = some y := (lend_mu ⟨i, _, h1, g1⟩).trans g4
      exact At.of_matS g5 e s
  | _ :: _, .o _ :: _, _, e, _ => by cases e
theorem ve_callM {α : Type} {fr : Bool} {args : α → List D} {pre : α → Prop} {post : α → D → Prop} {rs : α → Addr → Prop} {E : XK} {X : Addr → Prop} {t : TA} (L : Lets K G B E X)
    (h : VA K G B t env fun xs => ∃ x, XV.lent xs = some (args x) ∧ pre x ∧ (∀ C, rs x C → X C) ∧ ∀ d, post x d → D.deepT 9 d = true ∧ Q (.p d)) : VE K G B (tCall (SpA K G fr args pre post rs) [] E t) env Q := fun σ R H rp Qh k =>
  h σ R H rp _ fun vs R1 H1 xs r1 s1 hv _ ⟨x, e, hp, hr, q⟩ => by
    rw [List.append_nil]
    have key : ∀ R' H', Step K G (lend R1 H1 env σ) H1 R' H' → Step K G R1 H1 (cutMu R' env σ) H' := fun R' H' s => {
      same := fun b x e => by
        have nb : ¬ MuAt env σ b := fun z => by
          rw [(r1.mu z).1] at e
          cases e
        rw [cut_no nb]
        exact s.same b x ((lend_no nb).trans e)
      sub := fun b x e => by
        by_cases z : MuAt env σ b
        · rw [cut_mu z] at e
          cases e
        · rw [cut_no z] at e
          exact s.sub b x e
      kept := fun b y e n => s.kept b y e fun m z => by
        by_cases w : MuAt env σ b
        · rw [lend_mu w, e] at z
          cases z
          obtain ⟨_, y', h1, h2⟩ := r1.mu w
          rw [e] at h1
          cases h1
          exact ld_mk h2
        · rw [lend_no w] at z
          exact n m z
      out := fun b y e hd n => by
        by_cases w : MuAt env σ b
        · exact cut_mu w
        · rw [cut_no w]
          exact s.out b y e hd ((lend_no w).trans n) }
    have sub : Sub K G (lend R1 H1 env σ) H1 := fun b x e => by
      by_cases w : MuAt env σ b
      · rw [lend_mu w] at e
        obtain ⟨_, y, h1, h2⟩ := r1.mu w
        rw [e] at h1
        cases h1
        exact subAt_of e (ld_mk h2)
      · rw [lend_no w] at e
        exact r1.sub b x e
    have tb : TabIn G (lend R1 H1 env σ) := TabIn.go r1.tab' fun b z e => by
      rw [lend_no]
      · exact e
      · intro w
        rw [(r1.mu w).1] at e
        cases e
    refine ⟨lend R1 H1 env σ, x, ⟨sub, tb⟩, lent_at r1 e hv, hp, fun v R' H' d s ha _ hd => ?_, fun C R' H' s hc => L C (cutMu R' env σ) H' (r1.step.trans (key R' H' s)) (hr C hc)⟩
    obtain ⟨fl, q⟩ := q d hd
    have st := key R' H' s
    refine k v (cutMu R' env σ) H' (.p d) (r1.go st) (s1.trans st.same) (at_cut (fun b w => ?_) 9 fl ha) q
    obtain ⟨_, y, h1, h2⟩ := r1.mu w
    exact ⟨y, s.same b y ((lend_mu w).trans h1), h2⟩

/-! ### products, and what stands either way -/
theorem vo_orL {r r' : R2} {x y : XV} (h : VO K G B r env x y Q) : VO K G B (fun x y H Q => r x y H Q ∨ r' x y H Q) env x y Q := fun σ R H rp v w hv hw Qh k => .inl (h σ R H rp v w hv hw Qh k)
theorem vo_orR {r r' : R2} {x y : XV} (h : VO K G B r' env x y Q) : VO K G B (fun x y H Q => r x y H Q ∨ r' x y H Q) env x y Q := fun σ R H rp v w hv hw Qh k => .inr (h σ R H rp v w hv hw Qh k)
theorem vo_mul {i j : Int} (hc : CMul i j ∨ CMulW i j) (q : Q (.p (.int (i * j)))) : VO K G B (fun x y H Q => rI CMul (fun i j => .int (i * j)) x y H Q ∨ rI CMulW (fun i j => .int (i * j)) x y H Q) env (.p (.int i)) (.p (.int j)) Q := by
  rcases hc with hc | hc
  · exact vo_orL (vo_I hc q)
  · exact vo_orR (vo_I hc q)
theorem vo_div {i j : Int} (hc : CDivW i j) (q : Q (.p (.int (i / j)))) : VO K G B (rI CDivW fun i j => .int (i / j)) env (.p (.int i)) (.p (.int j)) Q := vo_I hc q
theorem vo_mod {i j : Int} (hc : 0 < j) (q : Q (.p (.int (i % j)))) : VO K G B (rI (fun _ j => 0 < j) fun i j => .int (i % j)) env (.p (.int i)) (.p (.int j)) Q := vo_I hc q
theorem vo_pow {i j : Int} (hc : CPow i j) (q : Q (.p (.int (i ^ j.toNat)))) : VO K G B (rI CPow fun i j => .int (i ^ j.toNat)) env (.p (.int i)) (.p (.int j)) Q := vo_I hc q

theorem vo_mulq {i j : Int} (q : Q (.p (.int (i * j)))) (hc : CMul i j ∨ CMulW i j) : VO K G B (fun x y H Q => rI CMul (fun i j => .int (i * j)) x y H Q ∨ rI CMulW (fun i j => .int (i * j)) x y H Q) env (.p (.int i)) (.p (.int j)) Q := vo_mul hc q
theorem vo_divq {i j : Int} (q : Q (.p (.int (i / j)))) (hc : CDivW i j) : VO K G B (rI CDivW fun i j => .int (i / j)) env (.p (.int i)) (.p (.int j)) Q := vo_I hc q
theorem vo_modq {i j : Int} (q : Q (.p (.int (i % j)))) (hc : 0 < j) : VO K G B (rI (fun _ j => 0 < j) fun i j => .int (i % j)) env (.p (.int i)) (.p (.int j)) Q := vo_I hc q
theorem vo_ixLq {x : XV} {ds : List D} {i : Int} {d : D} (q : Q (.p d)) (hx : x.seqL = some ds) (hi : atI ds i = some d) : VO K G B (rIxL K) env x (.p (.int i)) Q := vo_ixL hx hi q

/-! ### isinstance -/
theorem ve_ty {n : String} (q : Q (.p (.ty n))) : VE K G B (tC (.ty n)) env Q := fun σ R H r Qh k => k _ R H (.p (.ty n)) r (Same.refl R) (At.ty n) q
def XV.tyOf : XV → Option String
  | .p .non => some "NoneType"
  | .p (.bl _) => some "bool"
  | .p (.int _) => some "int"
  | .p (.str _) => some "str"
  | .p (.tup _) => some "tuple"
  | .p (.lst _) => some "list"
  | .p (.ro _) => some "list"
  | .p (.dct _) => some "dict"
  | .p (.key _) => some "tuple"
  | .m _ (.lst _) => some "list"
  | .m _ (.dct _) => some "dict"
  | _ => none
theorem tyL {a : Addr} {xs : List V} (h : SqL K H a xs) : TyX K H (.ref a) (.type "list") := by
  rcases h with (h | ⟨o, h⟩) | ⟨o, its, n, h, c, _⟩
  · exact .base (.lst h)
  · exact .base (.frz h)
  · exact .kList h c
theorem tyT {a : Addr} {xs : List V} (h : SqT K H a xs) : TyX K H (.ref a) (.type "tuple") := by
  rcases h with (h | ⟨o, h⟩) | ⟨o, its, n, h, c, _⟩
  · exact .base (.tup h)
  · exact .fTuple h
  · exact .kTuple h c
theorem tyOf_at (r : Rep K G B env σ R H) {v : V} {x : XV} {t : String} (h : VAt K B env σ R H v x) (e : x.tyOf = some t) : TyX K H v (.type t) := by
  cases x with
  | o d => cases e
  | p d =>
    cases d with
    | non => cases e; cases h; exact .base .non
    | bl b => cases e; cases h; exact .base (.bl _)
    | int b => cases e; cases h; exact .base (.int _)
    | str b => cases e; cases h; exact .base (.str _)
    | tup b =>
      cases e
      cases h with
      | tup h _ => exact tyT (r.sub.t h)
    | lst b =>
      cases e
      cases h with
      | lst h _ => exact tyL (r.sub.l (.inl (.inl h)))
    | ro b =>
      cases e
      cases h with
      | ro h _ => exact tyL (r.sub.l h)
    | dct b =>
      cases e
      cases h with
      | dct h _ =>
        exact .base (.dK (r.sub.of h (rfl)))
    | lkd a b => cases e
    | st => cases e
    | cm => cases e
    | ptr a => cases e
    | ty n => cases e
    | dtt _ => cases e
    | ins _ _ _ => cases e
    | key b =>
      cases e
      cases h with
      | key h => exact tyT (r.sub.t (.inl (.inl h)))
  | m i d =>
    obtain ⟨h1, h2⟩ := h
    obtain ⟨a, y, g1, g2, g3, g4, g5⟩ := r.slots i _ h1
    rw [g1] at h2
    cases h2
    cases d <;> cases y <;> first | exact g5.elim | (cases e; exact .base (.lst g4)) | (cases e; exact .base (.dK g4)) | cases e
theorem vc_isi {x : XV} {t u : String} {b : Bool} (hx : x.tyOf = some t) (hb : kitB t u = some b) (q : Q (.p (.bl b))) : VC K G B (rIsi K) env [x, .p (.ty u)] Q := vc2 fun σ R H r v w hv hw Qh k => by
  cases hw
  exact ⟨v, .ty u, .type t, .type u, b, rfl, .ty u, tyOf_at r hv hx, kit_ty hb, k _ R H (.p (.bl b)) r (Same.refl R) (.bl b) q⟩

/-! ### == of data of any depth -/
def keyPy : Key → PyData
  | .inl i => .int i
  | .inr x => .str x
def keyCmp : Key → Bool
  | .inl _ => true
  | .inr x => PyData.strOk x
theorem dp_keys {K : PySem.W.Frag} {H : Hp} : ∀ {ks : List Key}, ks.all keyCmp = true → DpAll K H (ks.map kV) (ks.map keyPy)
  | [], _ => .nil
  | .inl i :: r, h => .cons (.int i) (dp_keys (by rw [List.all_cons, Bool.and_eq_true] at h; exact h.2))
  | .inr x :: r, h => .cons (.str x) (dp_keys (by rw [List.all_cons, Bool.and_eq_true] at h; exact h.2))
theorem keys_lay : ∀ ks : List Key, ks.all keyCmp = true → PyData.canLayAll0 (ks.map keyPy) = true ∧ PyData.depthAll (ks.map keyPy) = 0
  | [], _ => ⟨rfl, rfl⟩
  | .inl i :: r, h => by
    obtain ⟨a, b⟩ := keys_lay r (by rw [List.all_cons, Bool.and_eq_true] at h; exact h.2)
    simp [keyPy, PyData.canLayAll0, PyData.canLay0, PyData.depthAll, PyData.depth, a, b]
  | .inr x :: r, h => by
    rw [List.all_cons, Bool.and_eq_true] at h
    obtain ⟨a, b⟩ := keys_lay r h.2
    have h1 : PyData.strOk x = true := h.1
    simp [keyPy, PyData.canLayAll0, PyData.canLay0, PyData.depthAll, PyData.depth, a, b, h1]
mutual
def D.py : D → PyData
  | .non => .none
  | .bl b => .bool b
  | .int i => .int i
  | .str x => .str x
  | .tup ds => .tuple (D.pys ds)
  | .lst ds => .list (D.pys ds)
  | .ro ds => .list (D.pys ds)
  | .dct _ => .none
  | .lkd _ _ => .none
  | .st => .none
  | .cm => .none
  | .ptr _ => .none
  | .ty _ => .none
  | .dtt _ => .none
  | .ins _ _ _ => .none
  | .key ks => .tuple (ks.map keyPy)
def D.pys : List D → List PyData
  | [] => []
  | d :: r => D.py d :: D.pys r
end
mutual
/-- what may be compared: no dict, texts of real signs -/
def D.cmp : D → Bool
  | .non => true
  | .bl _ => true
  | .int _ => true
  | .str x => PyData.strOk x
  | .tup ds => D.cmps ds
  | .lst ds => D.cmps ds
  | .ro ds => D.cmps ds
  | .dct _ => false
  | .lkd _ _ => false
  | .st => false
  | .cm => false
  | .ptr _ => false
  | .ty _ => false
  | .dtt _ => false
  | .ins _ _ _ => false
  | .key ks => ks.all keyCmp
def D.cmps : List D → Bool
  | [] => true
  | d :: r => D.cmp d && D.cmps r
end
mutual
theorem at_dp (s : Sub K G R H) : ∀ {v : V} {d : D}, At K R v d → d.cmp = true → Dp K H v d.py
  | _, _, .non, _ => .non
  | _, _, .bl b, _ => .bl b
  | _, _, .int i, _ => .int i
  | _, _, .str x, _ => .str x
  | _, _, .tup h t, e => by
    simp only [D.cmp] at e
    simp only [D.py]
    exact .tup (s.t h) (at_dps s t e)
  | _, _, .lst h t, e => by
    simp only [D.cmp] at e
    simp only [D.py]
    exact .lst (s.l (.inl (.inl h))) (at_dps s t e)
  | _, _, .ro h t, e => by
    simp only [D.cmp] at e
    simp only [D.py]
    exact .lst (s.l h) (at_dps s t e)
  | _, _, .dct _ _, e => by simp [D.cmp] at e
  | _, _, .lkd _ _, e => by simp [D.cmp] at e
  | _, _, .st _, e => by simp [D.cmp] at e
  | _, _, .cm _, e => by simp [D.cmp] at e
  | _, _, .ptr _, e => by simp [D.cmp] at e
  | _, _, .ty _, e => by simp [D.cmp] at e
  | _, _, .dtt _, e => by simp [D.cmp] at e
  | _, _, .ins _ _ _, e => by simp [D.cmp] at e
  | _, _, .key h, e => by
    simp only [D.cmp] at e
    simp only [D.py]
    exact .tup (s.t (.inl (.inl h))) (dp_keys e)
theorem at_dps (s : Sub K G R H) : ∀ {vs : List V} {ds : List D}, AtL K R vs ds → D.cmps ds = true → DpAll K H vs (D.pys ds)
  | _, _, .nil, _ => .nil
  | _, _, .cons h t, e => by
    simp only [D.cmps, Bool.and_eq_true] at e
    simp only [D.pys]
    exact .cons (at_dp s h e.1) (at_dps s t e.2)
end
def XV.dat : XV → Option D
  | .p d => some d
  | .m _ (.lst ds) => some (.lst ds)
  | _ => none
theorem dat_dp (r : Rep K G B env σ R H) {v : V} {x : XV} {d : D} (h : VAt K B env σ R H v x) (e : x.dat = some d) (hc : d.cmp = true) : Dp K H v d.py := by
  cases x with
  | p d' => cases e; exact at_dp r.sub h hc
  | o d' => cases e
  | m i d' =>
    cases d' with
    | lst ds =>
      cases e
      obtain ⟨h1, h2⟩ := h
      obtain ⟨a, y, g1, g2, g3, g4, g5⟩ := r.slots i _ h1
      rw [g1] at h2
      cases h2
      cases y with
      | lst xs =>
        simp only [D.cmp] at hc
        simp only [D.py]
        exact .lst (.inl (.inl g4)) (at_dps r.sub g5 hc)
      | _ => exact g5.elim
    | _ => cases e
theorem vo_eqD {x y : XV} {d e : D} (hx : x.dat = some d) (hy : y.dat = some e) (h : d.cmp = true ∧ e.cmp = true ∧ SeqAt.shaped d.py = true ∧ SeqAt.shaped e.py = true) (q : Q (.p (.bl (PyData.eqv d.py e.py)))) : VO K G B (rEqD K) env x y Q := fun σ R H r v w hv hw Qh k =>
  ⟨d.py, e.py, dat_dp r hv hx h.1, dat_dp r hw hy h.2.1, h.2.2.1, h.2.2.2, k _ R H (.p (.bl _)) r (Same.refl R) (.bl _) q⟩
theorem vo_neD {x y : XV} {d e : D} (hx : x.dat = some d) (hy : y.dat = some e) (h : d.cmp = true ∧ e.cmp = true ∧ SeqAt.shaped d.py = true ∧ SeqAt.shaped e.py = true) (q : Q (.p (.bl (!PyData.eqv d.py e.py)))) : VO K G B (rNeD K) env x y Q := fun σ R H r v w hv hw Qh k =>
  ⟨d.py, e.py, dat_dp r hv hx h.1, dat_dp r hw hy h.2.1, h.2.2.1, h.2.2.2, k _ R H (.p (.bl _)) r (Same.refl R) (.bl _) q⟩
/-- comparable, at most so deep -/
def D.cmpN : Nat → D → Bool
  | 0, d => match d with
    | .non => true
    | .bl _ => true
    | .int _ => true
    | .str x => PyData.strOk x
    | _ => false
  | n + 1, d => match d with
    | .non => true
    | .bl _ => true
    | .int _ => true
    | .str x => PyData.strOk x
    | .tup ds => ds.all (D.cmpN n)
    | .lst ds => ds.all (D.cmpN n)
    | .ro ds => ds.all (D.cmpN n)
    | .key ks => ks.all keyCmp
    | _ => false
theorem cmpN_all {n : Nat} (ih : ∀ d : D, D.cmpN n d = true → d.cmp = true ∧ PyData.canLay0 d.py = true ∧ PyData.depth d.py ≤ n) : ∀ ds : List D, ds.all (D.cmpN n) = true → D.cmps ds = true ∧ PyData.canLayAll0 (D.pys ds) = true ∧ PyData.depthAll (D.pys ds) ≤ n
  | [], _ => by simp [D.cmps, D.pys, PyData.canLayAll0, PyData.depthAll]
  | d :: r, h => by
    rw [List.all_cons, Bool.and_eq_true] at h
    obtain ⟨a1, a2, a3⟩ := ih d h.1
    obtain ⟨b1, b2, b3⟩ := cmpN_all ih r h.2
    simp only [D.cmps, D.pys, PyData.canLayAll0, PyData.depthAll, a1, a2, b1, b2, Bool.and_self, true_and]
    omega
theorem cmpN_ok : ∀ (n : Nat) (d : D), D.cmpN n d = true → d.cmp = true ∧ PyData.canLay0 d.py = true ∧ PyData.depth d.py ≤ n
  | 0, d, h => by
    cases d <;> first
      | (simp [D.cmpN] at h; done)
      | (simp only [D.cmp, D.py, PyData.canLay0, PyData.depth]; simp only [D.cmpN] at h; simp [h])
  | n + 1, d, h => by
    cases d with
    | tup ds =>
      obtain ⟨a1, a2, a3⟩ := cmpN_all (cmpN_ok n) ds h
      simp only [D.cmp, D.py, PyData.canLay0, PyData.depth, a1, a2, true_and]
      omega
    | lst ds =>
      obtain ⟨a1, a2, a3⟩ := cmpN_all (cmpN_ok n) ds h
      simp only [D.cmp, D.py, PyData.canLay0, PyData.depth, a1, a2, true_and]
      omega
    | ro ds =>
      obtain ⟨a1, a2, a3⟩ := cmpN_all (cmpN_ok n) ds h
      simp only [D.cmp, D.py, PyData.canLay0, PyData.depth, a1, a2, true_and]
      omega
    | non => simp [D.cmp, D.py, PyData.canLay0, PyData.depth]
    | bl b => simp [D.cmp, D.py, PyData.canLay0, PyData.depth]
    | int b => simp [D.cmp, D.py, PyData.canLay0, PyData.depth]
    | str x =>
      have h' : PyData.strOk x = true := h
      simp [D.cmp, D.py, PyData.canLay0, PyData.depth, h']
    | dct _ => simp [D.cmpN] at h
    | lkd _ _ => simp [D.cmpN] at h
    | st => simp [D.cmpN] at h
    | cm => simp [D.cmpN] at h
    | ptr _ => simp [D.cmpN] at h
    | ty _ => simp [D.cmpN] at h
    | dtt _ => simp [D.cmpN] at h
    | ins _ _ _ => simp [D.cmpN] at h
    | key ks =>
      obtain ⟨a2, a3⟩ := keys_lay ks (show ks.all keyCmp = true from h)
      simp only [D.cmp, D.py, PyData.canLay0, PyData.depth, a2, true_and, show ks.all keyCmp = true from h]
      omega
theorem cmpN_shaped {d : D} (h : D.cmpN 60 d = true) : d.cmp = true ∧ SeqAt.shaped d.py = true := by
  obtain ⟨a, b, c⟩ := cmpN_ok 60 d h
  refine ⟨a, ?_⟩
  unfold SeqAt.shaped
  rw [b, decide_eq_true (by omega)]
  rfl
def D.eqv (d e : D) : Bool := PyData.eqv d.py e.py
theorem eqv_self {d : D} (h : D.cmpN 60 d = true) : D.eqv d d = true := SeqAt.eqv_refl _ (cmpN_ok 60 d h).2.1
theorem vo_eqN {x y : XV} {d e : D} (hx : x.dat = some d) (hy : y.dat = some e) (h1 : D.cmpN 60 d = true) (h2 : D.cmpN 60 e = true) (q : Q (.p (.bl (D.eqv d e)))) : VO K G B (rEqD K) env x y Q := vo_eqD hx hy ⟨(cmpN_shaped h1).1, (cmpN_shaped h2).1, (cmpN_shaped h1).2, (cmpN_shaped h2).2⟩ q
theorem vo_neN {x y : XV} {d e : D} (hx : x.dat = some d) (hy : y.dat = some e) (h1 : D.cmpN 60 d = true) (h2 : D.cmpN 60 e = true) (q : Q (.p (.bl (!D.eqv d e)))) : VO K G B (rNeD K) env x y Q := vo_neD hx hy ⟨(cmpN_shaped h1).1, (cmpN_shaped h2).1, (cmpN_shaped h1).2, (cmpN_shaped h2).2⟩ q
/-- alike on both sides -/
theorem vo_eqS {x y : XV} {d : D} (hx : x.dat = some d) (hy : y.dat = some d) (h1 : D.cmpN 60 d = true) (q : Q (.p (.bl true))) : VO K G B (rEqD K) env x y Q := vo_eqN hx hy h1 h1 (by rw [eqv_self h1]; exact q)
theorem vo_neS {x y : XV} {d : D} (hx : x.dat = some d) (hy : y.dat = some d) (h1 : D.cmpN 60 d = true) (q : Q (.p (.bl false))) : VO K G B (rNeD K) env x y Q := vo_neN hx hy h1 h1 (by rw [eqv_self h1]; exact q)
theorem cmpN_ints (n : Nat) (ns : List Int) : D.cmpN (n + 1) (.lst (ns.map D.int)) = true := by
  show (ns.map D.int).all (D.cmpN n) = true
  rw [List.all_map]
  exact List.all_eq_true.mpr fun _ _ => by cases n <;> rfl
/-- rows of whole numbers -/
theorem pys_map (f : Int → D) (g : Int → PyData) (h : ∀ i, (f i).py = g i) : ∀ ns : List Int, D.pys (ns.map f) = ns.map g
  | [] => rfl
  | n :: r => by
    simp only [List.map_cons, D.pys, h, pys_map f g h r]
theorem ints_py (ns : List Int) : D.py (.lst (ns.map D.int)) = .list (ns.map PyData.int) := by
  simp only [D.py]
  rw [pys_map D.int PyData.int fun i => by simp only [D.py]]
theorem ints_cmps : ∀ ns : List Int, D.cmps (ns.map D.int) = true
  | [] => by simp only [List.map_nil, D.cmps]
  | n :: r => by simp only [List.map_cons, D.cmps, D.cmp, ints_cmps r, Bool.and_self]
theorem ints_cmp (ns : List Int) : D.cmp (.lst (ns.map D.int)) = true := by simp only [D.cmp]; exact ints_cmps ns
theorem ints_canLay : ∀ ns : List Int, PyData.canLayAll0 (ns.map PyData.int) = true
  | [] => by simp only [List.map_nil, PyData.canLayAll0]
  | n :: r => by simp only [List.map_cons, PyData.canLayAll0, PyData.canLay0, ints_canLay r, Bool.and_self]
theorem ints_eqv : ∀ ns ms : List Int, PyData.eqvAll (ns.map PyData.int) (ms.map PyData.int) = decide (ns = ms)
  | [], [] => by simp [PyData.eqvAll]
  | [], m :: ms => by simp [PyData.eqvAll]
  | n :: ns, [] => by simp [PyData.eqvAll]
  | n :: ns, m :: ms => by
    simp only [List.map_cons, PyData.eqvAll, PyData.eqv, ints_eqv ns ms]
    by_cases h : n = m
    · subst h
      simp
    · simp [h]
theorem ints_eq (ns ms : List Int) : PyData.eqv (D.py (.lst (ns.map D.int))) (D.py (.lst (ms.map D.int))) = decide (ns = ms) := by
  rw [ints_py, ints_py]
  simp only [PyData.eqv]
  exact ints_eqv ns ms

/-! ### enumerate, zip, reversed, a text sign by sign -/
def XV.seqP : XV → Option (List D)
  | .p (.lst ds) => some ds
  | .p (.ro ds) => some ds
  | _ => none
theorem seqP_at {v : V} {x : XV} {ds : List D} (h : VAt K B env σ R H v x) (e : x.seqP = some ds) : ∃ a xs, v = .ref a ∧ SqL K R a xs ∧ AtL K R xs ds := by
  cases x with
  | p d =>
    cases d with
    | lst es =>
      cases e
      cases h with
      | @lst a xs _ h1 h2 => exact ⟨a, xs, rfl, .inl (.inl h1), h2⟩
    | ro es =>
      cases e
      cases h with
      | @ro a xs _ h1 h2 => exact ⟨a, xs, rfl, h1, h2⟩
    | _ => cases e
  | o d => cases e
  | m i d => cases e
theorem vi_l {tl : TE} (h : VE K G B tl env fun x => x.fz fun x => ∃ ds, x.seqP = some ds ∧ Ql ds) : VI K G B (iList K tl) env Ql := vi_list fun σ R H r Qh k => h σ R H r Qh fun v R' H' x r' s' hv q => k v R' H' x r' s' hv (by
  have f : ∀ x : XV, (∃ ds, x.seqP = some ds ∧ Ql ds) → ∃ ds, (x = .p (.lst ds) ∨ x = .p (.ro ds)) ∧ Ql ds := fun x ⟨ds, e, q⟩ => by
    cases x with
    | p d =>
      cases d with
      | lst es => cases e; exact ⟨_, .inl rfl, q⟩
      | ro es => cases e; exact ⟨_, .inr rfl, q⟩
      | _ => cases e
    | o d => cases e
    | m i d => cases e
  cases x with
  | p d => exact f _ q
  | o d => exact f _ q
  | m i d => exact f _ q)
def enumD (ds : List D) : List D := (List.range ds.length).map fun i => D.tup [.int (i : Nat), ds.getD i .non]
theorem enumD_get {ds : List D} {i : Nat} {d : D} (h : (enumD ds)[i]? = some d) : ∃ e, ds[i]? = some e ∧ d = .tup [.int (i : Nat), e] := by
  unfold enumD at h
  rw [List.getElem?_map] at h
  by_cases hi : i < ds.length
  · rw [List.getElem?_range hi] at h
    cases h
    exact ⟨ds[i], List.getElem?_eq_getElem hi, by show D.tup [.int (i : Nat), ds.getD i .non] = _; rw [List.getD_eq_getElem?_getD, List.getElem?_eq_getElem hi]; rfl⟩
  · rw [List.getElem?_eq_none_iff.mpr (by rw [List.length_range]; omega)] at h
    cases h
theorem enumD_len (ds : List D) : (enumD ds).length = ds.length := by
  unfold enumD
  rw [List.length_map, List.length_range]
theorem wk_enum {a : Addr} {xs : List V} {ds : List D} (hl : SqL K R a xs) (ha : AtL K R xs ds) : Wk K G B R (Ite K a) (enumD ds) where
  go := fun B e σ R' H' r s i d hi => by
    obtain ⟨d1, h1, rfl⟩ := enumD_get hi
    obtain ⟨v, hv, hd⟩ := ha.get h1
    have hL := r.sub.l (same_l s hl)
    refine ⟨⟨xs, v, hL, hv⟩, ?_⟩
    rintro w H2 ⟨T, x, rfl, hT, rfl, hx⟩
    have e := hx xs hL
    rw [hv] at e
    cases e
    have hn := r.sub.none hT
    exact ⟨_, r.newP hT (rfl), same_take hn, .tup (.inl (.inl upd_same)) (.cons (.int _) (.cons ((hd.same s).same (same_take hn)) .nil))⟩
  stop := fun B e σ R' H' r s => ⟨xs, r.sub.l (same_l s hl), by rw [enumD_len, ha.len]; exact Nat.le_refl _⟩
theorem vi_enum {ta : TA} (h : VA K G B ta env fun xs => ∃ x ds, xs = [x] ∧ x.seqP = some ds ∧ Ql (enumD ds)) : VI K G B (iEnum K ta) env Ql := fun σ R H r Qh k =>
  h σ R H r _ fun vs R1 H1 xs r1 s1 hv _ ⟨x, ds, e, hx, q⟩ => by
    subst e
    match vs, hv with
    | [v], hv =>
      obtain ⟨a, ys, rfl, h1, h2⟩ := seqP_at hv.1 hx
      exact ⟨a, ys, rfl, r1.sub.l h1, k _ R1 H1 _ r1 s1 (wk_enum h1 h2) q⟩
def zipD (ds es : List D) : List D := (ds.zip es).map fun p => .tup [p.1, p.2]
theorem zipD_get {ds es : List D} {i : Nat} {d : D} (h : (zipD ds es)[i]? = some d) : ∃ a b, ds[i]? = some a ∧ es[i]? = some b ∧ d = .tup [a, b] := by
  unfold zipD at h
  rw [List.getElem?_map] at h
  cases e : (ds.zip es)[i]? with
  | none =>
    rw [e] at h
    cases h
  | some p =>
    rw [e] at h
    cases h
    obtain ⟨h1, h2⟩ := List.getElem?_zip_eq_some.mp e
    exact ⟨_, _, h1, h2, rfl⟩
theorem zipD_len (ds es : List D) : (zipD ds es).length = min ds.length es.length := by
  unfold zipD
  rw [List.length_map, List.length_zip]
theorem wk_zip {a b : Addr} {xs ys : List V} {ds es : List D} (hl : SqL K R a xs) (ha : AtL K R xs ds) (hl' : SqL K R b ys) (ha' : AtL K R ys es) : Wk K G B R (Itz K a b) (zipD ds es) where
  go := fun B e σ R' H' r s i d hi => by
    obtain ⟨d1, d2, h1, h2, rfl⟩ := zipD_get hi
    obtain ⟨v, hv, hd⟩ := ha.get h1
    obtain ⟨w, hw, he⟩ := ha'.get h2
    have hL := r.sub.l (same_l s hl)
    have hL' := r.sub.l (same_l s hl')
    refine ⟨⟨xs, ys, v, w, hL, hL', hv, hw⟩, ?_⟩
    rintro u H2 ⟨T, x, y, rfl, hT, rfl, hx, hy⟩
    have e := hx xs hL
    rw [hv] at e
    cases e
    have e := hy ys hL'
    rw [hw] at e
    cases e
    have hn := r.sub.none hT
    exact ⟨_, r.newP hT (rfl), same_take hn, .tup (.inl (.inl upd_same)) (.cons ((hd.same s).same (same_take hn)) (.cons ((he.same s).same (same_take hn)) .nil))⟩
  stop := fun B e σ R' H' r s => ⟨xs, ys, r.sub.l (same_l s hl), r.sub.l (same_l s hl'), by rw [zipD_len, ha.len, ha'.len]; omega⟩
theorem vi_zip {ta : TA} (h : VA K G B ta env fun xs => ∃ x y ds es, xs = [x, y] ∧ x.seqP = some ds ∧ y.seqP = some es ∧ Ql (zipD ds es)) : VI K G B (iZip K ta) env Ql := fun σ R H r Qh k =>
  h σ R H r _ fun vs R1 H1 xs r1 s1 hv _ ⟨x, y, ds, es, e, hx, hy, q⟩ => by
    subst e
    match vs, hv with
    | [v, w], hv =>
      obtain ⟨a, ys, rfl, h1, h2⟩ := seqP_at hv.1 hx
      obtain ⟨b, zs, rfl, g1, g2⟩ := seqP_at hv.2.1 hy
      exact ⟨a, b, ys, zs, rfl, r1.sub.l h1, r1.sub.l g1, k _ R1 H1 _ r1 s1 (wk_zip h1 h2 g1 g2) q⟩
def signsD (z : Str) : List D := z.cps.toList.map fun c => .str ⟨#[c]⟩
theorem wk_str {z : Str} : Wk K G B R (Its z) (signsD z) where
  go := fun B e σ R' H' r s i d hi => by
    unfold signsD at hi
    rw [List.getElem?_map] at hi
    cases q : z.cps.toList[i]? with
    | none =>
      rw [q] at hi
      cases hi
    | some c =>
      rw [q] at hi
      cases hi
      have q' : z.cps[i]? = some c := by rw [← Array.getElem?_toList]; exact q
      refine ⟨(Array.getElem?_eq_some_iff.mp q').1, ?_⟩
      rintro w H2 ⟨rfl, c', hc, rfl⟩
      rw [q'] at hc
      cases hc
      exact ⟨R', r, Same.refl _, .str _⟩
  stop := fun B e σ R' H' r s => by
    show z.cps.size ≤ (signsD z).length
    unfold signsD
    rw [List.length_map, Array.length_toList]
    exact Nat.le_refl _
theorem vi_str {te : TE} (h : VE K G B te env fun x => ∃ z, x = .p (.str z) ∧ Ql (signsD z)) : VI K G B (iStr te) env Ql := fun σ R H r Qh k =>
  h σ R H r _ fun v R1 H1 x r1 s1 hv ⟨z, e, q⟩ => by
    subst e
    exact ⟨z, str_at hv, k _ R1 H1 _ r1 s1 wk_str q⟩
theorem wk_rev {a : Addr} {xs : List V} {ds : List D} (hl : SqL K R a xs) (ha : AtL K R xs ds) : Wk K G B R (Itv K a xs.length) ds.reverse where
  go := fun B e σ R' H' r s i d hi => by
    have hlt : i < ds.reverse.length := (List.getElem?_eq_some_iff.mp hi).1
    rw [List.length_reverse] at hlt
    rw [List.getElem?_reverse hlt] at hi
    obtain ⟨v, hv, hd⟩ := ha.get hi
    have hL := r.sub.l (same_l s hl)
    have hv' : xs[xs.length - 1 - i]? = some v := by rw [ha.len]; exact hv
    refine ⟨⟨by rw [ha.len]; exact hlt, xs, v, hL, hv'⟩, ?_⟩
    rintro w H2 ⟨rfl, hx⟩
    have e := hx xs hL
    rw [hv'] at e
    cases e
    exact ⟨R', r, Same.refl _, hd.same s⟩
  stop := fun B e σ R' H' r s => by
    show xs.length ≤ ds.reverse.length
    rw [List.length_reverse, ha.len]
    exact Nat.le_refl _
theorem vi_rev {ta : TA} (h : VA K G B ta env fun xs => ∃ x ds, xs = [x] ∧ x.seqP = some ds ∧ Ql ds.reverse) : VI K G B (iRev K ta) env Ql := fun σ R H r Qh k =>
  h σ R H r _ fun vs R1 H1 xs r1 s1 hv _ ⟨x, ds, e, hx, q⟩ => by
    subst e
    match vs, hv with
    | [v], hv =>
      obtain ⟨a, ys, rfl, h1, h2⟩ := seqP_at hv.1 hx
      exact ⟨a, ys, rfl, r1.sub.l h1, k _ R1 H1 _ r1 s1 (wk_rev h1 h2) q⟩

/-! ### dicts -/
def valD (kds : List (Key × D)) (k : Key) : Option D := (kds.find? fun kv => decide (kv.1 = k)).map (·.2)
def putD (kds : List (Key × D)) (k : Key) (v : D) : List (Key × D) :=
  if (kds.any fun kv => decide (kv.1 = k)) = true then kds.map (fun kv => if kv.1 = k then (kv.1, v) else kv) else kds ++ [(k, v)]
def keyD : Key → D
  | .inl i => .int i
  | .inr x => .str x
theorem key_at {v : V} {k : Key} (h : At K R v (keyD k)) : v = kV k := by
  cases k with
  | inl i =>
    have h' : At K R v (.int i) := h
    cases h'
    rfl
  | inr x =>
    have h' : At K R v (.str x) := h
    cases h'
    rfl
theorem AtD.val : ∀ {vs : List (Key × V)} {ds : List (Key × D)} {k : Key}, AtD K R vs ds → (∀ d, valD ds k = some d → ∃ v, valV vs k = some v ∧ At K R v d) ∧ (valD ds k = none → valV vs k = none)
  | _, _, _, .nil => ⟨fun d h => (by cases h), fun _ => rfl⟩
  | _, _, k, .cons (k := j) (v := v) (d := d) (vs := vs) (ds := ds) h t => by
    have ih := AtD.val (k := k) t
    by_cases e : j = k
    · have e1 : valD ((j, d) :: ds) k = some d := by simp [valD, List.find?_cons, e]
      have e2 : valV ((j, v) :: vs) k = some v := by simp [valV, List.find?_cons, e]
      rw [e1, e2]
      exact ⟨fun d' h' => (by cases h'; exact ⟨v, rfl, h⟩), fun h' => (by cases h')⟩
    · have e1 : valD ((j, d) :: ds) k = valD ds k := by simp [valD, List.find?_cons, e]
      have e2 : valV ((j, v) :: vs) k = valV vs k := by simp [valV, List.find?_cons, e]
      rw [e1, e2]
      exact ih
theorem AtD.any : ∀ {vs : List (Key × V)} {ds : List (Key × D)} {k : Key}, AtD K R vs ds → (vs.any fun kv => decide (kv.1 = k)) = (ds.any fun kv => decide (kv.1 = k))
  | _, _, _, .nil => rfl
  | _, _, k, .cons h t => by rw [List.any_cons, List.any_cons, AtD.any t]
theorem AtD.app : ∀ {vs ws : List (Key × V)} {ds es : List (Key × D)}, AtD K R vs ds → AtD K R ws es → AtD K R (vs ++ ws) (ds ++ es)
  | _, _, _, _, .nil, s => s
  | _, _, _, _, .cons h t, s => .cons h (AtD.app t s)
theorem AtD.mapput {k : Key} {v : V} {d : D} (h : At K R v d) : ∀ {vs : List (Key × V)} {ds : List (Key × D)}, AtD K R vs ds → AtD K R (vs.map fun kv => if kv.1 = k then (kv.1, v) else kv) (ds.map fun kv => if kv.1 = k then (kv.1, d) else kv)
  | _, _, .nil => .nil
  | _, _, .cons (k := j) h' t => by
    rw [List.map_cons, List.map_cons]
    by_cases e : j = k
    · simp only [if_pos e]
      exact .cons h (AtD.mapput h t)
    · simp only [if_neg e]
      exact .cons h' (AtD.mapput h t)
theorem AtD.put {k : Key} {v : V} {d : D} (h : At K R v d) {vs : List (Key × V)} {ds : List (Key × D)} (t : AtD K R vs ds) : AtD K R (putK vs k v) (putD ds k d) := by
  unfold putK putD
  rw [t.any]
  split
  · exact AtD.mapput h t
  · exact t.app (.cons h .nil)
theorem AtD.len : ∀ {vs : List (Key × V)} {ds : List (Key × D)}, AtD K R vs ds → vs.length = ds.length
  | _, _, .nil => rfl
  | _, _, .cons _ t => congrArg (· + 1) (AtD.len t)
/-- a dict is read: plain, or a slot's -/
def XV.dctD : XV → Option (List (Key × D))
  | .p (.dct ds) => some ds
  | .p (.lkd _ ds) => some ds
  | .m _ (.dct ds) => some ds
  | _ => none
theorem dctD_at (r : Rep K G B env σ R H) {v : V} {x : XV} {ds : List (Key × D)} (h : VAt K B env σ R H v x) (e : x.dctD = some ds) : ∃ a xs, v = .ref a ∧ Rd H a (.dK xs) ∧ AtD K R xs ds := by
  cases x with
  | p d =>
    cases d with
    | dct es =>
      cases e
      cases h with
      | @dct a xs _ h1 h2 => exact ⟨a, xs, rfl, .inl (r.sub.of h1 (rfl)), h2⟩
    | lkd b es =>
      cases e
      cases h with
      | @lkd a o xs _ h1 h2 => exact ⟨_, xs, rfl, .inr ⟨o, r.sub.of h1 (rfl)⟩, h2⟩
    | _ => cases e
  | o d => cases e
  | m i d =>
    cases d with
    | dct es =>
      cases e
      obtain ⟨h1, h2⟩ := h
      obtain ⟨a, y, g1, g2, g3, g4, g5⟩ := r.slots i _ h1
      rw [g1] at h2
      cases h2
      cases y with
      | dK xs => exact ⟨a, xs, rfl, .inl g4, g5⟩
      | _ => exact g5.elim
    | _ => cases e
theorem ve_dget {td ty : TE} (h : VE K G B td env fun x => x.fz fun x => VE K G B ty env fun y => y.fz fun y => ∃ ds k d, x.dctD = some ds ∧ y = .p (keyD k) ∧ valD ds k = some d ∧ Q (.p d)) : VE K G B (tDGet td ty) env Q := fun σ R H r Qh k =>
  h σ R H r _ fun v R1 H1 x r1 s1 hv q => by
    obtain ⟨R2, x', r2, s2, hv2, ho, q2⟩ := hv.fz r1 q
    refine q2 σ R2 H1 r2 _ fun w R3 H3 y r3 s3 hw q3 => ?_
    obtain ⟨R4, y', r4, s4, hw4, ho4, ds, k', d, hx, rfl, hd, q4⟩ := hw.fz r3 q3
    obtain ⟨a, xs, rfl, h1, h2⟩ := dctD_at r4 (hv2.go ho (s3.trans s4)) hx
    obtain ⟨z, hz, hzd⟩ := (h2.val (k := k')).1 d hd
    exact ⟨a, z, rfl, .inl ⟨xs, k', h1, key_at hw4, hz.symm⟩, k z R4 H3 (.p d) r4 (((s1.trans s2).trans s3).trans s4) hzd q4⟩
theorem ve_din {ty td : TE} (h : VE K G B ty env fun y => y.fz fun y => VE K G B td env fun x => x.fz fun x => ∃ ds k, x.dctD = some ds ∧ y = .p (keyD k) ∧ Q (.p (.bl (valD ds k).isSome))) : VE K G B (tDIn ty td) env Q := fun σ R H r Qh k =>
  h σ R H r _ fun v R1 H1 x r1 s1 hv q => by
    obtain ⟨R2, x', r2, s2, hv2, ho, q2⟩ := hv.fz r1 q
    refine q2 σ R2 H1 r2 _ fun w R3 H3 y r3 s3 hw q3 => ?_
    obtain ⟨R4, y', r4, s4, hw4, ho4, ds, k', hx, rfl, q4⟩ := hw.fz r3 q3
    obtain ⟨a, xs, rfl, h1, h2⟩ := dctD_at r4 hw4 hx
    have e : (valV xs k').isSome = (valD ds k').isSome := by
      cases q : valD ds k' with
      | none =>
        rw [(h2.val (k := k')).2 q]
        rfl
      | some d =>
        obtain ⟨z, hz, _⟩ := (h2.val (k := k')).1 d q
        rw [hz]
        rfl
    exact ⟨a, _, rfl, .inl ⟨xs, k', h1, key_at (R := R4) (VAt.go (H' := H3) hv2 ho (s3.trans s4)), rfl⟩, by rw [e]; exact k _ R4 H3 (.p (.bl _)) r4 (((s1.trans s2).trans s3).trans s4) (.bl _) q4⟩
theorem ve_dnotin {ty td : TE} (h : VE K G B ty env fun y => y.fz fun y => VE K G B td env fun x => x.fz fun x => ∃ ds k, x.dctD = some ds ∧ y = .p (keyD k) ∧ Q (.p (.bl (!(valD ds k).isSome)))) : VE K G B (tDNotIn ty td) env Q := fun σ R H r Qh k =>
  h σ R H r _ fun v R1 H1 x r1 s1 hv q => by
    obtain ⟨R2, x', r2, s2, hv2, ho, q2⟩ := hv.fz r1 q
    refine q2 σ R2 H1 r2 _ fun w R3 H3 y r3 s3 hw q3 => ?_
    obtain ⟨R4, y', r4, s4, hw4, ho4, ds, k', hx, rfl, q4⟩ := hw.fz r3 q3
    obtain ⟨a, xs, rfl, h1, h2⟩ := dctD_at r4 hw4 hx
    have e : (valV xs k').isSome = (valD ds k').isSome := by
      cases q : valD ds k' with
      | none =>
        rw [(h2.val (k := k')).2 q]
        rfl
      | some d =>
        obtain ⟨z, hz, _⟩ := (h2.val (k := k')).1 d q
        rw [hz]
        rfl
    exact ⟨a, _, rfl, .inl ⟨xs, k', h1, key_at (R := R4) (VAt.go (H' := H3) hv2 ho (s3.trans s4)), rfl⟩, by rw [e]; exact k _ R4 H3 (.p (.bl _)) r4 (((s1.trans s2).trans s3).trans s4) (.bl _) q4⟩
/-- d[k] = v, d the dict of a slot -/
theorem vs_dput {i : Nat} {ty tv : TE} {ds : List (Key × D)} (hd : env[i]? = some (.mu (.dct ds))) (h : VE K G B tv env fun x => x.fz fun x => ∃ d, x = .p d ∧ VE K G B ty env fun y => ∃ k, y = .p (keyD k) ∧ ds.length < 100000 ∧ nx (env.set i (.mu (.dct (putD ds k d))))) :
    VS K G B (sDPut (tVar i) ty tv) env nx rt bk ct := fun σ R H r Z kn _ _ _ =>
  h σ R H r _ fun v R1 H1 x r1 s1 hv q => by
    obtain ⟨R2, x', r2, s2, hv2, ho, d, rfl, q2⟩ := hv.fz r1 q
    obtain ⟨a, y, h1, _⟩ := r2.slots i _ hd
    refine ⟨.ref a, h1, q2 σ R2 H1 r2 _ fun w R3 H3 y' r3 s3 hw ⟨k', e, hl, q3⟩ => ?_⟩
    subst e
    obtain ⟨b, y, g1, g2, g3, g4, g5⟩ := r3.slots i _ hd
    rw [h1] at g1
    cases g1
    obtain ⟨ys, rfl⟩ : ∃ xs, y = .dK xs := by cases y <;> first | exact ⟨_, rfl⟩ | exact g5.elim
    have g6 : AtD K R3 ys ds := g5
    refine ⟨a, _, rfl, .inl ⟨ys, k', g4, key_at hw, by rw [g6.len]; exact Nat.lt_of_lt_of_le hl (by decide), rfl⟩, ?_⟩
    exact kn _ σ R3 _ (r3.mut hd h1 (y := .dK (putK ys k' v)) (d' := .dct (putD ds k' d)) (g6.put (At.same s3 hv2))) ((s1.trans s2).trans s3) q3
/-- d[k] op= v -/
theorem vs_daug {i : Nat} {ty tv : TE} {rd : V → V → Hp → VK → Prop} {ds : List (Key × D)} (hd : env[i]? = some (.mu (.dct ds))) (h : VE K G B ty env fun y => ∃ k d, y = .p (keyD k) ∧ valD ds k = some d ∧ ds.length < 100000 ∧
      VE K G B tv env fun x => x.fz fun x => VO K G B rd env (.p d) x fun z => ∃ e, z = .p e ∧ nx (env.set i (.mu (.dct (putD ds k e))))) :
    VS K G B (sDAug (tVar i) ty tv rd) env nx rt bk ct := fun σ R H r Z kn _ _ _ => by
  obtain ⟨a, y, h1, _⟩ := r.slots i _ hd
  refine ⟨.ref a, h1, h σ R H r _ fun w R1 H1 x r1 s1 hw ⟨k', d, e, hk, hl, q⟩ => ?_⟩
  subst e
  obtain ⟨b, y, g1, g2, g3, g4, g5⟩ := r1.slots i _ hd
  rw [h1] at g1
  cases g1
  obtain ⟨ys, rfl⟩ : ∃ xs, y = .dK xs := by cases y <;> first | exact ⟨_, rfl⟩ | exact g5.elim
  have g6 : AtD K R1 ys ds := g5
  obtain ⟨z, hz, hzd⟩ := (g6.val (k := k')).1 d hk
  refine ⟨a, z, rfl, .inl ⟨ys, k', .inl g4, key_at hw, hz.symm⟩, q σ R1 H1 r1 _ fun v R2 H2 x r2 s2 hv q2 => ?_⟩
  obtain ⟨R3, x', r3, s3, hv3, ho, q3⟩ := hv.fz r2 q2
  refine q3 σ R3 H2 r3 z v (hzd.same (s2.trans s3)) hv3 _ fun u R4 H4 x4 r4 s4 hu ⟨e, he, q4⟩ => ?_
  subst he
  obtain ⟨b, y, f1, f2, f3, f4, f5⟩ := r4.slots i _ hd
  rw [h1] at f1
  cases f1
  obtain ⟨zs, rfl⟩ : ∃ xs, y = .dK xs := by cases y <;> first | exact ⟨_, rfl⟩ | exact f5.elim
  have f6 : AtD K R4 zs ds := f5
  refine ⟨_, .inl ⟨zs, k', f4, key_at hw, by rw [f6.len]; exact Nat.lt_of_lt_of_le hl (by decide), rfl⟩, ?_⟩
  exact kn _ σ R4 _ (r4.mut hd h1 (y := .dK (putK zs k' u)) (d' := .dct (putD ds k' e)) (f6.put hu)) (((s1.trans s2).trans s3).trans s4) q4

/-! ### a list that is drawn from -/
theorem vs_toSt (i : Nat) {t : TS} {ns : List Int} (hd : env[i]? = some (.mu (.lst (ns.map D.int)))) (g : G.good ns) (h : VS K G B t (env.set i (.p .st)) nx rt bk ct) : VS K G B t env nx rt bk ct := fun σ R H r Z kn kr kb kc => by
  obtain ⟨a, y, h1, h2, h3, h4, h5⟩ := r.slots i _ hd
  obtain ⟨xs, rfl⟩ : ∃ xs, y = .lst xs := by cases y <;> first | exact ⟨_, rfl⟩ | exact h5.elim
  have ex : xs = ns.map V.int := AtL.ints_inv h5
  subst ex
  obtain ⟨r3, st⟩ := r.putS (o := .ext fun _ => False) (d' := .st) hd h1 ⟨ns, h4, g⟩ (.st upd_same)
  exact h σ _ H r3 Z (fun e σ' R2 H2 r2 s2 => kn e σ' R2 H2 r2 (st.trans s2)) (fun v e σ' R2 H2 x r2 s2 => kr v e σ' R2 H2 x r2 (st.trans s2)) (fun e σ' R2 H2 r2 s2 => kb e σ' R2 H2 r2 (st.trans s2)) (fun e σ' R2 H2 r2 s2 => kc e σ' R2 H2 r2 (st.trans s2))
/-- the promise of a def that draws from the list handed in first -/
theorem st_at {v : V} (h : At K R v .st) : ∃ a φ, v = .ref a ∧ R a = some (.ext φ) := by
  cases h with
  | @st a φ h => exact ⟨a, φ, rfl, h⟩
/-- the list that is drawn from has changed -/
theorem step_st (s : Sub K G R H) {a : Addr} {φ : Heap → Prop} (ha : R a = some (.ext φ)) {ns : List Int} (g : G.good ns) : Step K G R H R (upd H a (.lst (ns.map V.int))) where
  same := Same.refl R
  sub := fun b x e => by
    by_cases hb : b = a
    · subst hb
      rw [ha] at e
      cases e
      exact ⟨ns, upd_same, g⟩
    · obtain ⟨ms, q, _⟩ := s a _ ha
      exact subAt_go (s b x e) (upd_ne hb) (hard_own q rfl)
  kept := fun b y e n => by
    rw [upd_ne]
    · exact e
    · rintro rfl
      cases n _ ha
  out := fun _ _ _ _ n => n
end
/-- += on an item of a list -/
theorem get_list {X : Cx} : PGet X (rIxL X.K) := by
  intro pins s σ H x y v u Q I rx ry h
  obtain ⟨p, xs, i, z, rfl, rfl, hq, he, q⟩ := h
  cases rx
  obtain ⟨t, rfl⟩ := ry
  obtain ⟨its, r, pl, hz⟩ := I.list hq
  obtain ⟨j, h1, h2, h3, h4, h5⟩ := atI_get he
  obtain ⟨w, ew, rw'⟩ := r.get h2
  have hl := r.length
  have hn := line63
  have fin : EP X pins σ Q w s := ⟨z, H, I, rw', q⟩
  by_cases h0 : 0 ≤ i
  · have hj : i.toNat = j := by
      rw [seqIndex_of h0 h5] at h1
      exact Option.some.inj h1
    exact wpAny_getItem_list pl.isList h0 (by omega) (by rw [hj]; simpa using ew) fin
  · have hj : (i + (its.toArray.size : Int)).toNat = j := by
      rw [seqIndex_neg (by omega) h4] at h1
      rw [List.size_toArray, ← hl]
      exact Option.some.inj h1
    exact wpAny_getItem_list_neg pl.isList (by omega) (by rw [List.size_toArray] <;> omega) (by omega) (by rw [hj]; simpa using ew) fin
/-! ### a law's text -/
/-- a def that lets nothing out, as it stands behind the top -/
structure Cal (P : Program) (w : World) (K : PySem.W.Frag) (mg : Str → Option Value) (base : Heap) (k : Nat) (x : Str) (sp : Sp) (dvs : List V) : Prop where
  ex : ∃ (f : Addr) (fd : FuncData) (ps : List Str) (ds : List Value), FnOk P w K mg base CX0 k f fd ps sp ∧ mg x = some (.ref f) ∧ PySem.W.keepIn K (.ref f) = true ∧ Binds K fd ps ds ∧ Vals dvs ds
theorem pe_c {X : Cx} {k j : Nat} {x : Str} {p pos : Pos} {e : Expr} {es : List Expr} {sp : Sp} {dvs : List V} {t : TA} (c : Cal X.prog X.w X.K X.mg X.base k x sp dvs) (hr : Room j X.A) (hk : k ≤ j) (hg : Gl X x) (ha : PA X (e :: es) t)
    (hdb : (x == ("__debug__" : Str)) = false := by decide) (he : starEach (e :: es) X.env = (false, eval e X.env) :: starEach es X.env := by rfl) (hpl : (backTo pos (starEach es X.env)).any (·.1) = false := by rfl) :
    PE X (.Call (.Name x p) (e :: es) [] pos) (tCall sp dvs E0 t) := by
  obtain ⟨f, fd, ps, ds, F, hm, kp, b, d⟩ := c.ex
  exact pe_call F (hr.mono hk) hg hm kp b d pass0 ha hdb he hpl
structure Dfn (K : PySem.W.Frag) (mg : Str → Option Value) (x : Str) (st : Stmt) (ps : List Str) : Prop where
  ex : ∃ f fd, Fun K x x st f fd ∧ mg x = some (.ref f) ∧ Binds K fd ps []
/-- a script is handed in, True comes back -/
def spLaw (K : PySem.W.Frag) (G : Gs) : Sp := fun vs H Q _ => ∃ (a : Addr) (ns : List Int), vs = [.ref a] ∧ SqL K H a (ns.map V.int) ∧ ns.length ≤ 63 ∧ (∀ P, G.tab = some P → H P = some (.tbl #[])) ∧ ∀ H', Q (.bl true) H'
theorem law_of {G : Gs} {P : Program} {w : World} {K : PySem.W.Frag} {mg : Str → Option Value} {base : Heap} {CX : CXT} {k : Nat} {f : Addr} {fd : FuncData} {ps : List Str}
    (F : FnOk P w K mg base CX k f fd ps (SpA K G false (fun ns : List Int => [.ro (ns.map D.int)]) (fun ns => ns.length ≤ 63) (fun _ d => d = .bl true) noRs)) : FnOk P w K mg base CX k f fd ps (spLaw K G) :=
  F.imp fun vs H Q E ⟨a, ns, e, hS, hl, hT, q⟩ => by
    subst e
    -- the table alone
    have key0 : ∃ R0 : Hp, Sub K G R0 H ∧ TabIn G R0 ∧ ∀ b, (∃ xs, H b = some (.lst xs)) ∨ (∃ o xs, H b = some (.frz o (.lst xs))) → R0 b = none := by
      cases ht : G.tab with
      | none =>
        refine ⟨fun _ => none, fun b x e => (by cases e), fun P e => ?_, fun _ _ => rfl⟩
        rw [ht] at e
        cases e
      | some P =>
        refine ⟨fun b => if b = P then some (.tbl #[]) else none, fun b x e => ?_, fun P' e => ?_, fun b hb => ?_⟩
        · by_cases hb : b = P
          · subst hb
            have e' : (if b = b then some (HO.tbl #[]) else none) = some x := e
            rw [if_pos rfl] at e'
            cases e'
            exact LamX.TabS.nil (hT b ht)
          · have e' : (if b = P then some (HO.tbl #[]) else none) = some x := e
            rw [if_neg hb] at e'
            cases e'
        · rw [ht] at e
          cases e
          exact ⟨#[], if_pos rfl⟩
        · refine if_neg fun z => ?_
          rw [z, hT P ht] at hb
          rcases hb with ⟨xs, w⟩ | ⟨o, xs, w⟩ <;> cases w
    obtain ⟨R0, s0, t0, n0⟩ := key0
    have key : ∃ R : Hp, Sub K G R H ∧ TabIn G R ∧ SqL K R a (ns.map V.int) := by
      rcases hS with (h | ⟨o, h⟩) | h
      · have hn := n0 a (.inl ⟨_, h⟩)
        exact ⟨upd R0 a (.lst (ns.map V.int)), sub_put s0 (subAt_of h rfl), t0.go (same_take hn), .inl (.inl upd_same)⟩
      · have hn := n0 a (.inr ⟨_, _, h⟩)
        exact ⟨upd R0 a (.frz o (.lst (ns.map V.int))), sub_put s0 (subAt_of h rfl), t0.go (same_take hn), .inl (.inr ⟨o, upd_same⟩)⟩
      · exact ⟨R0, s0, t0, .inr h⟩
    obtain ⟨R, s, t, hs⟩ := key
    refine ⟨R, ns, ⟨s, t⟩, .cons (.ro hs (AtL.ints ns)) .nil, hl, fun v R' H' d _ ha _ hd => ?_, fun _ _ _ _ h => h.elim⟩
    subst hd
    cases ha
    exact q H'
end VL

namespace VL
open PySem PySem.Spec PyProof.Rows L2
/-! ### zip of three lists -/
def Itz3 (K : PySem.W.Frag) (a b c : Addr) : It :=
  ⟨fun i H => ∃ (xs ys zs : List V) (x y z : V), SqL K H a xs ∧ SqL K H b ys ∧ SqL K H c zs ∧ xs[i]? = some x ∧ ys[i]? = some y ∧ zs[i]? = some z,
    fun i H v H' => ∃ T x y z, v = .ref T ∧ H T = none ∧ H' = upd H T (.tup [x, y, z]) ∧ (∀ xs, SqL K H a xs → xs[i]? = some x) ∧ (∀ ys, SqL K H b ys → ys[i]? = some y) ∧ ∀ zs, SqL K H c zs → zs[i]? = some z,
    fun i H => ∃ xs ys zs : List V, SqL K H a xs ∧ SqL K H b ys ∧ SqL K H c zs ∧ i = min (min xs.length ys.length) zs.length⟩
theorem sub5 {z TI TO i1 i2 i3 d : Addr} (h : d ∈ [z, TO, i1, i2, i3]) : d ∈ [z, TI, TO, i1, i2, i3] := by
  simp only [List.mem_cons, List.not_mem_nil, or_false] at h ⊢
  rcases h with h | h | h | h | h <;> simp [h]
theorem turn_zip3 {P : Program} {w : World} {K : PySem.W.Frag} {elts : List Expr} {kk : Nat} {tpos : Pos} {a b c z TI TO i1 i2 i3 : Addr} (S : ZipSep3 z TI TO i1 i2 i3 [i1, a] [i2, b] [i3, c]) (na : a ≠ i1) (nb : b ≠ i2) (nc : c ≠ i3) :
    Turn P w K (.Tuple elts kk tpos) (Itz3 K a b c) [z, TI, TO, i1, i2, i3] z (fun i h => IsZip h z TI TO .none ∧ IsTupOf3 h TI (.ref i1) (.ref i2) (.ref i3) ∧ (∃ x y u, IsTupOf3 h TO x y u) ∧ h.IsListIter i1 a i ∧ h.IsListIter i2 b i ∧ h.IsListIter i3 c i) where
  mem := by simp
  obj := fun i h st d hd => by
    obtain ⟨hz, hTI, ⟨x, y, u, hTO⟩, ⟨o1, e1, _, d1⟩, ⟨o2, e2, _, d2⟩, ⟨o3, e3, _, d3⟩⟩ := st
    have e' : d = z ∨ d = TI ∨ d = TO ∨ d = i1 ∨ d = i2 ∨ d = i3 := by simpa using hd
    rcases e' with q | q | q | q | q | q
    · rw [q]; exact ⟨_, hz, fun v q => nomatch q⟩
    · rw [q]; exact ⟨_, hTI, fun v q => nomatch q⟩
    · rw [q]; exact ⟨_, hTO, fun v q => nomatch q⟩
    · rw [q]; exact ⟨o1, e1, fun v q => by rw [d1] at q; cases q⟩
    · rw [q]; exact ⟨o2, e2, fun v q => by rw [d2] at q; cases q⟩
    · rw [q]; exact ⟨o3, e3, fun v q => by rw [d3] at q; cases q⟩
  keep := fun i h h' st k => by
    obtain ⟨hz, hTI, ⟨x, y, u, hTO⟩, h1, h2, h3⟩ := st
    exact ⟨k z (by simp) _ hz, k TI (by simp) _ hTI, ⟨x, y, u, k TO (by simp) _ hTO⟩, h1.at fun o q => k i1 (by simp) o q, h2.at fun o q => k i2 (by simp) o q, h3.at fun o q => k i3 (by simp) o q⟩
  item := by
    intro X hP hw hK hc i pins s σ H E I hf st hg
    subst hP hw hK
    obtain ⟨hz, hTI, hTO, h1, h2, h3⟩ := st
    obtain ⟨xs, ys, zs, x, y, u, hqx, hqy, hqz, hx, hy, hu⟩ := hg
    obtain ⟨its, rv, p, _⟩ := I.list hqx
    obtain ⟨its2, rv2, p2, _⟩ := I.list hqy
    obtain ⟨its3, rv3, p3, _⟩ := I.list hqz
    have hh := I.ok.hd hc
    have G := GoesN.zip3 (prog := X.prog) (w := X.w) (A := X.A) (elts := elts) (x1 := kk) (pos := tpos) S (Draws.list (A := X.A.in1) hh i1 a na its.toArray) (Draws.list (A := X.A.in1) hh i2 b nb its2.toArray) (Draws.list (A := X.A.in1) hh i3 c nc its3.toArray)
    have l1 := rv.length
    have l2 := rv2.length
    have l3 := rv3.length
    have b1 := (List.getElem?_eq_some_iff.mp hx).1
    have b2 := (List.getElem?_eq_some_iff.mp hy).1
    have b3 := (List.getElem?_eq_some_iff.mp hu).1
    refine G.goes i s (fun v s2 => ∃ x H', Inv X pins σ H' s2 ∧ RelV x v ∧ (Itz3 X.K a b c).yld i H x H' ∧ (IsZip s2.heap z TI TO .none ∧ IsTupOf3 s2.heap TI (.ref i1) (.ref i2) (.ref i3) ∧ (∃ x y u, IsTupOf3 s2.heap TO x y u) ∧ s2.heap.IsListIter i1 a (i + 1) ∧ s2.heap.IsListIter i2 b (i + 1) ∧ s2.heap.IsListIter i3 c (i + 1)) ∧ ∀ b ∈ [z, TI, TO, i1, i2, i3], H' b = none) E ?_ ⟨hz, hTI, hTO, ⟨h1, p.isList⟩, ⟨h2, p2.isList⟩, ⟨h3, p3.isList⟩⟩ ?_
    · simp only [List.size_toArray]
      omega
    · rintro v h' tk ⟨T, x', y', u', rfl, hT, hx', hy', hu', hTt⟩ ⟨k1, k2, k3, ⟨k4, _⟩, ⟨k5, _⟩, ⟨k6, _⟩⟩ hk htk
      obtain ⟨w1, hw1, rw1⟩ := rv.get hx
      obtain ⟨w2, hw2, rw2⟩ := rv2.get hy
      obtain ⟨w3, hw3, rw3⟩ := rv3.get hu
      have e1 : x' = w1 := by
        have : its[i]? = some x' := by simpa using hx'
        rw [hw1] at this
        cases this
        rfl
      have e2 : y' = w2 := by
        have : its2[i]? = some y' := by simpa using hy'
        rw [hw2] at this
        cases this
        rfl
      have e3 : u' = w3 := by
        have : its3[i]? = some u' := by simpa using hu'
        rw [hw3] at this
        cases this
        rfl
      subst e1 e2 e3
      obtain ⟨o, ho, hoc, n, hod⟩ : ∃ o, h'.get? T = some o ∧ o.cls = .type "tuple" ∧ ∃ n, o.data = .seq #[x', y', u'] n := by
        obtain ⟨o, ho, hc', hd'⟩ := hTt
        exact ⟨o, ho, hc', by simpa using hd'⟩
      have new : ObjOk X.prog X.w (upd H T (.tup [x, y, u])) h' T (.tup [x, y, u]) :=
        ⟨by show 3 ≤ sizeLine; decide, [x', y', u'], .cons rw1 (.cons rw2 (.cons rw3 .nil)), ⟨o, ho, hoc, n, hod⟩⟩
      have I1 : Inv X pins σ (upd H T (.tup [x, y, u])) { s with heap := h', toks := tk } :=
        I.turnedNew (t' := tk) (ch := [z, TI, TO, i1, i2, i3]) (fun c o hb q => hk c o (fun q' => hb (sub5 q')) q) hf hT new
      refine ⟨.ref T, _, I1, rfl, ⟨T, x, y, u, rfl, I.hok.fresh hT, rfl, fun l hl => by rw [I.list_inj hl hqx]; exact hx, fun l hl => by rw [I.list_inj hl hqy]; exact hy, fun l hl => by rw [I.list_inj hl hqz]; exact hu⟩, ⟨k1, k2, k3, k4, k5, k6⟩, fun d hd => ?_⟩
      have hlt : d < s.heap.objs.size := by
        have e' : d = z ∨ d = TI ∨ d = TO ∨ d = i1 ∨ d = i2 ∨ d = i3 := by simpa using hd
        obtain ⟨_, _, _, hTO⟩ := hTO
        rcases e' with q | q | q | q | q | q
        · rw [q]; exact Heap.lt_size hz
        · rw [q]; exact Heap.lt_size hTI
        · rw [q]; exact Heap.lt_size hTO
        · rw [q]; obtain ⟨_, e1, _⟩ := h1; exact Heap.lt_size e1
        · rw [q]; obtain ⟨_, e2, _⟩ := h2; exact Heap.lt_size e2
        · rw [q]; obtain ⟨_, e3, _⟩ := h3; exact Heap.lt_size e3
      rw [upd_ne (Nat.ne_of_lt (Nat.lt_of_lt_of_le hlt hT))]
      exact (hf d hd).1
  done := by
    intro X hP hw hK hc i pins s σ H E I hf st hg
    subst hP hw hK
    obtain ⟨hz, hTI, hTO, h1, h2, h3⟩ := st
    obtain ⟨xs, ys, zs, hqx, hqy, hqz, hend⟩ := hg
    obtain ⟨its, rv, p, _⟩ := I.list hqx
    obtain ⟨its2, rv2, p2, _⟩ := I.list hqy
    obtain ⟨its3, rv3, p3, _⟩ := I.list hqz
    have hh := I.ok.hd hc
    have G := GoesN.zip3 (prog := X.prog) (w := X.w) (A := X.A) (elts := elts) (x1 := kk) (pos := tpos) S (Draws.list (A := X.A.in1) hh i1 a na its.toArray) (Draws.list (A := X.A.in1) hh i2 b nb its2.toArray) (Draws.list (A := X.A.in1) hh i3 c nc its3.toArray)
    have e : min (min its.toArray.size its2.toArray.size) its3.toArray.size = i := by
      rw [List.size_toArray, List.size_toArray, List.size_toArray, ← rv.length, ← rv2.length, ← rv3.length, hend]
    rw [e] at G
    refine G.stops s (fun s1 => Inv X pins σ H s1) E ⟨hz, hTI, hTO, ⟨h1, p.isList⟩, ⟨h2, p2.isList⟩, ⟨h3, p3.isList⟩⟩ fun h' tk hk htk => ?_
    exact I.turnedL (t' := tk) (ch := [z, TI, TO, i1, i2, i3]) (fun c o hb q => hk c o (fun q' => hb (sub5 q')) q) hf
  self := fun A i s Q E st h => wpAny_pyIter_zip st.1 h
def iZip3 (K : PySem.W.Frag) (ta : TA) : TI := fun σ H R => ta σ H fun vs H1 => ∃ a b c xs ys zs, vs = [.ref a, .ref b, .ref c] ∧ SqL K H1 a xs ∧ SqL K H1 b ys ∧ SqL K H1 c zs ∧ R (Itz3 K a b c) H1
theorem pi_zip3 {X : Cx} {e e2 e3 : Expr} {ta : TA} {p pos tpos : Pos} {elts : List Expr} {kk : Nat} (hg : Gl X "zip") (hm : X.mg "zip" = none) (ha : PA X [e, e2, e3] ta)
    (hs : starEach [e, e2, e3] X.env = (false, eval e X.env) :: starEach [e2, e3] X.env := by rfl) (hpl : (backTo pos (starEach [e2, e3] X.env)).any (·.1) = false := by rfl) :
    PI X (.Tuple elts kk tpos) (.Call (.Name "zip" p) [e, e2, e3] [] pos) (iZip3 X.K ta) := by
  refine ⟨fun pins s σ H R I h => ?_⟩
  refine Call_ (ld_blt I hg hm PyProof.Rows.boot_zip (PyProof.Rows.callWith_type1 (thn (ha.run pos pins s σ H _ I h) fun us s1 ⟨vs, H1, I1, r1, q1⟩ => ?_) hs hpl))
  obtain ⟨a, b, c, xs, ys, zs, ex, hqx, hqy, hqz, q⟩ := q1
  subst ex
  cases r1 with
  | cons r rr =>
  cases rr with
  | cons r' rr =>
  cases rr with
  | cons r'' rr =>
  cases rr
  cases r
  cases r'
  cases r''
  obtain ⟨its, rv, p1, _⟩ := I1.list hqx
  obtain ⟨its2, rv2, p2, _⟩ := I1.list hqy
  obtain ⟨its3, rv3, p3, _⟩ := I1.list hqz
  have la : a < s1.heap.objs.size := p1.lt
  have lb : b < s1.heap.objs.size := p2.lt
  have lc : c < s1.heap.objs.size := p3.lt
  refine zip_begins3 (begins_list a its.toArray) (begins_list b its2.toArray) (begins_list c its3.toArray) p1.isList p2.isList p3.isList fun h' hz hTI hTO g1 g2 g3 hsz hk => wpAny_pyIter_zip hz ?_
  have I2 : Inv X pins σ H1 { s1 with heap := h' } := I1.kept (t' := s1.toks) hk
  have one : ∀ {x : Addr}, x < s1.heap.objs.size → ∀ b ∈ [x], b < s1.heap.objs.size := fun hx b hb => by
    rw [List.mem_singleton.mp hb]
    exact hx
  refine ⟨s1.heap.objs.size + 5, [s1.heap.objs.size + 5, s1.heap.objs.size + 3, s1.heap.objs.size + 4, s1.heap.objs.size, s1.heap.objs.size + 1, s1.heap.objs.size + 2], _, _, H1, rfl, I2, turn_zip3 (zip_sep3 (one la) (one lb) (one lc)) (Nat.ne_of_lt la) (Nat.ne_of_lt (Nat.lt_succ_of_lt lb)) (Nat.ne_of_lt (Nat.lt_succ_of_lt (Nat.lt_succ_of_lt lc))), ⟨hz, hTI, ⟨_, _, _, hTO⟩, ⟨_, g1, rfl, rfl⟩, ⟨_, g2, rfl, rfl⟩, ⟨_, g3, rfl, rfl⟩⟩, fun d hd => ?_, q⟩
  have hle : s1.heap.objs.size ≤ d := by
    have e' : d = s1.heap.objs.size + 5 ∨ d = s1.heap.objs.size + 3 ∨ d = s1.heap.objs.size + 4 ∨ d = s1.heap.objs.size ∨ d = s1.heap.objs.size + 1 ∨ d = s1.heap.objs.size + 2 := by simpa using hd
    rcases e' with z | z | z | z | z | z
    · rw [z]; exact Nat.le_add_right _ _
    · rw [z]; exact Nat.le_add_right _ _
    · rw [z]; exact Nat.le_add_right _ _
    · rw [z]; exact Nat.le_refl _
    · rw [z]; exact Nat.le_add_right _ _
    · rw [z]; exact Nat.le_add_right _ _
  exact I1.fpOk hle (I1.hok.fresh hle)
section
variable {K : PySem.W.Frag} {G : Gs} {B : Bs} {env : Vn} {R : Hp} {Ql : List D → Prop}
def zipD3 (ds es fs : List D) : List D := (List.range (min (min ds.length es.length) fs.length)).map fun i => .tup [ds.getD i .non, es.getD i .non, fs.getD i .non]
theorem getD_of {ds : List D} {i : Nat} (h : i < ds.length) : ds[i]? = some (ds.getD i .non) := by
  rw [List.getD_eq_getElem?_getD, List.getElem?_eq_getElem h]
  rfl
theorem zipD3_get {ds es fs : List D} {i : Nat} {d : D} (h : (zipD3 ds es fs)[i]? = some d) : ∃ a b c, ds[i]? = some a ∧ es[i]? = some b ∧ fs[i]? = some c ∧ d = .tup [a, b, c] := by
  unfold zipD3 at h
  rw [List.getElem?_map] at h
  by_cases hi : i < min (min ds.length es.length) fs.length
  · rw [List.getElem?_range hi] at h
    cases h
    exact ⟨_, _, _, getD_of (by omega), getD_of (by omega), getD_of (by omega), rfl⟩
  · rw [List.getElem?_eq_none_iff.mpr (by rw [List.length_range]; omega)] at h
    cases h
theorem zipD3_len (ds es fs : List D) : (zipD3 ds es fs).length = min (min ds.length es.length) fs.length := by
  unfold zipD3
  rw [List.length_map, List.length_range]
theorem wk_zip3 {a b c : Addr} {xs ys zs : List V} {ds es fs : List D} (hl : SqL K R a xs) (ha : AtL K R xs ds) (hl' : SqL K R b ys) (ha' : AtL K R ys es) (hl2 : SqL K R c zs) (ha2 : AtL K R zs fs) : Wk K G B R (Itz3 K a b c) (zipD3 ds es fs) where
  go := fun B e σ R' H' r s i d hi => by
    obtain ⟨d1, d2, d3, h1, h2, h3, rfl⟩ := zipD3_get hi
    obtain ⟨v, hv, hd⟩ := ha.get h1
    obtain ⟨w, hw, he⟩ := ha'.get h2
    obtain ⟨u, hu, hf⟩ := ha2.get h3
    have hL := r.sub.l (same_l s hl)
    have hL' := r.sub.l (same_l s hl')
    have hL2 := r.sub.l (same_l s hl2)
    refine ⟨⟨xs, ys, zs, v, w, u, hL, hL', hL2, hv, hw, hu⟩, ?_⟩
    rintro u' H2 ⟨T, x, y, z, rfl, hT, rfl, hx, hy, hz⟩
    have e := hx xs hL
    rw [hv] at e
    cases e
    have e := hy ys hL'
    rw [hw] at e
    cases e
    have e := hz zs hL2
    rw [hu] at e
    cases e
    have hn := r.sub.none hT
    exact ⟨_, r.newP hT (rfl), same_take hn, .tup (.inl (.inl upd_same)) (.cons ((hd.same s).same (same_take hn)) (.cons ((he.same s).same (same_take hn)) (.cons ((hf.same s).same (same_take hn)) .nil)))⟩
  stop := fun B e σ R' H' r s => ⟨xs, ys, zs, r.sub.l (same_l s hl), r.sub.l (same_l s hl'), r.sub.l (same_l s hl2), by rw [zipD3_len, ha.len, ha'.len, ha2.len]⟩
theorem vi_zip3 {ta : TA} (h : VA K G B ta env fun xs => ∃ x y z ds es fs, xs = [x, y, z] ∧ x.seqP = some ds ∧ y.seqP = some es ∧ z.seqP = some fs ∧ Ql (zipD3 ds es fs)) : VI K G B (iZip3 K ta) env Ql := fun σ R H r Qh k =>
  h σ R H r _ fun vs R1 H1 xs r1 s1 hv _ ⟨x, y, z, ds, es, fs, e, hx, hy, hz, q⟩ => by
    subst e
    match vs, hv with
    | [v, w, u], hv =>
      obtain ⟨a, ys, rfl, h1, h2⟩ := seqP_at hv.1 hx
      obtain ⟨b, zs, rfl, g1, g2⟩ := seqP_at hv.2.1 hy
      obtain ⟨c, us, rfl, f1, f2⟩ := seqP_at hv.2.2.1 hz
      exact ⟨a, b, c, ys, zs, us, rfl, r1.sub.l h1, r1.sub.l g1, r1.sub.l f1, k _ R1 H1 _ r1 s1 (wk_zip3 h1 h2 g1 g2 f1 f2) q⟩
end
end VL

namespace VL
open PySem PySem.Spec PyProof.Rows L2
/-! ### xs[i] op= v -/
section
variable {K : PySem.W.Frag} {G : Gs} {B : Bs} {env : Vn} {σ : L2.St} {R R' R1 H H' H1 : Hp} {Q : XV → Prop} {nx : Vn → Prop} {rt : XV → Prop} {bk ct : Vn → Prop} {Qe : Vn → Prop} {Qb : Bool → Prop} {Ql : List D → Prop}
theorem vs_augS {i : Nat} {ti te : TE} {tip : TIp} {ds : List D} (hd : env[i]? = some (.mu (.lst ds))) (h : VE K G B ti env fun y => ∃ (z : Int) (j : Nat) (d : D), y = .p (.int z) ∧ ixN ds.length z = some j ∧ ds[j]? = some d ∧ ds.length ≤ 100000 ∧
      VE K G B te env fun x => x.fz fun x => VO K G B tip env (.p d) x fun u => ∃ e, u = .p e ∧ nx (env.set i (.mu (.lst (ds.set j e))))) :
    VS K G B (tAugS (tVar i) ti te (rIxL K) tip rSetL) env nx rt bk ct := fun σ R H r Z kn _ _ _ => by
  obtain ⟨a, y, h1, _⟩ := r.slots i _ hd
  refine ⟨.ref a, h1, h σ R H r _ fun w R1 H1 x r1 s1 hw ⟨z, j, d, e, hj, hg, hlen, q⟩ => ?_⟩
  subst e
  cases hw
  obtain ⟨b, y, g1, g2, g3, g4, g5⟩ := r1.slots i _ hd
  rw [h1] at g1
  cases g1
  obtain ⟨ys, rfl⟩ : ∃ xs, y = .lst xs := by cases y <;> first | exact ⟨_, rfl⟩ | exact g5.elim
  have g6 : AtL K R1 ys ds := g5
  obtain ⟨u, hu, hud⟩ := g6.get hg
  have hL : SqL K H1 a ys := .inl (.inl g4)
  have hat : atI ys z = some u := by
    unfold atI
    rw [g6.len, hj]
    exact hu
  refine ⟨a, ys, z, u, rfl, rfl, hL, hat, q σ R1 H1 r1 _ fun v R2 H2 x r2 s2 hv q2 => ?_⟩
  obtain ⟨R3, x', r3, s3, hv3, ho, q3⟩ := hv.fz r2 q2
  refine q3 σ R3 H2 r3 u v (At.same (s2.trans s3) hud) hv3 _ fun p R4 H4 x4 r4 s4 hp ⟨e, he, q4⟩ => ?_
  subst he
  obtain ⟨b, y, f1, f2, f3, f4, f5⟩ := r4.slots i _ hd
  rw [h1] at f1
  cases f1
  obtain ⟨zs, rfl⟩ : ∃ xs, y = .lst xs := by cases y <;> first | exact ⟨_, rfl⟩ | exact f5.elim
  have f6 : AtL K R4 zs ds := f5
  refine ⟨a, zs, z, j, rfl, rfl, f4, by rw [f6.len]; exact hj, ?_⟩
  exact kn _ σ R4 _ (r4.mut hd h1 (y := .lst (zs.set j p)) (d' := .lst (ds.set j e)) (AtL.set hp j f6)) (((s1.trans s2).trans s3).trans s4) q4
theorem ve_mono {t : TE} {Q' : XV → Prop} (h : VE K G B t env Q) (k : ∀ x, Q x → Q' x) : VE K G B t env Q' := fun σ R H r Qh c => h σ R H r Qh fun v R' H' x r' s' hv q => c v R' H' x r' s' hv (k x q)
theorem vo_mono {t : R2} {x y : XV} {Q' : XV → Prop} (h : VO K G B t env x y Q) (k : ∀ x, Q x → Q' x) : VO K G B t env x y Q' := fun σ R H r v w hv hw Qh c => h σ R H r v w hv hw Qh fun z R' H' x r' s' hz q => c z R' H' x r' s' hz (k x q)
theorem fz_mono {P P' : XV → Prop} {x : XV} (h : x.fz P) (k : ∀ x, P x → P' x) : x.fz P' := by
  cases x with
  | p d => exact fz_p (k _ h)
  | o d => exact fz_o (k _ h)
  | m i d => exact k _ h
/-- xs[i] op= v, whole numbers -/
theorem vs_augI {i : Nat} {ti te : TE} {tip : TIp} {os : List Int} (hd : env[i]? = some (.mu (.lst (os.map D.int)))) (h : VE K G B ti env fun y => ∃ (z : Int) (j : Nat) (d : Int), y = .p (.int z) ∧ ixN os.length z = some j ∧ os[j]? = some d ∧ os.length ≤ 100000 ∧
      VE K G B te env fun x => x.fz fun x => VO K G B tip env (.p (.int d)) x fun u => ∃ e, u = .p (.int e) ∧ nx (env.set i (.mu (.lst ((os.set j e).map D.int))))) :
    VS K G B (tAugS (tVar i) ti te (rIxL K) tip rSetL) env nx rt bk ct := vs_augS hd (ve_mono h fun y ⟨z, j, d, e1, e2, e3, e4, q⟩ => ⟨z, j, .int d, e1, by rw [List.length_map]; exact e2, by rw [List.getElem?_map, e3]; rfl, by rw [List.length_map]; exact e4,
      ve_mono q fun x q => fz_mono q fun x q => vo_mono q fun u ⟨e, eu, q⟩ => ⟨.int e, eu, by rw [← List.map_set]; exact q⟩⟩)
/-- xs[i] = v, whole numbers -/
theorem vg_subI {i : Nat} {te : TE} {os : List Int} {d : Int} (hd : env[i]? = some (.mu (.lst (os.map D.int)))) (h : VE K G B te env fun x => ∃ z j, x = .p (.int z) ∧ ixN os.length z = some j ∧ Qe (env.set i (.mu (.lst ((os.set j d).map D.int))))) :
    VG K G B (gSub (tVar i) te rSetL) (.p (.int d)) env Qe := vg_subL hd (ve_mono h fun x ⟨z, j, e1, e2, q⟩ => ⟨z, j, e1, by rw [List.length_map]; exact e2, by rw [← List.map_set]; exact q⟩)
end
end VL

namespace VL
open PySem PySem.Spec PyProof.Rows L2
/-! ### a dict is walked: it is locked meanwhile -/
/-- no dict within -/
def D.noD : Nat → D → Bool
  | 0, _ => false
  | n + 1, d => match d with
    | .tup ds => ds.all (D.noD n)
    | .lst ds => ds.all (D.noD n)
    | .ro ds => ds.all (D.noD n)
    | .dct _ => false
    | .lkd _ _ => false
    | .ins _ _ _ => false
    | _ => true
def Slot.noD0 : D → Bool
  | .lst ds => ds.all (D.noD 9)
  | .dct kvs => kvs.all fun p => D.noD 9 p.2
  | _ => false
def Slot.noD : Slot → Bool
  | .u => true
  | .p d => D.noD 9 d
  | .mu (.lst ds) => ds.all (D.noD 9)
  | .mu (.dct kvs) => kvs.all fun p => D.noD 9 p.2
  | .mu _ => false
  | .hp gs => gs.all fun p => Slot.noD0 p.2
theorem noD_map {α : Type} {n : Nat} {f : α → D} (h : ∀ x, D.noD n (f x) = true) (l : List α) : (l.map f).all (D.noD n) = true := by
  rw [List.all_map]
  exact List.all_eq_true.mpr fun x _ => h x
theorem noD_ints (n : Nat) (l : List Int) : (l.map D.int).all (D.noD (n + 1)) = true := noD_map (fun _ => rfl) l
section
variable {K : PySem.W.Frag} {G : Gs} {B : Bs} {env : Vn} {σ : L2.St} {R R' R1 H H' H1 : Hp} {Q : XV → Prop} {nx : Vn → Prop} {rt : XV → Prop} {bk ct : Vn → Prop} {Qe : Vn → Prop} {Qb : Bool → Prop} {Ql : List D → Prop}
theorem at_unl {a : Addr} {o : Obj} {zs : List (Key × V)} (ha : R a = some (.frz o (.dK zs))) : ∀ (n : Nat) {v : V} {d : D}, D.noD n d = true → At K R v d → At K (without R a) v d := by
  have ne : ∀ {b : Addr} {y : HO}, R b = some y → (∀ o u, y ≠ .frz o (.dK u)) → without R a b = some y := fun {b y} e hn => by
    rw [without_ne]
    · exact e
    · rintro rfl
      rw [ha] at e
      cases e
      exact hn _ _ rfl
  intro n
  induction n with
  | zero => intro v d h _; cases h
  | succ n ih =>
    intro v d h t
    cases t with
    | non => exact .non
    | bl b => exact .bl b
    | int i => exact .int i
    | str x => exact .str x
    | @tup b xs ds hs ht =>
      refine .tup (xs := xs) ?_ ?_
      · rcases hs with (hs | ⟨o, hs⟩) | hs
        · exact .inl (.inl (ne hs fun _ _ z => by cases z))
        · exact .inl (.inr ⟨o, ne hs fun _ _ z => by cases z⟩)
        · exact .inr hs
      · have hd : ∀ d ∈ ds, D.noD n d = true := List.all_eq_true.mp h
        exact ht.imp fun v d hm => ih (hd d hm)
    | @lst b xs ds hs ht =>
      refine .lst (xs := xs) (ne hs fun _ _ z => by cases z) ?_
      have hd : ∀ d ∈ ds, D.noD n d = true := List.all_eq_true.mp h
      exact ht.imp fun v d hm => ih (hd d hm)
    | @ro b xs ds hs ht =>
      refine .ro (xs := xs) ?_ ?_
      · rcases hs with (hs | ⟨o, hs⟩) | hs
        · exact .inl (.inl (ne hs fun _ _ z => by cases z))
        · exact .inl (.inr ⟨o, ne hs fun _ _ z => by cases z⟩)
        · exact .inr hs
      · have hd : ∀ d ∈ ds, D.noD n d = true := List.all_eq_true.mp h
        exact ht.imp fun v d hm => ih (hd d hm)
    | dct _ _ => cases h
    | lkd _ _ => cases h
    | ins _ _ _ => cases h
    | dtt hs => exact .dtt (ne hs fun _ _ z => by cases z)
    | key hs => exact .key (ne hs fun _ _ z => by cases z)
    | ty n => exact .ty n
    | @st b φ hs => exact .st (φ := φ) (ne hs fun _ _ z => by cases z)
    | ptr b => exact .ptr b
    | @cm b i j hs => exact .cm (i := i) (j := j) (ne hs fun _ _ z => by cases z)
theorem mat_unl {a : Addr} {o : Obj} {zs : List (Key × V)} (ha : R a = some (.frz o (.dK zs))) {y : HO} {d : D} (h : Slot.noD (.mu d) = true) (t : MAt K R y d) : MAt K (without R a) y d := by
  cases y <;> cases d <;> first
    | exact t.elim
    | cases h
    | exact AtL.imp t fun v d hm => at_unl ha 9 (List.all_eq_true.mp h d hm)
    | exact AtD.imp t fun v d hm => at_unl ha 9 (by
        obtain ⟨p, hp, rfl⟩ := List.mem_map.mp hm
        exact List.all_eq_true.mp h p hp)
theorem slot_unl {a : Addr} {o : Obj} {zs : List (Key × V)} (ha : R a = some (.frz o (.dK zs))) {i : Nat} {sl : Slot} (h : sl.noD = true) (t : SlotAt K B R H σ i sl) : SlotAt K B (without R a) H σ i sl := by
  have wn : ∀ {b : Addr}, R b = none → without R a b = none := fun {b} e => by
    by_cases q : b = a
    · rw [q]
      exact without_same
    · rw [without_ne q]
      exact e
  cases sl with
  | u => trivial
  | p d =>
    obtain ⟨v, g1, g2⟩ := t
    exact ⟨v, g1, at_unl ha 9 h g2⟩
  | mu d =>
    obtain ⟨b, y, g1, g2, g3, g4, g5⟩ := t
    exact ⟨b, y, g1, g2, wn g3, g4, mat_unl ha h g5⟩
  | hp gs =>
    refine fun g hg => ?_
    obtain ⟨g2, g3, y, g4, g5⟩ := t g hg
    have hd : Slot.noD0 g.2 = true := List.all_eq_true.mp h g hg
    exact ⟨g2, wn g3, y, g4, mat_unl ha (by
      cases e : g.2 <;> rw [e] at hd <;> first | exact hd | cases hd) g5⟩
/-- the slot's own dict is locked -/
theorem Rep.lock (r : Rep K G B env σ R H) {i : Nat} {a : Addr} {o : Obj} {xs : List (Key × V)} {ds : List (Key × D)} (hd : env[i]? = some (.mu (.dct ds))) (h1 : σ[i]? = some (some (.ref a))) (hB : B.H a = none) (hR : R a = none) (hH : H a = some (.dK xs)) (hA : AtD K R xs ds) :
    Rep K G B (env.set i (.p (.lkd a ds))) σ (upd R a (.frz o (.dK xs))) (upd H a (.frz o (.dK xs))) := by
  have ow : Slot.owns σ[i]? a (.mu (.dct ds)) := h1
  have hi := (List.getElem?_eq_some_iff.mp hd).1
  have no := r.noown hd ow
  have np := r.nopr' hd ow
  have r1 := (r.forget i).mutA (y := .frz o (.dK xs)) hH rfl hB hR no np
  have r2 := r1.put (a := a) (o := .frz o (.dK xs)) upd_same hB hR no np
  have r3 := r2.set (i := i) (sl := .p (.lkd a ds)) (v := .ref a) (by rw [List.length_set]; exact hi) ⟨.ref a, List.getElem?_set_self (r.ilt hi), .lkd (o := o) (xs := xs) upd_same (hA.same (same_take hR))⟩ noOwn_p
  rw [set_same h1, List.set_set] at r3
  exact r3
/-- .. and unlocked, the slots but i known to hold no dict -/
theorem Rep.unlock (r : Rep K G B env σ R H) {i : Nat} {a : Addr} {o : Obj} {xs : List (Key × V)} {ds : List (Key × D)} (hd : env[i]? = some (.p (.lkd a ds))) (hB : B.H a = none) (hR : R a = some (.frz o (.dK xs))) (hn : ∀ (j : Nat) s, j ≠ i → env[j]? = some s → s.noD = true) (hA : AtD K (without R a) xs ds) :
    Rep K G B (env.set i (.mu (.dct ds))) σ (without R a) (upd H a (.dK xs)) := by
  have h1 : σ[i]? = some (some (.ref a)) := by
    obtain ⟨v, g1, g2⟩ := r.slots i _ hd
    cases g2
    exact g1
  have hi := (List.getElem?_eq_some_iff.mp hd).1
  have hH := r.sub.of hR rfl
  have r1 := r.forget i
  obtain ⟨no, np⟩ := r1.known hR
  have r2 := r1.drop hB fun j sl hj t => by
    by_cases q : j = i
    · subst q
      rw [List.getElem?_set_self hi] at hj
      cases hj
      trivial
    · rw [List.getElem?_set_ne (Ne.symm q)] at hj
      exact slot_unl hR (hn j sl q hj) t
  have r3 := r2.mutA (y := .dK xs) hH rfl hB without_same no np
  have r4 := r3.set (i := i) (sl := .mu (.dct ds)) (v := .ref a) (by rw [List.length_set]; exact hi) ⟨a, .dK xs, List.getElem?_set_self (r.ilt hi), hB, without_same, upd_same, hA⟩ fun b z => by
    have z' : (some (some (V.ref a)) : Option (Option V)) = some (some (.ref b)) := z
    cases z'
    exact ⟨no, np⟩
  rw [set_same h1, List.set_set] at r4
  exact r4
/-- the slots that are known behind a return: none -/
theorem Rep.blank (r : Rep K G B env σ R H) : Rep K G B (List.replicate σ.length .u) σ R H := by
  have no : ∀ (j : Nat) s, (List.replicate σ.length Slot.u)[j]? = some s → s = .u := fun j s hj => by
    rw [List.getElem?_replicate] at hj
    split at hj
    · exact (Option.some.inj hj).symm
    · cases hj
  exact {
    sub0 := r.sub0
    tab := r.tab
    step := r.step
    len := by rw [List.length_replicate]
    dist := fun j k sj sk a _ hj _ o => by
      rw [no j sj hj] at o
      exact o.elim
    pr := fun q hq => by
      obtain ⟨g1, g2, g3, g0, g4⟩ := r.pr q hq
      exact ⟨g1, g2, g3, g0, fun j e hj o => by
        rw [no j e hj] at o
        exact o.elim⟩
    slots := fun j s hj => by
      rw [no j s hj]
      trivial }
/-- the slot i holds the locked dict, and the others hold none -/
def Unl (i : Nat) (a : Addr) (ds : List (Key × D)) (e : Vn) : Prop := e[i]? = some (.p (.lkd a ds)) ∧ ∀ (j : Nat) s, j ≠ i → e[j]? = some s → s.noD = true
theorem unl_of {i : Nat} {a : Addr} {ds : List (Key × D)} {e : Vn} (h1 : e[i]? = some (.p (.lkd a ds))) (h2 : (e.set i .u).all Slot.noD = true) : Unl i a ds e := ⟨h1, fun j s hj hs => List.all_eq_true.mp h2 s (by
  refine List.mem_of_getElem? (i := j) ?_
  rw [List.getElem?_set_ne (Ne.symm hj)]
  exact hs)⟩
def XV.noD : XV → Bool
  | .p d => D.noD 9 d
  | _ => false
/-- a statement that walks a slot's own dict -/
theorem vs_lockM {i : Nat} {t : TS} {ds : List (Key × D)} (hd : env[i]? = some (.mu (.dct ds)))
    (h : ∀ a, VS K G B t (env.set i (.p (.lkd a ds))) (fun e => Unl i a ds e ∧ nx (e.set i (.mu (.dct ds)))) (fun x => x.noD = true ∧ rt x) (fun e => Unl i a ds e ∧ bk (e.set i (.mu (.dct ds)))) (fun e => Unl i a ds e ∧ ct (e.set i (.mu (.dct ds))))) :
    VS K G B (tLock t) env nx rt bk ct := fun σ R H r Z kn kr kb kc => by
  obtain ⟨a, y, h1, hB, hR, hH, hm⟩ := r.slots i _ hd
  obtain ⟨xs, rfl⟩ : ∃ xs, y = .dK xs := by cases y <;> first | exact ⟨_, rfl⟩ | exact hm.elim
  have hA : AtD K R xs ds := hm
  refine ⟨a, .dK xs, hH, trivial, fun o => ?_⟩
  have r1 := r.lock (o := o) hd h1 hB hR hH hA
  have key : ∀ {R' : Hp}, Same (upd R a (.frz o (.dK xs))) R' → R' a = some (.frz o (.dK xs)) ∧ Same R (without R' a) := fun {R'} s => ⟨s a _ upd_same, fun b x e => by
    have hb : b ≠ a := fun z => by rw [z, hR] at e; cases e
    rw [without_ne hb]
    exact s b x (by rw [upd_ne hb]; exact e)⟩
  have fin : ∀ {e : Vn} {σ' R' H'}, Rep K G B e σ' R' H' → Same (upd R a (.frz o (.dK xs))) R' → Unl i a ds e → H' a = some (.frz o (.dK xs)) ∧ Rep K G B (e.set i (.mu (.dct ds))) σ' (without R' a) (upd H' a (.dK xs)) := fun r' s' u => by
    obtain ⟨k1, k2⟩ := key s'
    exact ⟨r'.sub.of k1 (rfl), r'.unlock u.1 hB k1 u.2 (hA.same k2)⟩
  refine h a σ _ _ r1 _ (fun e σ' R' H' r' s' ⟨u, q⟩ => ?_) (fun v e σ' R' H' x r' s' hv ⟨hn, q⟩ => ?_) (fun e σ' R' H' r' s' ⟨u, q⟩ => ?_) (fun e σ' R' H' r' s' ⟨u, q⟩ => ?_)
  · obtain ⟨f1, f2⟩ := fin r' s' u
    exact ⟨f1, kn _ σ' _ _ f2 (key s').2 q⟩
  · obtain ⟨k1, k2⟩ := key s'
    cases x with
    | p d =>
      have rb := r'.blank
      have hH' := rb.sub.of k1 rfl
      obtain ⟨no, np⟩ := rb.known k1
      -- the slots are forgotten, the dict is unlocked
      have r2 := (rb.drop hB fun j sl hj t => by
        rw [List.getElem?_replicate] at hj
        split at hj
        · cases hj
          trivial
        · cases hj).mutA (y := .dK xs) hH' rfl hB without_same no np
      exact ⟨rb.sub.of k1 (rfl), kr v _ σ' _ _ (.p d) r2 k2 (at_unl k1 9 hn hv) q⟩
    | _ => cases hn
  · obtain ⟨f1, f2⟩ := fin r' s' u
    exact ⟨f1, kb _ σ' _ _ f2 (key s').2 q⟩
  · obtain ⟨f1, f2⟩ := fin r' s' u
    exact ⟨f1, kc _ σ' _ _ f2 (key s').2 q⟩
/-- .. a term -/
theorem ve_lockM {i : Nat} {t : TE} {ds : List (Key × D)} (hd : env[i]? = some (.mu (.dct ds))) (hn : ((env.set i .u).all Slot.noD) = true)
    (h : ∀ a, VE K G B t (env.set i (.p (.lkd a ds))) fun x => x.fz fun x => x.noD = true ∧ Q x) : VE K G B (tLockE t) env Q := fun σ R H r Qh k => by
  obtain ⟨a, y, h1, hB, hR, hH, hm⟩ := r.slots i _ hd
  obtain ⟨xs, rfl⟩ : ∃ xs, y = .dK xs := by cases y <;> first | exact ⟨_, rfl⟩ | exact hm.elim
  have hA : AtD K R xs ds := hm
  refine ⟨a, .dK xs, hH, trivial, fun o => ?_⟩
  have r1 := r.lock (o := o) hd h1 hB hR hH hA
  have hi := (List.getElem?_eq_some_iff.mp hd).1
  have uu : Unl i a ds (env.set i (.p (.lkd a ds))) := unl_of (List.getElem?_set_self hi) (by rw [List.set_set]; exact hn)
  have eb : (env.set i (.p (.lkd a ds))).set i (.mu (.dct ds)) = env := by
    rw [List.set_set]
    refine List.ext_getElem? fun j => ?_
    by_cases q : i = j
    · subst q
      rw [List.getElem?_set_self hi, hd]
    · rw [List.getElem?_set_ne q]
  refine h a σ _ _ r1 _ fun v R' H' x r' s' hv q => ?_
  obtain ⟨R2, x2, r2, s2, hv2, ho, q2⟩ := hv.fz r' q
  have s3 := s'.trans s2
  have k1 : R2 a = some (.frz o (.dK xs)) := s3 a _ upd_same
  have k2 : Same R (without R2 a) := fun b x e => by
    have hb : b ≠ a := fun z => by rw [z, hR] at e; cases e
    rw [without_ne hb]
    exact s3 b x (by rw [upd_ne hb]; exact e)
  have r3 := r2.unlock uu.1 hB k1 uu.2 (hA.same k2)
  rw [eb] at r3
  cases x2 with
  | p d => exact ⟨r2.sub.of k1 (rfl), k v _ _ (.p d) r3 k2 (at_unl k1 9 q2.1 hv2) q2.2⟩
  | _ => cases q2.1
/-- for k in d, d locked -/
theorem AtD.get : ∀ {vs : List (Key × V)} {ds : List (Key × D)} {i : Nat} {k : Key} {d : D}, AtD K R vs ds → ds[i]? = some (k, d) → ∃ v, vs[i]? = some (k, v) ∧ At K R v d
  | _, _, _, _, _, .nil, h => by simp at h
  | _, _, 0, _, _, .cons h _, e => by
    simp at e
    obtain ⟨rfl, rfl⟩ := e
    exact ⟨_, rfl, h⟩
  | _, _, i + 1, _, _, .cons _ t, e => by
    obtain ⟨v, h1, h2⟩ := AtD.get (i := i) t (by simpa using e)
    exact ⟨v, by simpa using h1, h2⟩
theorem keyD_at (k : Key) : At K R (kV k) (keyD k) := by
  cases k with
  | inl i => exact .int i
  | inr x => exact .str x
theorem wk_keys {a : Addr} {o : Obj} {xs : List (Key × V)} {ds : List (Key × D)} (hl : R a = some (.frz o (.dK xs))) (ha : AtD K R xs ds) : Wk K G B R (Itk a o xs) (ds.map fun p => keyD p.1) where
  go := fun B' e σ R' H' r s i d hi => by
    rw [List.getElem?_map] at hi
    cases he : ds[i]? with
    | none => rw [he] at hi; cases hi
    | some p =>
      obtain ⟨k, u⟩ := p
      rw [he] at hi
      cases hi
      obtain ⟨v, hv, _⟩ := ha.get he
      have hH : H' a = some (.frz o (.dK xs)) := r.sub.of (s a _ hl) rfl
      refine ⟨⟨hH, (List.getElem?_eq_some_iff.mp hv).1⟩, ?_⟩
      rintro w H2 ⟨rfl, k', v', hk, rfl⟩
      rw [hv] at hk
      cases hk
      exact ⟨R', r, Same.refl _, keyD_at k⟩
  stop := fun B' e σ R' H' r s => ⟨r.sub.of (s a _ hl) (rfl), by rw [List.length_map, ha.len]; exact Nat.le_refl _⟩
theorem vi_keys {td : TE} (h : VE K G B td env fun x => x.fz fun x => ∃ a ds, x = .p (.lkd a ds) ∧ Ql (ds.map fun p => keyD p.1)) : VI K G B (iKeys td) env Ql := fun σ R H r Qh k =>
  h σ R H r _ fun v R1 H1 x r1 s1 hv q => by
    obtain ⟨R2, x2, r2, s2, hv2, ho, a, ds, rfl, q2⟩ := hv.fz r1 q
    cases hv2 with
    | @lkd a o xs _ h1 h2 => exact ⟨_, o, rfl, .inl ⟨xs, r2.sub.of h1 (rfl), k _ R2 H1 _ r2 (s1.trans s2) (wk_keys h1 h2) q2⟩⟩
end
end VL

namespace VL
open PySem PySem.Spec PyProof.Rows L2
def tDead : TS := fun _ _ _ => False
theorem ps_dead {X : Cx} {st : Stmt} : PS X st tDead := ⟨fun _ _ _ _ _ _ h => h.elim⟩
/-! ### min of a list of data that can be compared -/
def rMinD (K : PySem.W.Frag) : List V → Hp → VK → Prop := fun vs H Q => ∃ (a : Addr) (xs : List V) (d : PyData) (ds : List PyData), vs = [V.ref a] ∧ SqL K H a xs ∧ DpAll K H xs (d :: ds) ∧ PySem.W.AlikeAll (d :: ds) ∧ PyData.depthAll (d :: ds) ≤ 60 ∧
  ∀ i v, xs[i]? = some v → (d :: ds).getD i .none = PySem.W.minD d ds → Q v H
section
variable {X : Cx}
open PySem.W PySem.SeqAt in
theorem cr_minD (hc : X.calm = true) (hu : X.A.units + 64 < cLine) : CallR X (.builtin "min") (rMinD X.K) := by
  intro pins s σ H vs us Q I r h
  obtain ⟨a, xs, d, ds, rfl, hs, hd, hal, hdep, q⟩ := h
  obtain ⟨its, rv, hl, _⟩ := I.list hs
  rw [Vals.ref1 r]
  obtain ⟨as, hr⟩ := Dp.readsAll I (d :: ds) xs its hd rv
  have hr' : ReadsAll s.heap its.toArray.toList (d :: ds) as := by simpa using hr
  have hn : its.toArray.size = ds.length + 1 := readsAll_len hr'
  refine call_min_walkH (iter_listW (A := X.A.in1) (I.ok.hd hc) hl.isList fun s₂ e W st hfp hw hk => ?_)
  refine ⟨_, _, _, _, _, _, _, s.heap, _, rfl, W, st, hfp, by omega, hw, hk, cmpIn_lt (A := X.A.in1) hr' hal (by show X.A.units + 1 + _ < _; omega), fun v s' hP m => ?_⟩
  obtain ⟨h', tk, rfl, hk'⟩ := moved_old e rfl m
  have e1 : its.toArray.size - 1 = ds.length := by omega
  have e2 := (argBest_fold dataLt PyData.none d ds ds.length (Nat.le_refl _)).2
  rw [List.take_length] at e2
  rw [e1] at hP
  have hP2 : its[argBest (fun i j => dataLt ((d :: ds).getD i .none) ((d :: ds).getD j .none)) ds.length]? = some v := by simpa using hP
  have hlx : xs.length = its.length := rv.length
  have hlt := (List.getElem?_eq_some_iff.mp hP2).1
  obtain ⟨z, hz⟩ : ∃ z, xs[argBest (fun i j => dataLt ((d :: ds).getD i .none) ((d :: ds).getD j .none)) ds.length]? = some z := ⟨_, List.getElem?_eq_getElem (by omega)⟩
  obtain ⟨w, hw2, rw2⟩ := rv.get hz
  rw [hP2] at hw2
  cases hw2
  exact ⟨z, H, I.kept hk', rw2, q _ z hz e2⟩
end
section
variable {K : PySem.W.Frag} {G : Gs} {B : Bs} {env : Vn} {σ : L2.St} {R R' R1 H H' H1 : Hp} {Q : XV → Prop} {nx : Vn → Prop} {rt : XV → Prop} {bk ct : Vn → Prop} {Qe : Vn → Prop} {Qb : Bool → Prop} {Ql : List D → Prop}
def pairD (p : Int × Int) : D := .tup [.int p.1, .int p.2]
theorem pairD_py (p : Int × Int) : D.py (pairD p) = PySem.W.Datum.toD p := by
  unfold pairD
  simp only [D.py, D.pys]
  rfl
theorem pairs_py : ∀ ps : List (Int × Int), D.pys (ps.map pairD) = ps.map PySem.W.Datum.toD
  | [] => by simp only [List.map_nil, D.pys]
  | p :: r => by simp only [List.map_cons, D.pys, pairD_py, pairs_py r]
theorem pairs_cmps : ∀ ps : List (Int × Int), D.cmps (ps.map pairD) = true
  | [] => by simp only [List.map_nil, D.cmps]
  | p :: r => by simp only [List.map_cons, D.cmps, pairD, D.cmp, pairs_cmps r, Bool.and_self]
theorem minOf_le : ∀ (x : Int × Int) (xs : List (Int × Int)), (PySem.W.minOf x xs).1 ≤ x.1 ∧ (∀ y ∈ xs, (PySem.W.minOf x xs).1 ≤ y.1) ∧ (PySem.W.minOf x xs = x ∨ PySem.W.minOf x xs ∈ xs)
  | x, [] => ⟨Int.le_refl _, fun _ h => (by cases h), .inl rfl⟩
  | x, y :: r => by
    have e : PySem.W.minOf x (y :: r) = PySem.W.minOf (if PySem.W.DatumOrd.lt y x = true then y else x) r := rfl
    by_cases hlt : PySem.W.DatumOrd.lt y x = true
    · rw [e, if_pos hlt]
      obtain ⟨h1, h2, h3⟩ := minOf_le y r
      have hyx : y.1 ≤ x.1 := by
        have hlt' : (if y.1 = x.1 then PySem.W.DatumOrd.lt y.2 x.2 else PySem.W.DatumOrd.lt y.1 x.1) = true := hlt
        by_cases q : y.1 = x.1
        · omega
        · rw [if_neg q] at hlt'
          have : decide (y.1 < x.1) = true := hlt'
          have := of_decide_eq_true this
          omega
      refine ⟨by omega, fun z hz => ?_, ?_⟩
      · rcases List.mem_cons.mp hz with rfl | hz
        · exact h1
        · exact h2 z hz
      · rcases h3 with h3 | h3
        · exact .inr (by rw [h3]; exact List.mem_cons_self)
        · exact .inr (List.mem_cons_of_mem _ h3)
    · rw [e, if_neg hlt]
      obtain ⟨h1, h2, h3⟩ := minOf_le x r
      have hyx : x.1 ≤ y.1 := by
        have hlt' : ¬ (if y.1 = x.1 then PySem.W.DatumOrd.lt y.2 x.2 else PySem.W.DatumOrd.lt y.1 x.1) = true := hlt
        by_cases q : y.1 = x.1
        · omega
        · rw [if_neg q] at hlt'
          have : ¬ decide (y.1 < x.1) = true := hlt'
          have h8 : x.1 ≤ y.1 := by simpa using this
          exact h8
      refine ⟨h1, fun z hz => ?_, ?_⟩
      · rcases List.mem_cons.mp hz with rfl | hz
        · omega
        · exact h2 z hz
      · rcases h3 with h3 | h3
        · exact .inl h3
        · exact .inr (List.mem_cons_of_mem _ h3)
/-- min(ps), ps a list of pairs of whole numbers -/
theorem vc_minP {x : XV} {ps : List (Int × Int)} (hx : x.seqL = some (ps.map pairD)) (hne : ps ≠ []) (q : ∀ m ∈ ps, (∀ y ∈ ps, m.1 ≤ y.1) → Q (.p (pairD m))) : VC K G B (rMinD K) env [x] Q := vc1 fun σ R H r v hv Qh k => by
  obtain ⟨p, r2, rfl⟩ : ∃ p r, ps = p :: r := by
    cases ps with
    | nil => exact absurd rfl hne
    | cons p r => exact ⟨p, r, rfl⟩
  obtain ⟨a, xs, rfl, h1, h2⟩ := seqL_at r hv hx
  have hdp : DpAll K H xs (PySem.W.Datum.toD p :: r2.map PySem.W.Datum.toD) := by
    have := at_dps r.sub h2 (pairs_cmps _)
    rw [pairs_py, List.map_cons] at this
    exact this
  have hal : PySem.W.AlikeAll (PySem.W.Datum.toD p :: r2.map PySem.W.Datum.toD) := PySem.W.alikeAll_datum (p :: r2)
  have hdep : PyData.depthAll (PySem.W.Datum.toD p :: r2.map PySem.W.Datum.toD) ≤ 60 := Nat.le_trans (PySem.W.depthAll_map (p :: r2)) (by decide)
  refine ⟨a, xs, _, _, rfl, h1, hdp, hal, hdep, fun i z hz hm => ?_⟩
  rw [PySem.W.minD_map] at hm
  obtain ⟨m1, m2, m3⟩ := minOf_le p r2
  have hi : i < (p :: r2).length := by
    have := (List.getElem?_eq_some_iff.mp hz).1
    rw [h2.len, List.length_map] at this
    exact this
  have hpi : (p :: r2)[i]? = some (p :: r2)[i] := List.getElem?_eq_getElem hi
  have e3 : PySem.W.Datum.toD ((p :: r2)[i]) = PySem.W.Datum.toD (PySem.W.minOf p r2) := by
    have : ((p :: r2).map (PySem.W.Datum.toD (α := Int × Int))).getD i .none = PySem.W.Datum.toD ((p :: r2)[i]) := by
      rw [List.getD_eq_getElem?_getD, List.getElem?_map, hpi]
      rfl
    rw [← hm, ← this]
    rfl
  have e4 : (p :: r2)[i] = PySem.W.minOf p r2 := by
    generalize (p :: r2)[i] = u at e3
    generalize PySem.W.minOf p r2 = w at e3
    obtain ⟨u1, u2⟩ := u
    obtain ⟨w1, w2⟩ := w
    have e5 : PyData.tuple [.int u1, .int u2] = .tuple [.int w1, .int w2] := e3
    cases e5
    rfl
  obtain ⟨z', hz', hat⟩ := h2.get (i := i) (d := pairD (p :: r2)[i]) (by rw [List.getElem?_map, hpi]; rfl)
  rw [hz] at hz'
  cases hz'
  refine k z R H (.p (pairD (p :: r2)[i])) r (Same.refl R) hat (q _ (List.getElem_mem hi) fun y hy => ?_)
  rw [e4]
  rcases List.mem_cons.mp hy with rfl | hy
  · exact m1
  · exact m2 y hy
theorem vc_minI {x : XV} {ns : List Int} (hx : x.seqL = some (ns.map D.int)) (hne : ns ≠ []) (q : ∀ m ∈ ns, (∀ y ∈ ns, m ≤ y) → Q (.p (.int m))) : VC K G B (rMin K) env [x] Q := vc1 fun σ R H r v hv Qh k => by
  obtain ⟨a, rfl, h1⟩ := ints_at r hv hx
  exact ⟨a, ns, rfl, h1, List.length_pos_iff.mpr hne, fun m hm hy => k _ R H (.p (.int m)) r (Same.refl R) (.int m) (q m hm hy)⟩
theorem vc_maxI {x : XV} {ns : List Int} (hx : x.seqL = some (ns.map D.int)) (hne : ns ≠ []) (q : ∀ m ∈ ns, (∀ y ∈ ns, y ≤ m) → Q (.p (.int m))) : VC K G B (rMax K) env [x] Q := vc1 fun σ R H r v hv Qh k => by
  obtain ⟨a, rfl, h1⟩ := ints_at r hv hx
  exact ⟨a, ns, rfl, h1, List.length_pos_iff.mpr hne, fun m hm hy => k _ R H (.p (.int m)) r (Same.refl R) (.int m) (q m hm hy)⟩
/-! ### len(d), list(d) of a slot's own dict or a plain one -/
def XV.exD : XV → Option (List (Key × D))
  | .p (.dct ds) => some ds
  | .m _ (.dct ds) => some ds
  | _ => none
theorem exD_at (r : Rep K G B env σ R H) {v : V} {x : XV} {ds : List (Key × D)} (h : VAt K B env σ R H v x) (e : x.exD = some ds) : ∃ a xs, v = .ref a ∧ H a = some (.dK xs) ∧ AtD K R xs ds := by
  cases x with
  | p d =>
    cases d with
    | dct es =>
      cases e
      cases h with
      | @dct a xs _ h1 h2 => exact ⟨a, xs, rfl, r.sub.of h1 (rfl), h2⟩
    | _ => cases e
  | o d => cases e
  | m i d =>
    cases d with
    | dct es =>
      cases e
      obtain ⟨h1, h2⟩ := h
      obtain ⟨a, y, g1, g2, g3, g4, g5⟩ := r.slots i _ h1
      rw [g1] at h2
      cases h2
      cases y with
      | dK xs => exact ⟨a, xs, rfl, g4, g5⟩
      | _ => exact g5.elim
    | _ => cases e
theorem vc_lenD {x : XV} {ds : List (Key × D)} (hx : x.exD = some ds) (q : Q (.p (.int ds.length))) : VC K G B (fun xs H Q => ∃ a kvs, xs = [V.ref a] ∧ H a = some (.dK kvs) ∧ Q (.int kvs.length) H) env [x] Q := vc1 fun σ R H r v hv Qh k => by
  obtain ⟨a, xs, rfl, h1, h2⟩ := exD_at r hv hx
  exact ⟨a, xs, rfl, h1, by rw [h2.len]; exact k _ R H (.p (.int _)) r (Same.refl R) (.int _) q⟩
theorem AtD.keys : ∀ {xs : List (Key × V)} {ds : List (Key × D)}, AtD K R xs ds → AtL K R (xs.map fun kv => kV kv.1) (ds.map fun p => keyD p.1)
  | _, _, .nil => .nil
  | _, _, .cons h t => .cons (keyD_at _) (AtD.keys t)
theorem vc_listD {x : XV} {ds : List (Key × D)} (hx : x.exD = some ds) (q : Q (.o (.lst (ds.map fun p => keyD p.1)))) : VC K G B rListD env [x] Q := vc1 fun σ R H r v hv Qh k => by
  obtain ⟨a, xs, rfl, h1, h2⟩ := exD_at r hv hx
  refine ⟨a, xs, rfl, h1, fun p hp => ?_⟩
  obtain ⟨r2, v2⟩ := own_lst r hp h2.keys
  exact k _ R _ _ r2 (Same.refl R) v2 q
/-! ### a slot is forgotten -/
theorem vs_forget (i : Nat) {t : TS} (h : VS K G B t (env.set i .u) nx rt bk ct) : VS K G B t env nx rt bk ct := fun σ R H r => h σ R H (r.forget i)
theorem vs_frz (i : Nat) {t : TS} {d : D} (h0 : env[i]? = some (.p d) ∨ env[i]? = some (.mu d)) (h : VS K G B t (env.set i (.p d)) nx rt bk ct) : VS K G B t env nx rt bk ct := by
  rcases h0 with h0 | h0
  · have hi := (List.getElem?_eq_some_iff.mp h0).1
    have e : env.set i (.p d) = env := by
      refine List.ext_getElem? fun j => ?_
      by_cases q : i = j
      · subst q
        rw [List.getElem?_set_self hi, h0]
      · rw [List.getElem?_set_ne q]
    rw [e] at h
    exact h
  · exact vs_freeze i h0 h
/-! ### a statement that is not reached -/
theorem vs_dead (h : False) : VS K G B tDead env nx rt bk ct := h.elim
end
end VL

namespace VL
open PySem PySem.Spec PyProof.Rows L2
section
variable {K : PySem.W.Frag} {G : Gs} {B : Bs} {env : Vn} {σ : L2.St} {R R' R1 H H' H1 : Hp} {Q : XV → Prop} {nx : Vn → Prop} {rt : XV → Prop} {bk ct : Vn → Prop} {Qe : Vn → Prop} {Qb : Bool → Prop} {Ql : List D → Prop}
/-! ### in, of texts -/
theorem inV_strs (z : Str) : ∀ zs : List Str, inV (.str z) (zs.map V.str) = decide (z ∈ zs)
  | [] => by simp [inV]
  | y :: r => by
    have ih := inV_strs z r
    have e : inV (.str z) ((y :: r).map V.str) = (eqV (.str y) (.str z) || inV (.str z) (r.map V.str)) := by
      simp [inV]
    rw [e, ih]
    have e2 : eqV (.str y) (.str z) = decide (y = z) := by
      show (y == z) = _
      by_cases h : y = z
      · rw [h]; simp
      · rw [decide_eq_false h]; exact beq_eq_false_iff_ne.mpr h
    rw [e2]
    by_cases h : y = z
    · simp [h]
    · have h2 : ¬ z = y := fun q => h q.symm
      simp [h, h2]
theorem flat_strs (zs : List Str) : (zs.map V.str).all flatV = true := by
  rw [List.all_map]
  exact List.all_eq_true.mpr fun _ _ => rfl
/-- a list or a tuple, read -/
def XV.anyL : XV → Option (List D)
  | .p (.tup ds) => some ds
  | x => x.seqL
theorem anyL_at (r : Rep K G B env σ R H) {v : V} {x : XV} {ds : List D} (h : VAt K B env σ R H v x) (e : x.anyL = some ds) : ∃ a xs, v = .ref a ∧ (SqL K H a xs ∨ SqT K H a xs) ∧ AtL K R xs ds := by
  by_cases q : ∃ es, x = .p (.tup es)
  · obtain ⟨es, rfl⟩ := q
    cases e
    obtain ⟨a, xs, h1, h2, _, h3⟩ := tup_at r h
    exact ⟨a, xs, h1, .inr h2, h3⟩
  · have e2 : x.seqL = some ds := by
      cases x with
      | p d => cases d <;> first | exact e | exact absurd ⟨_, rfl⟩ q
      | o d => exact e
      | m i d => exact e
    obtain ⟨a, xs, h1, h2, h3⟩ := seqL_at r h e2
    exact ⟨a, xs, h1, .inl h2, h3⟩
theorem vo_inS {x : XV} {z : Str} {zs : List Str} (hx : x.anyL = some (zs.map D.str)) (q : Q (.p (.bl (decide (z ∈ zs))))) : VO K G B (rIn K false) env (.p (.str z)) x Q := fun σ R H r v w hv hw Qh k => by
  obtain ⟨a, xs, rfl, h1, h2⟩ := anyL_at r hw hx
  rw [AtL.strs_inv h2] at h1
  rw [str_at hv]
  refine ⟨a, _, rfl, h1, rfl, flat_strs zs, ?_⟩
  show Qh (.bl (inV (.str z) (zs.map V.str))) H
  rw [inV_strs]
  exact k _ R H (.p (.bl _)) r (Same.refl R) (.bl _) q
theorem vo_notInS {x : XV} {z : Str} {zs : List Str} (hx : x.anyL = some (zs.map D.str)) (q : Q (.p (.bl (!decide (z ∈ zs))))) : VO K G B (rIn K true) env (.p (.str z)) x Q := fun σ R H r v w hv hw Qh k => by
  obtain ⟨a, xs, rfl, h1, h2⟩ := anyL_at r hw hx
  rw [AtL.strs_inv h2] at h1
  rw [str_at hv]
  refine ⟨a, _, rfl, h1, rfl, flat_strs zs, ?_⟩
  show Qh (.bl (!inV (.str z) (zs.map V.str))) H
  rw [inV_strs]
  exact k _ R H (.p (.bl _)) r (Same.refl R) (.bl _) q
/-! ### a told dict whose values hold no dict is the caller's own -/
theorem at_unl2 {a : Addr} {zs : List (Key × V)} (ha : R a = some (.dK zs)) : ∀ (n : Nat) {v : V} {d : D}, D.noD n d = true → At K R v d → At K (without R a) v d := by
  have ne : ∀ {b : Addr} {y : HO}, R b = some y → (∀ u, y ≠ .dK u) → without R a b = some y := fun {b y} e hn => by
    rw [without_ne]
    · exact e
    · rintro rfl
      rw [ha] at e
      cases e
      exact hn _ rfl
  intro n
  induction n with
  | zero => intro v d h _; cases h
  | succ n ih =>
    intro v d h t
    cases t with
    | non => exact .non
    | bl b => exact .bl b
    | int i => exact .int i
    | str x => exact .str x
    | @tup b xs ds hs ht =>
      refine .tup (xs := xs) ?_ ?_
      · rcases hs with (hs | ⟨o, hs⟩) | hs
        · exact .inl (.inl (ne hs fun _ z => by cases z))
        · exact .inl (.inr ⟨o, ne hs fun _ z => by cases z⟩)
        · exact .inr hs
      · have hd : ∀ d ∈ ds, D.noD n d = true := List.all_eq_true.mp h
        exact ht.imp fun v d hm => ih (hd d hm)
    | @lst b xs ds hs ht =>
      refine .lst (xs := xs) (ne hs fun _ z => by cases z) ?_
      have hd : ∀ d ∈ ds, D.noD n d = true := List.all_eq_true.mp h
      exact ht.imp fun v d hm => ih (hd d hm)
    | @ro b xs ds hs ht =>
      refine .ro (xs := xs) ?_ ?_
      · rcases hs with (hs | ⟨o, hs⟩) | hs
        · exact .inl (.inl (ne hs fun _ z => by cases z))
        · exact .inl (.inr ⟨o, ne hs fun _ z => by cases z⟩)
        · exact .inr hs
      · have hd : ∀ d ∈ ds, D.noD n d = true := List.all_eq_true.mp h
        exact ht.imp fun v d hm => ih (hd d hm)
    | dct _ _ => cases h
    | lkd _ _ => cases h
    | ins _ _ _ => cases h
    | dtt hs => exact .dtt (ne hs fun _ z => by cases z)
    | key hs => exact .key (ne hs fun _ z => by cases z)
    | ty n => exact .ty n
    | @st b φ hs => exact .st (φ := φ) (ne hs fun _ z => by cases z)
    | ptr b => exact .ptr b
    | @cm b i j hs => exact .cm (i := i) (j := j) (ne hs fun _ z => by cases z)
theorem ve_callD {α : Type} {args : α → List D} {pre : α → Prop} {post : α → D → Prop} {rs : α → Addr → Prop} {E : XK} {X : Addr → Prop} {t : TA} (L : Lets K G B E X)
    (h : VA K G B t env fun xs => ∃ x, xs = (args x).map XV.p ∧ pre x ∧ (∀ C, rs x C → X C) ∧ ∀ d, post x d → ∃ ds, d = .dct ds ∧ (ds.all fun p => D.noD 9 p.2) = true ∧ Q (.o d)) : VE K G B (tCall (SpA K G true args pre post rs) [] E t) env Q := fun σ R H rp Qh k =>
  h σ R H rp _ fun vs R1 H1 xs r1 s1 hv _ ⟨x, e, hp, hr, q⟩ => by
    subst e
    rw [List.append_nil]
    refine ⟨R1, x, ⟨r1.sub, r1.tab'⟩, atL_of hv, hp, fun v R' H' d s ha hf hd => ?_, fun C R' H' s hc => L C R' H' (r1.step.trans s) (hr C hc)⟩
    obtain ⟨a, rfl, hn, hz⟩ := hf rfl
    obtain ⟨ds, rfl, fl, q⟩ := q d hd
    refine k (.ref a) (VL.without R' a) H' (.o (.dct ds)) (r1.goW s hn) (s1.trans (r1.sameW s hn)) ?_ q
    cases ha with
    | @dct _ xs _ h1 h2 =>
      exact ⟨a, _, rfl, r1.fresh hn, without_same, s.sub.of h1 (rfl), AtD.imp h2 (fun v d hm => at_unl2 h1 9 (by
        obtain ⟨p, hp, rfl⟩ := List.mem_map.mp hm
        exact List.all_eq_true.mp fl p hp)), r1.noslot hn, r1.nopr hn⟩
end
end VL

namespace VL
open PySem PySem.Spec PyProof.Rows L2
/-! ### max(xs, default=d), whole numbers -/
def rMaxDef (K : PySem.W.Frag) : List V → List V → Hp → VK → Prop := fun vs zs H Q => ∃ (a : Addr) (ns : List Int) (d : Int), vs = [V.ref a] ∧ zs = [.int d] ∧ SqL K H a (ns.map V.int) ∧ (ns = [] → Q (.int d) H) ∧ ∀ m, m ∈ ns → (∀ y ∈ ns, y ≤ m) → Q (.int m) H
theorem dp_ints {K : PySem.W.Frag} {H : Hp} : ∀ ns : List Int, DpAll K H (ns.map V.int) (ns.map PyData.int)
  | [] => .nil
  | n :: r => .cons (.int n) (dp_ints r)
theorem maxOf_ge : ∀ (x : Int) (xs : List Int), x ≤ PySem.W.maxOf x xs ∧ (∀ y ∈ xs, y ≤ PySem.W.maxOf x xs) ∧ (PySem.W.maxOf x xs = x ∨ PySem.W.maxOf x xs ∈ xs)
  | x, [] => ⟨Int.le_refl _, fun _ h => (by cases h), .inl rfl⟩
  | x, y :: r => by
    have e : PySem.W.maxOf x (y :: r) = PySem.W.maxOf (if PySem.W.DatumOrd.lt x y = true then y else x) r := rfl
    have el : PySem.W.DatumOrd.lt x y = decide (x < y) := rfl
    by_cases hlt : x < y
    · rw [e, el, if_pos (decide_eq_true hlt)]
      obtain ⟨h1, h2, h3⟩ := maxOf_ge y r
      refine ⟨by omega, fun z hz => ?_, ?_⟩
      · rcases List.mem_cons.mp hz with rfl | hz
        · exact h1
        · exact h2 z hz
      · rcases h3 with h3 | h3
        · exact .inr (by rw [h3]; exact List.mem_cons_self)
        · exact .inr (List.mem_cons_of_mem _ h3)
    · rw [e, el, if_neg (by simpa using hlt)]
      obtain ⟨h1, h2, h3⟩ := maxOf_ge x r
      refine ⟨h1, fun z hz => ?_, ?_⟩
      · rcases List.mem_cons.mp hz with rfl | hz
        · omega
        · exact h2 z hz
      · rcases h3 with h3 | h3
        · exact .inl h3
        · exact .inr (List.mem_cons_of_mem _ h3)
section
variable {X : Cx}
open PySem.W PySem.SeqAt in
theorem cr_maxDef (hc : X.calm = true) (hu : X.A.units + 64 < cLine) : CallRK X (.builtin "max") [Str.ofString "default"] (rMaxDef X.K) := by
  intro pins s σ H vs zs us ws Q I r rz h
  obtain ⟨a, ns, d, rfl, rfl, hs, q0, q1⟩ := h
  obtain rfl := Vals.ref1 r
  obtain ⟨w1, rfl, e1⟩ := vals1 rz
  obtain ⟨td, rfl⟩ := e1
  obtain ⟨its, rv, hl, _⟩ := I.list hs
  obtain ⟨as, hr⟩ := Dp.readsAll I (ns.map PyData.int) _ its (dp_ints ns) rv
  have hr' : ReadsAll s.heap its.toArray.toList (ns.map Datum.toD) as := hr
  refine max_list_datum_default (α := Int) (I.ok.hd hc) hl.isList ⟨as, hr'⟩ (by show X.A.units + 1 + 0 < _; omega) (fun e0 h' tk kp => ?_) fun y ys i v h' tk e0 hv hh kp => ?_
  · exact ⟨.int d, H, I.kept kp, ⟨td, rfl⟩, q0 e0⟩
  · obtain ⟨bs, hb⟩ := hh
    obtain ⟨m1, m2, m3⟩ := maxOf_ge y ys
    generalize maxOf y ys = m at hb m1 m2 m3
    have hb2 : Reads h' v (.int m) bs := hb
    cases hb2
    refine ⟨.int m, H, I.kept kp, ⟨_, rfl⟩, q1 m ?_ ?_⟩
    · rw [e0]
      rcases m3 with rfl | m3
      · exact List.mem_cons_self
      · exact List.mem_cons_of_mem _ m3
    · intro z hz
      rw [e0] at hz
      rcases List.mem_cons.mp hz with rfl | hz
      · exact m1
      · exact m2 z hz
end
section
variable {K : PySem.W.Frag} {G : Gs} {B : Bs} {env : Vn} {σ : L2.St} {R R' R1 H H' H1 : Hp} {Q : XV → Prop}
theorem ve_maxDef {t : TA} {d : Int} (h : VA K G B t env fun xs => ∃ x ns, xs = [x] ∧ x.seqL = some (ns.map D.int) ∧ (ns = [] → Q (.p (.int d))) ∧ ∀ m ∈ ns, (∀ y ∈ ns, y ≤ m) → Q (.p (.int m))) :
    VE K G B (tCKw (rMaxDef K) t (tCons (tC (.int d)) tNil)) env Q := fun σ R H r Qh k =>
  h σ R H r _ fun vs R1 H1 xs r1 s1 hv _ ⟨x, ns, e, hx, q0, q1⟩ => by
    subst e
    match vs, hv with
    | [v], ⟨hv, _⟩ =>
      obtain ⟨a, rfl, hs⟩ := ints_at r1 hv hx
      exact ⟨a, ns, d, rfl, rfl, hs, fun e => k _ R1 H1 (.p (.int d)) r1 s1 (.int d) (q0 e), fun m hm hy => k _ R1 H1 (.p (.int m)) r1 s1 (.int m) (q1 m hm hy)⟩
end
end VL

namespace VL
open PySem PySem.Spec PySem.SeqAt PyProof.Rows L2 PySem.W
/-! ### lambda name: known.get(name), called -/
def lamBody (p1 p2 p3 p4 : Pos) : Expr := .Call (.Attribute (.Name "known" p1) "get" p2) [.Name "name" p3] [] p4
section
variable {prog : Program} {w : World} {A : Around} {E : Value → Shared → Prop} {s : Shared} {f c' cl d : Addr} {qual : Str} {params : Arguments} {scope : Scope} {clos : List (Str × Addr)} {p1 p2 p3 p4 : Pos} {pm ctv : Value} {vs : List (Key × Value)} {k : Key} {u : Value} {n : Int} {t : Tok}
theorem lam_get (hroom : A.depth < recursionLimit) (hlim : s.heap.NoLimit) (hf : s.heap.get? f = some (kla_obj "<lambda>" qual params (lamBody p1 p2 p3 p4) scope clos pm c' ctv)) (hcode : s.heap.CodeRec (.ref c') qual)
    (hcell : s.heap.IsCell cl (some (.ref d))) (hd : s.heap.DictOf (mixKind prog w) d vs) (hsys : (d == sysModules) = false) (hk : (mixKind prog w).is k u = true) (hv : valueAt vs k = some (.int n t))
    (hline : (p2.endLine == p4.line) = true) (hki : scope.kind = .function) (hco : scope.isCoroutine = false) (hgen : scope.isGenerator = false) (hlo : scope.names.lookup ("name" : Str) = some NameKind.local) (hfr : scope.names.lookup ("known" : Str) = some NameKind.free)
    (hnc : ∀ x ∈ scope.names, x.2 ≠ .cell) (hcl : clos.lookup ("known" : Str) = some cl)
    (hbind : bindArgs (kla_fn "<lambda>" qual params (lamBody p1 p2 p3 p4) scope clos pm (.ref c') ctv) ⟨[u], []⟩ = pure [(("name" : Str), u)]) :
    wpAny (model prog w) A (call (.ref f) [u]) (KeyPure (.int n) s) E s := by
  refine wpAny_call (kla_callFunE hroom hf rfl hco hgen rfl hcode ?_)
  rw [hbind]
  refine wpAny_pure (wpAny_newFunctionEnv hnc (fun x hx => by cases List.mem_singleton.mp hx; exact hlo) (fun h₁ hns hsb => ⟨hlim.fresh _ hsb, ?_⟩) hki)
  have kp : ∀ b o, s.heap.get? b = some o → h₁.get? b = some o := fun b o e => hsb.extBut b o (Nat.ne_of_lt (Heap.lt_size e)) (Heap.get?_push_of_some _ e)
  have hcell' : h₁.IsCell cl (some (.ref d)) := by
    obtain ⟨o, ho, hdd⟩ := hcell
    exact ⟨o, kp _ _ ho, hdd⟩
  have hd' : h₁.DictOf (mixKind prog w) d vs := by
    obtain ⟨o, es, ep, g1, g2⟩ := hd
    exact ⟨o, es, ep, kp _ _ g1, g2⟩
  refine kla_codeExpr ?_
  unfold lamBody
  refine wpAny_Call_method rfl rfl hline PySem.F.plainAttrs_dict PySem.F.slot_dict_get PySem.F.type_dict_get (wpAny_Name (wpAny_loadName_free hki hfr hcl hcell' ?_))
  refine ⟨hd'.typeIs, fun b q => ?_, ?_⟩
  · cases q
    obtain ⟨ob, _, _, h1, h2, _⟩ := hd'
    exact ⟨ob, h1, h2.2.1⟩
  refine Calls.callWith_builtin rfl (Calls.evalArgs_plain (Calls.spliced_cons (wpAny_Name (wpAny_loadName_local hki hlo hns rfl (Calls.spliced_nil ?_)))))
  refine call_meetsIn PySem.F.slot_dict_get hd'.typeIs PySem.F.entry_dict_get (PySem.F.args_dict_get_2 _ _) (meets_dict_get (mixKind prog w) d hk hsys) ⟨_, hd'.mapOf, ?_⟩
  rw [hv]
  exact ⟨_, _, rfl, kp, Reads.int n t⟩
end
end VL

namespace VL
open PySem PySem.Spec PySem.SeqAt PyProof.Rows L2 PySem.W LamX
/-- a lambda has been made: the table at P has grown, or not -/
structure TabGo (P : Addr) (q : Str) (H H1 : Hp) : Prop where
  now : TabS H1 P q
  how : H1 = H ∨ ∃ (ps qs : Array Value) (d : Addr), H P = some (.tbl ps) ∧ H d = none ∧ H1 = upd (upd H P (.tbl qs)) d (CodeO d q)
theorem TabGo.stay {P : Addr} {q : Str} {H H1 : Hp} (g : TabGo P q H H1) {b : Addr} {o : HO} (hb : b ≠ P) (e : H b = some o) : H1 b = some o := by
  rcases g.how with h | ⟨ps, qs, d, _, hd, h⟩
  · rw [h]
    exact e
  · rw [h, upd_ne (ne_of_none e hd), upd_ne hb]
    exact e
theorem TabGo.keep {P : Addr} {q : Str} {H H1 : Hp} (g : TabGo P q H H1) {b : Addr} {o : HO} (e : H b = some o) (n : isTb o = false) (h : TabS H P q) : H1 b = some o := g.stay (fun z => by
  obtain ⟨ps, w, _⟩ := h
  rw [z, w] at e
  cases e
  cases n) e
section
variable {X : Cx} {pins : List (Addr × Obj)} {σ : L2.St} {H : Hp} {s : Shared}
theorem lam_mk {q : Str} {c P : Addr} {ag : Arguments} {bd : Expr} {sc : Scope} {at_ : Pos} {Z : Value → Shared → Prop} {Y : Value → Shared → Prop} (J : Inv X pins σ H s) (T : TabB X.base X.mg c P) (hc : X.env.code = .ref c) (hq : q = X.env.qual ++ "<lambda>")
    (tb : TabS H P q) (nd : defaultsOf ag X.env = ([], [])) (fr : ∀ y ∈ sc.names, y.2 = .free → ∃ c, X.env.cells.lookup y.1 = some c)
    (k : ∀ (f d : Addr) (pm ctv : Value) (H1 : Hp) (s1 : Shared), Inv X pins σ H1 s1 → TabGo P q H H1 → s1.heap.get? f = some (kla_obj "<lambda>" q ag bd sc (cloFrom X.env.cells sc.names []) pm d ctv) → H1 d = some (CodeO d q) → Y (.ref f) s1) :
    wpAny (model X.prog X.w) X.A (eval (.Lambda ag bd sc at_) X.env) Y Z s := by
  subst hq
  obtain ⟨ps, tP, t3, among⟩ := id tb
  have bP := T.bm.keeps J.bk
  have oP := J.hok P _ tP
  refine kla_eval nd ?_
  cases found : codeAmong at_ ps.toList with
  | some cv =>
    obtain ⟨d, rfl, hd⟩ := among at_ cv found
    exact kla_makeFunctionHit (mg := X.mg) (c := c) (P := P) (ps := ps) (closure_ok fr) J.ok.glob (J.mod.glob.keeps J.bk) hc (T.code.keeps J.bk) oP t3 found bP fun ctv h' tk keeps _ =>
      k h'.objs.size d _ ctv H _ (J.kept fun b o e => Heap.get?_push_of_some _ (keeps b o e)) ⟨tb, .inl rfl⟩ (Heap.get?_push_size _ rfl) hd
  | none =>
    refine kla_makeFunction (mg := X.mg) (c := c) (P := P) (ps := ps) (closure_ok fr) J.ok.glob (J.mod.glob.keeps J.bk) hc (T.code.keeps J.bk) oP t3 found T.gP bP fun d ctv h' tk but ge lt rec tab => ?_
    obtain ⟨_, oc, vs, t, e, hoc, hdt, hv⟩ := rec
    cases e
    have dn : H d = none := J.hok.fresh ge
    have pd : P ≠ d := ne_of_none tP dn
    have J1 := inv_table (t' := tk) (more := #[rawInt at_.line, rawInt at_.col, .ref d]) (h' := h'.push (kla_obj "<lambda>" (X.env.qual ++ "<lambda>") ag bd sc (cloFrom X.env.cells sc.names []) ((X.mg "__name__").getD .none) d ctv)) J tP
      (fun b o hb e => Heap.get?_push_of_some _ (but b o hb e)) (Heap.get?_push_of_some _ tab) ge ⟨oc, vs, t, Heap.get?_push_of_some _ hoc, hdt, hv⟩
    refine k h'.objs.size d _ ctv _ _ J1 ⟨⟨_, (upd_ne pd).trans upd_same, ?_, fun p' cv hcv => ?_⟩, .inr ⟨ps, _, d, tP, dn, rfl⟩⟩ (Heap.get?_push_size _ rfl) upd_same
    · rw [Array.toList_append]
      exact PySem.TriplesOk_snoc _ _ _ _ t3
    · rw [Array.toList_append] at hcv
      rcases among_app _ t3 hcv with z | z
      · obtain ⟨d0, e1, e2⟩ := among p' cv z
        refine ⟨d0, e1, ?_⟩
        have n1 : d0 ≠ P := fun w => by
          rw [w, tP] at e2
          cases e2
        rw [upd_ne (ne_of_none e2 dn), upd_ne n1]
        exact e2
      · exact ⟨d, z, upd_same⟩
end
/-! ### sorted(e, key=lambda name: known.get(name)) -/
def SortQ (K : PySem.W.Frag) (P : Addr) (i : Nat) (σ : L2.St) (Q : VK) : List V → Hp → Prop
  | [x], H1 => TabS H1 P lamName ∧ ∃ (a : Addr) (zs : List Str) (d : Addr) (kvs : List (Key × V)) (g : Str → Int), x = .ref a ∧ SqL K H1 a (zs.map V.str) ∧ zs.length ≤ 100000 ∧ σ[i]? = some (some (.ref d)) ∧
    Rd H1 d (.dK kvs) ∧ (∀ z ∈ zs, valV kvs (.inr z) = some (.int (g z))) ∧
    ∀ (p : Addr) (H2 : Hp), TabGo P lamName H1 H2 → H2 p = none → Q (.ref p) (upd H2 p (.lst ((zs.mergeSort fun a b => decide (g a ≤ g b)).map V.str)))
  | _, _ => False
def tSortBy (K : PySem.W.Frag) (P : Addr) (i : Nat) (te : TE) : TE := fun σ H Q => te σ H fun x H1 => SortQ K P i σ Q [x] H1
theorem each_str : ∀ {zs : List Str} {us : List Value}, Vals (zs.map V.str) us → EachIs (fun v z => ∃ t, v = Value.str z t) us zs
  | [], _, r => by cases r; exact .nil
  | z :: zs, _, r => by
    cases r with
    | cons h t =>
      obtain ⟨t', rfl⟩ := h
      exact .cons ⟨t', rfl⟩ (each_str t)
theorem vals_str : ∀ {zs : List Str} {us : List Value}, EachIs (fun v z => ∃ t, v = Value.str z t) us zs → Vals (zs.map V.str) us
  | _, _, .nil => .nil
  | _, _, .cons ⟨t, e⟩ h => .cons ⟨t, e⟩ (vals_str h)
section
variable {X : Cx} {c P : Addr} {i : Nat} {k : Nat} {te : TE} {e : Expr} {params : Arguments} {scope : Scope} {p1 p2 p3 p4 q1 lpos kpos pos : Pos}
theorem pe_sortBy (hr : Room (k + 1) X.A) (hg : Gl X "sorted") (hm : X.mg "sorted" = none) (he : PE X e te) (TB : TabB X.base X.mg c P) (hcode : X.env.code = .ref c)
    (hqn : lamName = X.env.qual ++ "<lambda>") (hdef : defaultsOf params X.env = ([], [])) (hN : X.N[i]? = some ("known" : Str)) (hcellk : X.env.scope.names.lookup ("known" : Str) = some NameKind.cell)
    (hline : (p2.endLine == p4.line) = true) (hki : scope.kind = .function) (hco : scope.isCoroutine = false) (hgen : scope.isGenerator = false) (hlo : scope.names.lookup ("name" : Str) = some NameKind.local) (hfr : scope.names.lookup ("known" : Str) = some NameKind.free)
    (hnc : ∀ x ∈ scope.names, x.2 ≠ .cell) (hfree : ∀ y ∈ scope.names, y.2 = .free → y.1 = ("known" : Str))
    (hbind : ∀ (clos : List (Str × Addr)) (pm ctv : Value) (c' : Addr) (u : Value), bindArgs (kla_fn "<lambda>" lamName params (lamBody p1 p2 p3 p4) scope clos pm (.ref c') ctv) ⟨[u], []⟩ = pure [(("name" : Str), u)])
    (hse0 : starEach [e] X.env = (false, eval e X.env) :: starEach [] X.env := by rfl) (hse : backTo pos (starEach [e] X.env) = (false, eval e X.env) :: backTo pos (starEach [] X.env) := by rfl) (hpl : (backTo pos (starEach [e] X.env)).any (·.1) = false := by rfl)
    (hall : (backToKw pos (keywordEach [⟨some "key", .Lambda params (lamBody p1 p2 p3 p4) scope lpos, kpos⟩] X.env)).all (·.1.isSome) = true := by rfl) (hnone : (backToKw pos (keywordEach [⟨some "key", .Lambda params (lamBody p1 p2 p3 p4) scope lpos, kpos⟩] X.env)).any (·.1.isNone) = false := by rfl) :
    PE X (.Call (.Name "sorted" q1) [e] [⟨some "key", .Lambda params (lamBody p1 p2 p3 p4) scope lpos, kpos⟩] pos) (tSortBy X.K P i te) := by
  refine ⟨fun pins s σ H Q I h => ?_⟩
  refine wpAny_Call_Name_kw (ld_blt I hg hm (u := .builtin "sorted") (by decide +kernel) ?_ (by decide) (by decide))
  have ha : PA X [e] (tCons te tNil) := pa_cons he pa_nil hse0
  refine PyProof.Rows.callWith_kw (thn (ha.run pos pins s σ H (SortQ X.K P i σ Q) I h) fun us s1 ⟨vs, H1, I1, r1, q1⟩ => ?_) hse hpl hall hnone
  cases r1 with
  | nil => exact q1.elim
  | @cons x u vs us rx rt =>
  cases rt with
  | cons _ _ => exact q1.elim
  | nil =>
  obtain ⟨hTb, a, zs, d, kvs, g, rfl, hsl, hlen, hσ, hrd, hval, q⟩ := q1
  cases rx
  show wpAny _ _ (evalAll ((do let v ← eval (.Lambda params (lamBody p1 p2 p3 p4) scope lpos) X.env; standAt pos; pure v) :: [])) _ _ s1
  have hfr2 : ∀ y ∈ scope.names, y.2 = .free → ∃ c, X.env.cells.lookup y.1 = some c := fun y hy hf => by
    rw [hfree y hy hf]
    exact I1.ok.has _ (.inl hcellk)
  refine wpAny_evalAll_cons (wpAny_bind (lam_mk I1 TB hcode hqn hTb hdef hfr2 fun f c' pm ctv H2 s2 I2 tg hf hc => wpAny_bind (wpAny_standAt (wpAny_pure (wpAny_evalAll_nil ?_)))))
  have hsl2 : SqL X.K H2 a (zs.map V.str) := by
    rcases hsl with (hs | ⟨o, hs⟩) | hs
    · exact .inl (.inl (tg.keep hs rfl hTb))
    · exact .inl (.inr ⟨o, tg.keep hs rfl hTb⟩)
    · exact .inr hs
  have hrd2 : Rd H2 d (.dK kvs) := by
    rcases hrd with hs | ⟨o, hs⟩
    · exact .inl (tg.keep hs rfl hTb)
    · exact .inr ⟨o, tg.keep hs rfl hTb⟩
  obtain ⟨its, rv, hl, hz⟩ := I2.list hsl2
  obtain ⟨_, hsys, dvs, rel, dd⟩ := dk_rd I2.hok hrd2
  have hcr : s2.heap.CodeRec (.ref c') lamName := NdefX.codeO_at I2.hok hc
  obtain ⟨cl, hcl, hcv⟩ : ∃ cl, X.env.cells.lookup ("known" : Str) = some cl ∧ s2.heap.IsCell cl (some (.ref d)) := by
    obtain ⟨m, hn, hl⟩ := I2.loc
    obtain ⟨u, ru, hlk⟩ := hl i _ _ hN hσ (.inr (.inl hcellk))
    cases ru
    rcases hlk with ⟨hk2, _⟩ | ⟨_, c2, h1, h2⟩
    · have hk3 : X.env.scope.names.lookup ("known" : Str) = some .local := hk2
      rw [hcellk] at hk3
      cases hk3
    · exact ⟨c2, h1, h2⟩
  have hclo : (cloFrom X.env.cells scope.names []).lookup ("known" : Str) = some cl := NdefX.clo_has hfr2 (PySem.mem_of_lookup hfr) hcl
  refine sorted_key_data (b := false) (fun z : Str => .int (g z)) hl.isList (each_str rv) (AllAlike.of fun _ _ => by simp [PySem.W.alike]) (Sortable.others fun _ => ⟨(by intro z; cases z), (by intro xs z; cases z)⟩) ?_ (fun z _ => ?_) (ksk_s1 _ _) (fun _ => ksk_l1 _ _) (fun _ => ksk_t1 _ _)
    (fun v z ⟨t, ev⟩ hzm h tk kp => ?_) fun out c2 h' tk kp fr hD hol eo => ?_
  · exact Nat.le_trans hlen (by decide)
  · have := hr.un
    show X.A.units + 2 + 0 < _
    omega
  · subst ev
    obtain ⟨t2, hu1⟩ : ∃ t, valueAt dvs (.inr z) = some (.int (g z) t) := by
      have := rel.val (.inr z)
      rw [hval z hzm] at this
      cases e2 : valueAt dvs (.inr z) with
      | none => rw [e2] at this; exact this.elim
      | some u2 =>
        rw [e2] at this
        obtain ⟨t2, rfl⟩ := this
        exact ⟨t2, rfl⟩
    have hcr2 : h.CodeRec (.ref c') lamName := by
      obtain ⟨c0, oc, vs, t, e0, g1, g2⟩ := hcr
      exact ⟨c0, oc, vs, t, e0, kp _ _ g1, g2⟩
    have hcv2 : h.IsCell cl (some (.ref d)) := by
      obtain ⟨o, ho, hdd⟩ := hcv
      exact ⟨o, kp _ _ ho, hdd⟩
    have dd2 : h.DictOf (mixKind X.prog X.w) d dvs := by
      obtain ⟨o, es, ep, g1, g2⟩ := dd
      exact ⟨o, es, ep, kp _ _ g1, g2⟩
    refine lam_get (s := { s2 with heap := h, toks := tk }) (k := .inr z) ?_ (I2.nolimit.keeps kp) (kp _ _ hf) hcr2 hcv2 dd2 hsys (kV_is (k := .inr z) ⟨t, rfl⟩) hu1 hline hki hco hgen hlo hfr hnc hclo (hbind _ _ _ _ _)
    have := hr.dp
    show X.A.depth < recursionLimit
    omega
  · rw [dataLe_int g] at eo
    have hlen2 : ((zs.mergeSort fun a b => decide (g a ≤ g b)).map V.str).length ≤ sizeLine := by
      rw [List.length_map, List.length_mergeSort]
      exact Nat.le_trans hlen (by decide)
    exact ⟨.ref _, upd H2 (s2.heap.objs.size + 1) (.lst ((zs.mergeSort fun a b => decide (g a ≤ g b)).map V.str)), I2.laid (t' := tk) kp (Nat.le_succ _) ⟨hlen2, out, c2, vals_str eo, hD⟩, rfl, q _ _ tg (I2.hok.fresh (Nat.le_succ _))⟩
end
end VL

namespace VL
open PySem PySem.Spec PySem.SeqAt PyProof.Rows L2 PySem.W LamX
section
variable {K : PySem.W.Frag} {G : Gs} {B : Bs} {env : Vn} {σ : L2.St} {R R' R1 H H' H1 : Hp} {Q : XV → Prop}
theorem step_tab (s : Sub K G R H) {P : Addr} {ps : Array Value} (hP : R P = some (.tbl ps)) (g : TabGo P lamName H H1) : Step K G R H R H1 where
  same := Same.refl R
  sub := fun b x e => by
    by_cases hb : b = P
    · subst hb
      rw [hP] at e
      cases e
      exact g.now
    · cases ho : H b with
      | none =>
        rw [s.none ho] at e
        cases e
      | some o =>
        refine subAt_go (s b x e) ((g.stay hb ho).trans ho.symm) fun c u hc hu => g.keep hc ?_ (s P _ hP)
        cases u <;> first | rfl | cases hu
  kept := fun b y e n => g.stay (fun z => by
    rw [z] at n
    cases n _ hP) e
  out := fun _ _ _ _ n => n
/-- the dict of a slot -/
def SlotD (env : Vn) (i : Nat) (kvs : List (Key × D)) : Prop := env[i]? = some (.p (.dct kvs)) ∨ env[i]? = some (.mu (.dct kvs))
theorem slotD_at (r : Rep K G B env σ R H) {i : Nat} {kvs : List (Key × D)} (h : SlotD env i kvs) : ∃ a xs, σ[i]? = some (some (.ref a)) ∧ Rd H a (.dK xs) ∧ AtD K R xs kvs := by
  rcases h with h | h
  · obtain ⟨v, h1, h2⟩ := r.slots i _ h
    cases h2 with
    | @dct a xs _ g1 g2 => exact ⟨a, xs, h1, .inl (r.sub.of g1 rfl), g2⟩
  · obtain ⟨a, y, h1, h2, h3, h4, h5⟩ := r.slots i _ h
    cases y with
    | dK xs => exact ⟨a, xs, h1, .inl h4, h5⟩
    | _ => exact h5.elim
theorem ve_sortBy {P : Addr} {i : Nat} {te : TE} (hP : G.tab = some P)
    (h : VE K G B te env fun x => x.fz fun x => ∃ (zs : List Str) (kvs : List (Key × D)) (g : Str → Int), x.seqL = some (zs.map D.str) ∧ SlotD env i kvs ∧ (∀ z ∈ zs, valD kvs (.inr z) = some (.int (g z))) ∧ zs.length ≤ 100000 ∧ Q (.o (.lst ((zs.mergeSort fun a b => decide (g a ≤ g b)).map D.str)))) :
    VE K G B (tSortBy K P i te) env Q := fun σ R H r Qh k =>
  h σ R H r _ fun v R1 H1 x r1 s1 hv q => by
    obtain ⟨R2, x', r2, s2, hv2, ho, zs, kvs, g, hx, hs, hg, hl, q2⟩ := hv.fz r1 q
    obtain ⟨ps, hR⟩ := r2.tab' P hP
    have hT := r2.sub P _ hR
    obtain ⟨a, xs, rfl, h1, h2⟩ := seqL_at r2 hv2 hx
    rw [AtL.strs_inv h2] at h1
    obtain ⟨d, ys, e1, e2, e3⟩ := slotD_at r2 hs
    refine ⟨hT, a, zs, d, ys, g, rfl, h1, hl, e1, e2, fun z hz => ?_, fun p H2 tg hp => ?_⟩
    · obtain ⟨w, hw, hd⟩ := (e3.val (k := .inr z)).1 _ (hg z hz)
      cases hd
      exact hw
    · have st := step_tab r2.sub hR tg
      have hstr : ∀ zs : List Str, AtL K R2 (zs.map V.str) (zs.map D.str) := fun zs => by
        induction zs with
        | nil => exact .nil
        | cons z r ih => exact .cons (.str z) ih
      obtain ⟨r3, v3⟩ := own_lst (r2.go st) hp (hstr _)
      exact k _ R2 _ _ r3 (s1.trans s2) v3 q2
end
/-! ### a def whose code object is known -/
structure FunC (K : PySem.W.Frag) (x qual : Str) (st : Stmt) (f : Addr) (fd : FuncData) (c : Addr) : Prop where
  ex : ∃ (o1 : Value) (o2 : Option Addr) (kV doc pm : Value) (an : Option Addr) (ct : Value) (sl : Array (Option Value)),
    fd = fnOf x qual (defArgs st) (defBody st) (defScope st) .none kV doc pm an (.ref c) ct ∧ K.lookup f = some ⟨o1, o2, .func fd, sl⟩ ∧ codeIn K (.ref c) qual = true
  kp : keepIn K (.ref f) = true
section
variable {P : Program} {w : World} {K : PySem.W.Frag} {mg : Str → Option Value} {base : Heap}
theorem FunC.ok {x qual : Str} {st : Stmt} {f c : Addr} {fd : FuncData} {N ps : List Str} {k : Nat} {sp : Sp} (F : FunC K x qual st f fd c) (S : FnScope N ps (defScope st)) (len : ∀ vs H Q E, sp vs H Q E → vs.length = ps.length)
    (body : ∀ (A : Around) (outer : List Env) (s : Shared) (H : Hp) (vs : List V) (Q : VK) (E : XK), Room k (A.deeper (envOfC qual (defScope st) s.heap.objs.size f (.ref c))) → sp vs H Q E →
      ∃ t, PSs (cxOf CX0 P w K mg base N qual (defScope st) f (.ref c) A outer s H E).nox (defBody st) t ∧ t { nx := fun _ H' => Q .non H', rt := Q } (L2.start N vs) H) : FnOk P w K mg base CX0 (k + 1) f fd ps sp := by
  obtain ⟨o1, o2, kV, doc, pm, an, ct, sl, rfl, hk, hc⟩ := F.ex
  refine fn_of hk hc S len fun A outer s H vs Q E hr hs => ?_
  obtain ⟨t, h1, h2⟩ := body A outer s H vs Q E hr hs
  exact ⟨t, h1.nox, h2⟩
structure DfnC (K : PySem.W.Frag) (mg : Str → Option Value) (x : Str) (st : Stmt) (ps : List Str) (c : Addr) : Prop where
  ex : ∃ f fd, FunC K x x st f fd c ∧ mg x = some (.ref f) ∧ Binds K fd ps []
end
theorem tab_code {K : PySem.W.Frag} {x : Str} {f c P : Addr} {o1 : Value} {o2 : Option Addr} {fd : FuncData} {sl : Array (Option Value)} (a : nsIn K mainGlobals x = some (some (.ref f))) (l : K.lookup f = some ⟨o1, o2, .func fd, sl⟩) (t : tabIn K x = some (c, P)) : fd.code = .ref c := by
  unfold tabIn at t
  rw [a] at t
  dsimp only at t
  rw [l] at t
  dsimp only at t
  split at t
  · rename_i c' hc
    split at t
    · split at t
      · cases t
        exact hc
      · cases t
    · cases t
  · cases t
theorem tab_mk {K : PySem.W.Frag} {x : Str} {f c P : Addr} {o1 o3 : Value} {o2 o4 : Option Addr} {fd : FuncData} {sl sk : Array (Option Value)} {vs : Array Value} (a : nsIn K mainGlobals x = some (some (.ref f))) (l : K.lookup f = some ⟨o1, o2, .func fd, sl⟩) (hc : fd.code = .ref c) (lc : K.lookup c = some ⟨o3, o4, .fields vs, sk⟩) (hv : vs[11]? = some (.ref P)) : tabIn K x = some (c, P) := by
  unfold tabIn
  rw [a]
  dsimp only
  rw [l]
  dsimp only
  rw [hc]
  dsimp only
  rw [lc]
  dsimp only
  rw [hv]
/-! ### the end, with a table -/
theorem walk_T {l : OpenLaw} {n k : Nat} {q : Program} {loose : List Str} {XP : (Str → Option Value) → Heap → Prop} {YP : World → Heap → Prop} {d : DefRec} {K : Params → Frag} {CX : World → CXT} {x : Str}
    (hn : l.most = some n) (hn2 : n ≤ sizeLine) (hdf : d.params.defaults = []) (hr : Room k callerA) (hY : ∀ (w : World) (h : Heap), YP w h → (K w.params).In h)
    (F : ∀ (w : World) (mg : Str → Option Value) (fa : Addr) (h : Heap), (∃ lo mean mb, Top q lo mean mg mb h) → (K w.params).In h → h.Ns mainGlobals mg → mg d.name = some (.ref fa) → LawAtS l w (K w.params) (CX w) k n x mg fa h)
    (hE : ∀ (w : World) (H : Hp) (s : Shared) (e : Value) (s' : Shared), CX w [] H s (fun _ _ _ => False) e s' → False) : WalkO q loose XP YP l.row.toRowW d [] (fun f vs => PySem.call f vs) := by
  refine Att.attach_callB hn hdf fun w s0 s1 mg mb fa o pm cd doc a vs ns gr yp ho hd hcd hm hob hin hle hbi hge => ?_
  have kin := hY w _ yp
  obtain ⟨fd, cs, sp, t1, t2, t3, t4, t5, t6⟩ := F w mg fa _ ⟨_, _, _, gr.T⟩ kin gr.T.g hm
  exact law_callTs kin gr.T.g gr.T.b gr.T.builtins gr.T.nolimit hge t1 t2 t3 gr.T.bmain hob hin (Nat.le_trans hle hn2) hr t6 t4 (fun H z1 z2 => t5 H a ns hle hbi z1 z2) (fun H e s' => hE w H s1 e s')
end VL

namespace VL
open PySem PySem.Spec PyProof.Rows L2
theorem units_lt {A : Around} {k : Nat} (hr : Room k A) : A.units < cLine := Nat.lt_of_le_of_lt (Nat.le_add_right _ 64) hr.units
/-! ### texts sorted -/
def leS (a b : Str) : Bool := !ltCps b.cps.toList a.cps.toList
theorem leS_eq (a b : Str) : leS a b = decide (a.cps.toList ≤ b.cps.toList) := by
  unfold leS
  rw [ltCps_eq, Bool.eq_iff_iff]
  simp [List.not_lt]
theorem leS_trans {a b c : Str} (h : leS a b = true) (q : leS b c = true) : leS a c = true := by
  rw [leS_eq, decide_eq_true_iff] at *
  exact List.le_trans h q
theorem leS_total (a b : Str) : (leS a b || leS b a) = true := by
  rw [leS_eq, leS_eq, Bool.or_eq_true, decide_eq_true_iff, decide_eq_true_iff]
  exact List.le_total _ _
theorem leS_antisymm {a b : Str} (h : leS a b = true) (q : leS b a = true) : a = b := by
  rw [leS_eq, decide_eq_true_iff] at h q
  have e := List.le_antisymm h q
  obtain ⟨⟨x⟩⟩ := a
  obtain ⟨⟨y⟩⟩ := b
  have e' : x = y := e
  rw [e']
def srtS (zs : List Str) : List Str := zs.mergeSort leS
theorem sorted_pw : ∀ {l : List Str}, sortedS l = true → l.Pairwise (fun a b => leS a b = true)
  | [], _ => .nil
  | x :: r, h => by
    have key : ∀ (x : Str) (r : List Str), risingS x r = true → r.Pairwise (fun a b => leS a b = true) ∧ ∀ y ∈ r, leS x y = true := by
      intro x r
      induction r generalizing x with
      | nil => exact fun _ => ⟨.nil, fun y hy => by cases hy⟩
      | cons y r ih =>
        intro h
        have h' : (leS x y && risingS y r) = true := h
        rw [Bool.and_eq_true] at h'
        obtain ⟨p, q⟩ := ih y h'.2
        refine ⟨List.pairwise_cons.mpr ⟨q, p⟩, fun z hz => ?_⟩
        rcases List.mem_cons.mp hz with rfl | hz
        · exact h'.1
        · exact leS_trans h'.1 (q z hz)
    obtain ⟨p, q⟩ := key x r h
    exact List.pairwise_cons.mpr ⟨q, p⟩
theorem srtS_uniq {ys zs : List Str} (p : ys.Perm zs) (h : ys.Pairwise fun a b => leS a b = true) : ys = srtS zs :=
  List.Perm.eq_of_pairwise (le := fun a b => leS a b = true) (fun a b _ _ h q => leS_antisymm h q) h (List.pairwise_mergeSort (le := leS) (fun a b c h q => leS_trans h q) (fun a b => leS_total a b) zs) (p.trans (List.mergeSort_perm zs leS).symm)
theorem srtS_perm {ys zs : List Str} (p : ys.Perm zs) : srtS ys = srtS zs := srtS_uniq ((List.mergeSort_perm ys leS).trans p) (List.pairwise_mergeSort (le := leS) (fun a b c h q => leS_trans h q) (fun a b => leS_total a b) ys)
section
variable {K : PySem.W.Frag} {G : Gs} {B : Bs} {env : Vn} {σ : L2.St} {R R' R1 H H' H1 : Hp} {Q : XV → Prop} {nx : Vn → Prop} {rt : XV → Prop} {bk ct : Vn → Prop} {Qe : Vn → Prop} {Qb : Bool → Prop} {Ql : List D → Prop}
theorem atl_strs : ∀ zs : List Str, AtL K R (zs.map V.str) (zs.map D.str)
  | [] => .nil
  | z :: r => .cons (.str z) (atl_strs r)
theorem vc_sortedS {x : XV} {zs : List Str} (hx : x.seqL = some (zs.map D.str)) (hl : zs.length < 64) (q : Q (.o (.lst ((srtS zs).map D.str)))) : VC K G B (rSortedS K) env [x] Q := vc1 fun σ R H r v hv Qh k => by
  obtain ⟨a, xs, rfl, h1, h2⟩ := seqL_at r hv hx
  rw [AtL.strs_inv h2] at h1
  refine ⟨a, zs, rfl, h1, hl, fun ys p hp hs hn => ?_⟩
  obtain ⟨r2, v2⟩ := own_lst r hn (atl_strs ys)
  rw [← srtS_uniq hp (sorted_pw hs)] at q
  exact k _ R _ _ r2 (Same.refl R) v2 q
theorem atl_ints : ∀ zs : List Int, AtL K R (zs.map V.int) (zs.map D.int) := AtL.ints
def srtI (zs : List Int) : List Int := zs.mergeSort fun a b => decide (a ≤ b)
theorem srtI_uniq {ys zs : List Int} (p : ys.Perm zs) (h : ys.Pairwise (· ≤ ·)) : ys = srtI zs :=
  List.Perm.eq_of_pairwise (le := fun a b => a ≤ b) (fun a b _ _ h q => Int.le_antisymm h q) h ((List.pairwise_mergeSort (le := fun a b => decide (a ≤ b)) (fun a b c h q => decide_eq_true (Int.le_trans (of_decide_eq_true h) (of_decide_eq_true q))) (fun a b => by
    rw [Bool.or_eq_true, decide_eq_true_iff, decide_eq_true_iff]
    omega) zs).imp fun h => of_decide_eq_true h) (p.trans (List.mergeSort_perm zs _).symm)
theorem vc_sortedI {x : XV} {zs : List Int} (hx : x.seqL = some (zs.map D.int)) (hl : zs.length < 64) (q : Q (.o (.lst ((srtI zs).map D.int)))) : VC K G B (rSorted K) env [x] Q := vc1 fun σ R H r v hv Qh k => by
  obtain ⟨a, xs, rfl, h1, h2⟩ := seqL_at r hv hx
  rw [AtL.ints_inv h2] at h1
  refine ⟨a, zs, rfl, h1, hl, fun ys p hp hs hn => ?_⟩
  obtain ⟨r2, v2⟩ := own_lst r hn (AtL.ints ys)
  rw [← srtI_uniq hp hs] at q
  exact k _ R _ _ r2 (Same.refl R) v2 q
/-- sorted(d), the keys texts -/
theorem AtD.keyl : ∀ {xs : List (Key × V)} {ds : List (Key × D)}, AtD K R xs ds → xs.map (·.1) = ds.map (·.1)
  | _, _, .nil => rfl
  | _, _, .cons h t => by rw [List.map_cons, List.map_cons, AtD.keyl t]
theorem vc_sortedD {x : XV} {ds : List (Key × D)} {ks : List Str} (hx : x.dctD = some ds) (hk : ds.map (·.1) = ks.map Sum.inr) (hl : ks.length < 64) (q : Q (.o (.lst ((srtS ks).map D.str)))) :
    VC K G B (fun xs H Q => ∃ (a : Addr) (kvs : List (Key × V)) (ks : List Str), xs = [.ref a] ∧ Rd H a (.dK kvs) ∧ kvs.map (·.1) = ks.map Sum.inr ∧ ks.length < 64 ∧ ∀ ys p, ys.Perm ks → sortedS ys = true → H p = none → Q (.ref p) (upd H p (.lst (ys.map V.str)))) env [x] Q := vc1 fun σ R H r v hv Qh k => by
  obtain ⟨a, xs, rfl, h1, h2⟩ := dctD_at r hv hx
  refine ⟨a, xs, ks, rfl, h1, h2.keyl.trans hk, hl, fun ys p hp hs hn => ?_⟩
  obtain ⟨r2, v2⟩ := own_lst r hn (atl_strs ys)
  rw [← srtS_uniq hp (sorted_pw hs)] at q
  exact k _ R _ _ r2 (Same.refl R) v2 q
/-- dict(d) -/
theorem vc_dictD {x : XV} {ds : List (Key × D)} (hx : x.dctD = some ds) (q : Q (.o (.dct ds))) : VC K G B (fun xs H Q => ∃ (a : Addr) (kvs : List (Key × V)), xs = [.ref a] ∧ Rd H a (.dK kvs) ∧ ∀ p, H p = none → Q (.ref p) (upd H p (.dK kvs))) env [x] Q := vc1 fun σ R H r v hv Qh k => by
  obtain ⟨a, xs, rfl, h1, h2⟩ := dctD_at r hv hx
  refine ⟨a, xs, rfl, h1, fun p hp => ?_⟩
  obtain ⟨r2, v2⟩ := own_dct r hp h2
  exact k _ R _ _ r2 (Same.refl R) v2 q
/-! ### own lists and dicts change -/
/-- xs.reverse() -/
theorem vs_reverse {i : Nat} {ds : List D} (hd : env[i]? = some (.mu (.lst ds))) (q : nx (env.set i (.mu (.lst ds.reverse)))) : VS K G B (tDrop (tBM0 K "list" rReverse (tVar i))) env nx rt bk ct := fun σ R H r Z kn _ _ _ => by
  obtain ⟨a, y, h1, h2, h3, h4, h5⟩ := r.slots i _ hd
  obtain ⟨xs, rfl⟩ : ∃ xs, y = .lst xs := by cases y <;> first | exact ⟨_, rfl⟩ | exact h5.elim
  have hrev : ∀ {vs : List V} {es : List D}, AtL K R vs es → AtL K R vs.reverse es.reverse := fun {vs es} t => by
    induction t using AtL.rec (motive_1 := fun _ _ _ => True) (motive_3 := fun _ _ _ => True) with
    | nil => exact .nil
    | cons h t _ ih =>
      rw [List.reverse_cons, List.reverse_cons]
      exact ih.app (.cons h .nil)
    | _ => trivial
  exact ⟨.ref a, h1, .inl ⟨rfl, xs, .inl (.inl h4)⟩, a, xs, rfl, rfl, h4, kn _ σ R _ (r.mut hd h1 (y := .lst xs.reverse) (d' := .lst ds.reverse) (hrev h5)) (Same.refl R) q⟩
/-- d.clear() -/
theorem vs_dclear {i : Nat} {ds : List (Key × D)} (hd : env[i]? = some (.mu (.dct ds))) (q : nx (env.set i (.mu (.dct [])))) : VS K G B (tDrop (tBM0 K "dict" rDClear (tVar i))) env nx rt bk ct := fun σ R H r Z kn _ _ _ => by
  obtain ⟨a, y, h1, h2, h3, h4, h5⟩ := r.slots i _ hd
  obtain ⟨xs, rfl⟩ : ∃ xs, y = .dK xs := by cases y <;> first | exact ⟨_, rfl⟩ | exact h5.elim
  exact ⟨.ref a, h1, .inr (.inr (.inl ⟨rfl, .inl ⟨xs, h4⟩⟩)), a, xs, rfl, rfl, h4, kn _ σ R _ (r.mut hd h1 (y := .dK []) (d' := .dct []) AtD.nil) (Same.refl R) q⟩
abbrev rInsert : V → List V → Hp → VK → Prop := fun x vs H Q => ∃ (l : Addr) (xs : List V) (i : Int) (y : V), x = .ref l ∧ vs = [.int i, y] ∧ H l = some (.lst xs) ∧ xs.length < sizeLine ∧ 0 ≤ i ∧ i < 2 ^ 63 ∧ Q .non (upd H l (.lst (xs.take i.toNat ++ [y] ++ xs.drop i.toNat)))
/-- xs.insert(e, xs.pop(f)) -/
theorem vs_insPop {i : Nat} {te tf : TE} {ds : List D} (hd : env[i]? = some (.mu (.lst ds))) (h : VE K G B te env fun x => ∃ z, x = .p (.int z) ∧ 0 ≤ z ∧ z < 2 ^ 63 ∧ VE K G B tf env fun y => ∃ (j : Nat) (d : D), y = .p (.int j) ∧ ds[j]? = some d ∧ ds.length < 100000 ∧ nx (env.set i (.mu (.lst ((ds.eraseIdx j).take z.toNat ++ [d] ++ (ds.eraseIdx j).drop z.toNat))))) :
    VS K G B (tDrop (tBM K "list" rInsert (tVar i) (tCons te (tCons (tBM K "list" rPopAt (tVar i) (tCons tf tNil)) tNil)))) env nx rt bk ct := fun σ R H r Z kn _ _ _ => by
  obtain ⟨a, y, h1, h2, h3, h4, h5⟩ := r.slots i _ hd
  obtain ⟨xs, rfl⟩ : ∃ xs, y = .lst xs := by cases y <;> first | exact ⟨_, rfl⟩ | exact h5.elim
  refine ⟨.ref a, h1, .inl ⟨rfl, xs, .inl (.inl h4)⟩, h σ R H r _ fun w R0 H0 x0 r0 s0 hw ⟨z, e, z0, z1, h'⟩ => ?_⟩
  subst e
  cases hw
  obtain ⟨b, y, f1, f2, f3, f4, f5⟩ := r0.slots i _ hd
  rw [h1] at f1
  cases f1
  obtain ⟨zs, rfl⟩ : ∃ xs, y = .lst xs := by cases y <;> first | exact ⟨_, rfl⟩ | exact f5.elim
  refine ⟨.ref a, h1, .inl ⟨rfl, zs, .inl (.inl f4)⟩, h' σ R0 H0 r0 _ fun v R1 H1 x r1 s1 hv ⟨j, d, e, hj, hl, q⟩ => ?_⟩
  subst e
  cases hv
  obtain ⟨b, y, g1, g2, g3, g4, g5⟩ := r1.slots i _ hd
  rw [h1] at g1
  cases g1
  obtain ⟨ys, rfl⟩ : ∃ xs, y = .lst xs := by cases y <;> first | exact ⟨_, rfl⟩ | exact g5.elim
  have g6 : AtL K R1 ys ds := g5
  have hlt := (List.getElem?_eq_some_iff.mp hj).1
  obtain ⟨v, hv, hd'⟩ := g6.get hj
  have hlen : (ys.eraseIdx j).length < sizeLine := Nat.lt_of_le_of_lt (List.length_eraseIdx_le ys j) (by rw [g6.len]; exact Nat.lt_of_lt_of_le hl (by decide))
  refine ⟨a, ys, j, j, v, rfl, rfl, g4, by omega, by omega, by rw [g6.len, seqIndex_of (by omega) (by omega), Int.toNat_natCast], hv, ?_⟩
  refine ⟨a, ys.eraseIdx j, z, v, rfl, rfl, upd_same, hlen, z0, z1, ?_⟩
  have g7 := g6.erase j
  have e2 : ∀ (o1 o2 : HO), upd (upd H1 a o1) a o2 = upd H1 a o2 := fun o1 o2 => by
    funext b
    by_cases hb : b = a
    · rw [hb, upd_same, upd_same]
    · rw [upd_ne hb, upd_ne hb, upd_ne hb]
  rw [e2]
  exact kn _ σ R1 _ (r1.mut hd h1 (y := .lst ((ys.eraseIdx j).take z.toNat ++ [v] ++ (ys.eraseIdx j).drop z.toNat)) (d' := .lst ((ds.eraseIdx j).take z.toNat ++ [d] ++ (ds.eraseIdx j).drop z.toNat)) (((g7.take _).app (.cons hd' .nil)).app (g7.drop _))) (s0.trans s1) q
theorem insPop_perm {α : Type} {ds : List α} {j z : Nat} {d : α} (h : ds[j]? = some d) : ((ds.eraseIdx j).take z ++ [d] ++ (ds.eraseIdx j).drop z).Perm ds := by
  have p1 : ((ds.eraseIdx j).take z ++ [d] ++ (ds.eraseIdx j).drop z).Perm (d :: ds.eraseIdx j) := by
    rw [List.append_assoc]
    have := List.perm_middle (a := d) (l₁ := (ds.eraseIdx j).take z) (l₂ := (ds.eraseIdx j).drop z)
    rw [List.take_append_drop] at this
    exact this
  refine p1.trans ?_
  clear p1
  induction ds generalizing j with
  | nil => simp at h
  | cons x r ih =>
    cases j with
    | zero =>
      simp at h
      subst h
      exact .refl _
    | succ j =>
      have h' : r[j]? = some d := by simpa using h
      exact (List.Perm.swap x d _).trans (.cons x (ih h'))
/-- xs.append(ys.pop(f)) -/
theorem vs_appPop {i k : Nat} {tf : TE} {ds es : List D} (hik : i ≠ k) (hd : env[i]? = some (.mu (.lst ds))) (he : env[k]? = some (.mu (.lst es))) (h : VE K G B tf env fun y => ∃ (j : Nat) (d : D), y = .p (.int j) ∧ es[j]? = some d ∧ ds.length < 100000 ∧ es.length < 100000 ∧ nx ((env.set k (.mu (.lst (es.eraseIdx j)))).set i (.mu (.lst (ds ++ [d]))))) :
    VS K G B (tDrop (tBM K "list" rAppend (tVar i) (tCons (tBM K "list" rPopAt (tVar k) (tCons tf tNil)) tNil))) env nx rt bk ct := fun σ R H r Z kn _ _ _ => by
  obtain ⟨a, y, h1, h2, h3, h4, h5⟩ := r.slots i _ hd
  obtain ⟨xs, rfl⟩ : ∃ xs, y = .lst xs := by cases y <;> first | exact ⟨_, rfl⟩ | exact h5.elim
  obtain ⟨c, y, c1, c2, c3, c4, c5⟩ := r.slots k _ he
  obtain ⟨us, rfl⟩ : ∃ xs, y = .lst xs := by cases y <;> first | exact ⟨_, rfl⟩ | exact c5.elim
  refine ⟨.ref a, h1, .inl ⟨rfl, xs, .inl (.inl h4)⟩, .ref c, c1, .inl ⟨rfl, us, .inl (.inl c4)⟩, h σ R H r _ fun v R1 H1 x r1 s1 hv ⟨j, d, e, hj, hl, hle, q⟩ => ?_⟩
  subst e
  cases hv
  obtain ⟨b, y, g1, g2, g3, g4, g5⟩ := r1.slots k _ he
  rw [c1] at g1
  cases g1
  obtain ⟨ys, rfl⟩ : ∃ xs, y = .lst xs := by cases y <;> first | exact ⟨_, rfl⟩ | exact g5.elim
  have g6 : AtL K R1 ys es := g5
  have hlt := (List.getElem?_eq_some_iff.mp hj).1
  obtain ⟨v, hv, hd'⟩ := g6.get hj
  refine ⟨c, ys, j, j, v, rfl, rfl, g4, by omega, by omega, by rw [g6.len, seqIndex_of (by omega) (by omega), Int.toNat_natCast], hv, ?_⟩
  have r2 := r1.mut he c1 (y := .lst (ys.eraseIdx j)) (d' := .lst (es.eraseIdx j)) (g6.erase j)
  have hd2 : (env.set k (.mu (.lst (es.eraseIdx j))))[i]? = some (.mu (.lst ds)) := by rw [List.getElem?_set_ne (Ne.symm hik)]; exact hd
  obtain ⟨b, y, f1, f2, f3, f4, f5⟩ := r2.slots i _ hd2
  rw [h1] at f1
  cases f1
  obtain ⟨zs, rfl⟩ : ∃ xs, y = .lst xs := by cases y <;> first | exact ⟨_, rfl⟩ | exact f5.elim
  refine ⟨a, zs, v, rfl, rfl, f4, by rw [AtL.len f5]; exact Nat.lt_of_lt_of_le hl (by decide), ?_⟩
  exact kn _ σ R1 _ (r2.mut hd2 h1 (y := .lst (zs ++ [v])) (d' := .lst (ds ++ [d])) (AtL.app f5 (.cons hd' .nil))) s1 q
/-! ### a list or a tuple is walked -/
def iSeq (K : PySem.W.Frag) (te : TE) : TI := fun σ H Q => iList K te σ H Q ∨ iTup K te σ H Q
theorem pi_seq {X : Cx} {tg l : Expr} {tl : TE} (hl : PE X l tl) : PI X tg l (iSeq X.K tl) := ⟨fun pins s σ H Q I h => h.elim (fun h => (pi_list hl).run pins s σ H Q I h) fun h => (pi_tup hl).run pins s σ H Q I h⟩
theorem vi_seqL {te : TE} (h : VI K G B (iList K te) env Ql) : VI K G B (iSeq K te) env Ql := fun σ R H r Qh k => .inl (h σ R H r Qh k)
theorem vi_seqT {te : TE} (h : VI K G B (iTup K te) env Ql) : VI K G B (iSeq K te) env Ql := fun σ R H r Qh k => .inr (h σ R H r Qh k)
def seqB (b : Bool) (ds : List D) : D := if b then .lst ds else .tup ds
theorem vi_seqB {te : TE} (b : Bool) (ds : List D) (h : VE K G B te env fun x => x = .p (seqB b ds) ∧ Ql ds) : VI K G B (iSeq K te) env Ql := by
  cases b with
  | true => exact vi_seqL (vi_list fun σ R H r Qh k => h σ R H r Qh fun v R' H' x r' s' hv ⟨e, q⟩ => k v R' H' x r' s' hv (by subst e; exact fz_p ⟨ds, .inl rfl, q⟩))
  | false => exact vi_seqT (vi_tup fun σ R H r Qh k => h σ R H r Qh fun v R' H' x r' s' hv ⟨e, q⟩ => k v R' H' x r' s' hv (by subst e; exact ⟨ds, rfl, q⟩))
/-- a comprehension over typed items -/
theorem ve_lcT {α β : Type} {xs : List α} {g : α → D} {h : β → D} (f : α → Option β) {wi : TI} {tg : TG} {tt : TT} {te : TE} {vs : List Nat} (hu : ∀ v ∈ vs, env[v]? = some .u) (ho : TgOnly tg vs)
    (hI : VI K G B wi env fun items => items = xs.map g ∧ xs.length < 100000 ∧
      (∀ p (i : Nat) x, xs[i]? = some x → VG K G { B with pr := p :: B.pr } tg (.p (g x)) env fun e => Agree vs env e ∧ VT K G { B with pr := p :: B.pr } tt e fun b =>
        (b = true → VE K G { B with pr := p :: B.pr } te e fun v => v.fz fun v => ∃ y, v = .p (h y) ∧ f x = some y) ∧ (b = false → f x = none)) ∧ Q (.o (.lst ((xs.filterMap f).map h)))) :
    VE K G B (tLc wi tg tt te vs) env Q := ve_lc hu ho fun σ R H r Qh k => hI σ R H r _ fun J R1 H1 items r1 s1 wk ⟨ei, hl, hs, q⟩ => k J R1 H1 items r1 s1 wk (by
  subst ei
  refine ⟨by rw [List.length_map]; exact hl, fun j acc => acc = ((xs.take j).filterMap f).map h, rfl, fun p i d acc hi e => ?_, fun acc e => ?_⟩
  · subst e
    rw [List.getElem?_map] at hi
    cases hx : xs[i]? with
    | none => rw [hx] at hi; cases hi
    | some x =>
      rw [hx] at hi
      cases hi
      have et : xs.take (i + 1) = xs.take i ++ [x] := by rw [List.take_add_one, hx]; rfl
      refine fun σ R H r v hv Qh k => hs p i x hx σ R H r v hv Qh fun e σ' R' H' r' s' ⟨ha, q⟩ => k e σ' R' H' r' s' ⟨ha, fun σ R H r Qh k => q σ R H r Qh fun b R' H' r' s' q => k b R' H' r' s' ⟨fun hb => ve_mono (q.1 hb) fun v hv => fz_mono hv fun v ⟨y, e, hf⟩ => ⟨h y, e, ?_⟩, fun hb => ?_⟩⟩
      · show _ = List.map h (List.filterMap f (xs.take (i + 1)))
        rw [et, List.filterMap_append, List.map_append]
        simp [hf]
      · show _ = List.map h (List.filterMap f (xs.take (i + 1)))
        rw [et, List.filterMap_append]
        simp [q.2 hb]
  · subst e
    rw [List.length_map, List.take_length]
    exact q)
theorem fm_some {α β : Type} (f : α → β) (xs : List α) : xs.filterMap (fun x => some (f x)) = xs.map f := by
  rw [← List.filterMap_eq_map]
  rfl
theorem all_fm_true {α : Type} (xs : List α) : (xs.filterMap fun _ => some true).all id = true := by
  rw [fm_some]
  exact List.all_eq_true.mpr fun b hb => by
    obtain ⟨_, _, rfl⟩ := List.mem_map.mp hb
    rfl
theorem ints_cmpN (ns : List Int) : D.cmpN 60 (.lst (ns.map D.int)) = true := cmpN_ints 59 ns
theorem vo_eqI {x y : XV} {ns ms : List Int} (hx : x.dat = some (.lst (ns.map D.int))) (hy : y.dat = some (.lst (ms.map D.int))) (q : Q (.p (.bl (decide (ns = ms))))) : VO K G B (rEqD K) env x y Q := vo_eqN hx hy (ints_cmpN ns) (ints_cmpN ms) (by
  show Q (.p (.bl (PyData.eqv (D.py (.lst (ns.map D.int))) (D.py (.lst (ms.map D.int))))))
  rw [ints_eq]
  exact q)
theorem vo_neI {x y : XV} {ns ms : List Int} (hx : x.dat = some (.lst (ns.map D.int))) (hy : y.dat = some (.lst (ms.map D.int))) (q : Q (.p (.bl (!decide (ns = ms))))) : VO K G B (rNeD K) env x y Q := vo_neN hx hy (ints_cmpN ns) (ints_cmpN ms) (by
  show Q (.p (.bl (!PyData.eqv (D.py (.lst (ns.map D.int))) (D.py (.lst (ms.map D.int))))))
  rw [ints_eq]
  exact q)
/-! ### xs.index(z), texts -/
theorem eqV_str (y z : Str) : eqV (.str y) (.str z) = decide (y = z) := by
  show (y == z) = _
  by_cases h : y = z
  · rw [h]; simp
  · rw [decide_eq_false h]; exact beq_eq_false_iff_ne.mpr h
theorem idx_get {zs : List Str} {z : Str} (h : z ∈ zs) : zs[zs.idxOf z]? = some z ∧ ∀ m, m < zs.idxOf z → zs[m]? ≠ some z := by
  induction zs with
  | nil => cases h
  | cons a r ih =>
    rw [List.idxOf_cons]
    by_cases e : a = z
    · subst e
      simp
    · have hb : (a == z) = false := beq_eq_false_iff_ne.mpr e
      rw [hb]
      obtain ⟨h1, h2⟩ := ih ((List.mem_cons.mp h).resolve_left fun q => e q.symm)
      refine ⟨by simpa using h1, fun m hm => ?_⟩
      cases m with
      | zero => simpa using e
      | succ m =>
        have hm' : m < r.idxOf z := by
          have : m + 1 < r.idxOf z + 1 := hm
          omega
        simpa using h2 m hm'
theorem ve_index {to tz : TE} (h : VE K G B to env fun x => x.fz fun x => ∃ zs : List Str, x.seqL = some (zs.map D.str) ∧ VE K G B tz env fun y => ∃ z : Str, y = .p (.str z) ∧ z ∈ zs ∧ Q (.p (.int (zs.idxOf z : Nat)))) : VE K G B (tBM K "list" (rIndex K) to (tCons tz tNil)) env Q := fun σ R H r Qh k =>
  h σ R H r _ fun v R1 H1 x r1 s1 hv q => by
    obtain ⟨R2, x', r2, s2, hv2, ho, zs, hx, q2⟩ := hv.fz r1 q
    obtain ⟨a, xs, rfl, h1, h2⟩ := seqL_at r2 hv2 hx
    refine ⟨.inl ⟨rfl, xs, h1⟩, q2 σ R2 H1 r2 _ fun w R3 H3 y r3 s3 hw ⟨z, e, hz, q3⟩ => ?_⟩
    subst e
    cases hw
    obtain ⟨b, ys, e, g1, g2⟩ := seqL_at r3 (VAt.go (H' := H3) hv2 ho s3) hx
    cases e
    rw [AtL.strs_inv g2] at g1
    obtain ⟨i1, i2⟩ := idx_get hz
    refine ⟨a, _, .str z, zs.idxOf z, .str z, rfl, rfl, g1, rfl, flat_strs zs, by rw [List.getElem?_map, i1]; rfl, by rw [eqV_str, decide_eq_true rfl], fun m z' hm hz' => ?_, k _ R3 H3 (.p (.int _)) r3 ((s1.trans s2).trans s3) (.int _) q3⟩
    rw [List.getElem?_map] at hz'
    cases hzm : zs[m]? with
    | none => rw [hzm] at hz'; cases hz'
    | some u =>
      rw [hzm] at hz'
      cases hz'
      rw [eqV_str]
      exact decide_eq_false fun e => i2 m hm (by rw [hzm, e])
/-! ### dicts of whole numbers compared -/
theorem atD_ints : ∀ {t : List (Str × Int)} {xs : List (Key × V)}, AtD K R xs (t.map fun p => ((.inr p.1 : Key), D.int p.2)) → xs = t.map fun p => ((.inr p.1 : Key), V.int p.2)
  | [], _, h => by cases h; rfl
  | (a, i) :: r, _, h => by
    cases h with
    | cons h t =>
      cases h
      rw [atD_ints t]
      rfl
theorem dA_self {t : List (Str × Int)} (nd : (t.map (·.1)).Nodup) : ∀ p ∈ (t.map fun p => ((.inr p.1 : Key), V.int p.2)), valV (t.map fun p => ((.inr p.1 : Key), V.int p.2)) p.1 = some p.2 ∧ flatB p.2 = true := by
  intro p hp
  obtain ⟨q, hq, rfl⟩ := List.mem_map.mp hp
  refine ⟨?_, rfl⟩
  clear hp
  induction t with
  | nil => cases hq
  | cons a r ih =>
    rw [List.map_cons, List.nodup_cons] at nd
    unfold valV at ih ⊢
    rw [List.map_cons]
    rcases List.mem_cons.mp hq with rfl | hq
    · rw [List.find?_cons_of_pos (by simp)]
      rfl
    · have hne : ¬ a.1 = q.1 := fun z => nd.1 (by rw [z]; exact List.mem_map_of_mem (f := (·.1)) hq)
      rw [List.find?_cons_of_neg (by simp [hne])]
      exact ih nd.2 hq
theorem vo_neDS {x y : XV} {t : List (Str × Int)} (nd : (t.map (·.1)).Nodup) (hx : x.exD = some (t.map fun p => ((.inr p.1 : Key), D.int p.2))) (hy : y.exD = some (t.map fun p => ((.inr p.1 : Key), D.int p.2))) (q : Q (.p (.bl false))) : VO K G B rNeDA env x y Q := fun σ R H r v w hv hw Qh k => by
  obtain ⟨a, xs, rfl, h1, h2⟩ := exD_at r hv hx
  obtain ⟨b, ys, rfl, g1, g2⟩ := exD_at r hw hy
  rw [atD_ints h2] at h1
  rw [atD_ints g2] at g1
  exact ⟨a, b, _, _, rfl, rfl, h1, g1, rfl, dA_self nd, k _ R H (.p (.bl _)) r (Same.refl R) (.bl _) q⟩
theorem vo_eqDS {x y : XV} {t : List (Str × Int)} (nd : (t.map (·.1)).Nodup) (hx : x.exD = some (t.map fun p => ((.inr p.1 : Key), D.int p.2))) (hy : y.exD = some (t.map fun p => ((.inr p.1 : Key), D.int p.2))) (q : Q (.p (.bl true))) : VO K G B rEqDA env x y Q := fun σ R H r v w hv hw Qh k => by
  obtain ⟨a, xs, rfl, h1, h2⟩ := exD_at r hv hx
  obtain ⟨b, ys, rfl, g1, g2⟩ := exD_at r hw hy
  rw [atD_ints h2] at h1
  rw [atD_ints g2] at g1
  exact ⟨a, b, _, _, rfl, rfl, h1, g1, rfl, dA_self nd, k _ R H (.p (.bl _)) r (Same.refl R) (.bl _) q⟩
/-! ### a call to which slots' objects are lent, that tells a new list -/
theorem ve_callMO {α : Type} {args : α → List D} {pre : α → Prop} {post : α → D → Prop} {rs : α → Addr → Prop} {E : XK} {X : Addr → Prop} {t : TA} (L : Lets K G B E X)
    (h : VA K G B t env fun xs => ∃ x, XV.lent xs = some (args x) ∧ pre x ∧ (∀ C, rs x C → X C) ∧ ∀ d, post x d → D.flat d = true ∧ (∃ ds, d = .lst ds) ∧ Q (.o d)) : VE K G B (tCall (SpA K G true args pre post rs) [] E t) env Q := fun σ R H rp Qh k =>
  h σ R H rp _ fun vs R1 H1 xs r1 s1 hv _ ⟨x, e, hp, hr, q⟩ => by
    rw [List.append_nil]
    have key : ∀ R' H', Step K G (lend R1 H1 env σ) H1 R' H' → Step K G R1 H1 (cutMu R' env σ) H' := fun R' H' s => {
      same := fun b x e => by
        have nb : ¬ MuAt env σ b := fun z => by
          rw [(r1.mu z).1] at e
          cases e
        rw [cut_no nb]
        exact s.same b x ((lend_no nb).trans e)
      sub := fun b x e => by
        by_cases z : MuAt env σ b
        · rw [cut_mu z] at e
          cases e
        · rw [cut_no z] at e
          exact s.sub b x e
      kept := fun b y e n => s.kept b y e fun m z => by
        by_cases w : MuAt env σ b
        · rw [lend_mu w, e] at z
          cases z
          obtain ⟨_, y', h1, h2⟩ := r1.mu w
          rw [e] at h1
          cases h1
          exact ld_mk h2
        · rw [lend_no w] at z
          exact n m z
      out := fun b y e hd n => by
        by_cases w : MuAt env σ b
        · exact cut_mu w
        · rw [cut_no w]
          exact s.out b y e hd ((lend_no w).trans n) }
    have sub : Sub K G (lend R1 H1 env σ) H1 := fun b x e => by
      by_cases w : MuAt env σ b
      · rw [lend_mu w] at e
        obtain ⟨_, y, h1, h2⟩ := r1.mu w
        rw [e] at h1
        cases h1
        exact subAt_of e (ld_mk h2)
      · rw [lend_no w] at e
        exact r1.sub b x e
    have tb : TabIn G (lend R1 H1 env σ) := TabIn.go r1.tab' fun b z e => by
      rw [lend_no]
      · exact e
      · intro w
        rw [(r1.mu w).1] at e
        cases e
    refine ⟨lend R1 H1 env σ, x, ⟨sub, tb⟩, lent_at r1 e hv, hp, fun v R' H' d s ha hf hd => ?_, fun C R' H' s hc => L C (cutMu R' env σ) H' (r1.step.trans (key R' H' s)) (hr C hc)⟩
    obtain ⟨a, rfl, hn, hz⟩ := hf rfl
    obtain ⟨fl, ⟨ds, rfl⟩, q⟩ := q d hd
    have st := key R' H' s
    have hmu : ∀ b, MuAt env σ b → ∃ y, R' b = some y ∧ isLD y = true := fun b w => by
      obtain ⟨_, y, h1, h2⟩ := r1.mu w
      exact ⟨y, s.same b y ((lend_mu w).trans h1), h2⟩
    have na : ¬ MuAt env σ a := fun w => by
      obtain ⟨_, y, h1, _⟩ := r1.mu w
      rw [hn] at h1
      cases h1
    refine k (.ref a) (without (cutMu R' env σ) a) H' (.o (.lst ds)) (r1.goW st hn) (s1.trans (r1.sameW st hn)) ?_ q
    cases ha with
    | @lst a xs _ h1 h2 =>
      have h3 : AtL K (cutMu R' env σ) xs ds := h2.imp fun v d hm => at_cut hmu 9 (List.all_eq_true.mp fl d hm)
      have hc : cutMu R' env σ a = some (.lst xs) := by rw [cut_no na]; exact h1
      exact ⟨a, _, rfl, r1.fresh hn, without_same, s.sub.of h1 rfl, AtL.without hc rfl fl h3, r1.noslot hn, r1.nopr hn⟩
/-! ### pairs of whole numbers compared -/
theorem vo_ltT {ns ms : List Int} (q : Q (.p (.bl (HT.lexLt ns ms)))) : VO K G B (rLtT K) env (.p (.tup (ns.map D.int))) (.p (.tup (ms.map D.int))) Q := fun σ R H r v w hv hw Qh k => by
  obtain ⟨a, xs, rfl, h1, _, h2⟩ := tup_at r hv
  obtain ⟨b, ys, rfl, g1, _, g2⟩ := tup_at r hw
  rw [AtL.ints_inv h2] at h1
  rw [AtL.ints_inv g2] at g1
  exact ⟨a, b, ns, ms, rfl, rfl, h1, g1, k _ R H (.p (.bl _)) r (Same.refl R) (.bl _) q⟩
end
end VL

/-! ### == of tuples, lists and dicts, nested, that are equal -/
namespace PySem.SeqAt
open AutoSeq1 (wpAny_loadPart')
open MeetsSeq MeetsSeq2 MeetsSeq3 SeqRoads2
section
variable {prog : Program} {w : World}
theorem tup_all_eq (p q : Addr) (xs ys : Array Value) (k1 k2 : Nat) (m1 m2 : Option Addr) (z1 z2 : Array (Option Value)) (hs : xs.size = ys.size) :
    MeetsIn prog w (Builtin.«tuple.__eq__» ⟨[.ref p, .ref q], []⟩) fun A R s =>
      s.heap.get? p = some { cls := .type "tuple", dict := m1, data := .seq xs k1, slots := z1 } ∧ s.heap.get? q = some { cls := .type "tuple", dict := m2, data := .seq ys k2, slots := z2 } ∧
        (∀ j (a : j < xs.size) (b : j < ys.size), EqP prog w A.in1 s xs[j] ys[j] true) ∧ R (.ok (.ret (.bool true))) s := by
  rintro A R ⟨hp, g, d, tk, os⟩ ⟨ox, oy, each, fin⟩
  have sub := AutoSeq1.sub_tuple_tuple
  have zl : (xs.toList.zip ys.toList).length = xs.size := by simp [hs]
  wp_walk using wpAny_loadPart' ox, wpAny_loadPart' oy, wpAny_forIn_list _ (fun rest b s' => b.1 = none ∧ s' = ⟨hp, g, d, tk, os⟩ ∧ ∃ i, rest = (xs.toList.zip ys.toList).drop i) _
  case turn =>
    rintro ⟨y, x⟩ rest b s' ⟨hb, rfl, i, hz⟩
    have lt : i < (xs.toList.zip ys.toList).length := by
      refine Nat.lt_of_not_le fun h' => ?_
      rw [List.drop_of_length_le h'] at hz
      cases hz
    have l1 : i < xs.size := zl ▸ lt
    have l2 : i < ys.size := hs ▸ l1
    rw [List.drop_eq_getElem_cons lt] at hz
    injection hz with e1 e2
    have ey : y = xs[i] := by simpa using congrArg Prod.fst e1
    have ex : x = ys[i] := by simpa using congrArg Prod.snd e1
    subst ey ex
    refine wpAny_bind (each i l1 l2 _ _ ?_)
    wp_walk
    exact ⟨rfl, rfl, i + 1, e2⟩
  case fin =>
    rintro ⟨b1, b2⟩ s' ⟨hb, rfl, i, hz⟩
    simp only at hb
    subst hb
    wp_walk
    simpa [Builtin.Tuple.tupleCompareSizes, hs] using fin
  case h =>
    exact ⟨rfl, rfl, 0, rfl⟩
theorem tup_all_ne (p q : Addr) (xs ys : Array Value) (k1 k2 : Nat) (m1 m2 : Option Addr) (z1 z2 : Array (Option Value)) (hs : xs.size = ys.size) :
    MeetsIn prog w (Builtin.«tuple.__ne__» ⟨[.ref p, .ref q], []⟩) fun A R s =>
      s.heap.get? p = some { cls := .type "tuple", dict := m1, data := .seq xs k1, slots := z1 } ∧ s.heap.get? q = some { cls := .type "tuple", dict := m2, data := .seq ys k2, slots := z2 } ∧
        (∀ j (a : j < xs.size) (b : j < ys.size), EqP prog w A.in1 s xs[j] ys[j] true) ∧ R (.ok (.ret (.bool false))) s := by
  rintro A R ⟨hp, g, d, tk, os⟩ ⟨ox, oy, each, fin⟩
  have sub := AutoSeq1.sub_tuple_tuple
  have zl : (xs.toList.zip ys.toList).length = xs.size := by simp [hs]
  wp_walk using wpAny_loadPart' ox, wpAny_loadPart' oy, wpAny_forIn_list _ (fun rest b s' => b.1 = none ∧ s' = ⟨hp, g, d, tk, os⟩ ∧ ∃ i, rest = (xs.toList.zip ys.toList).drop i) _
  case turn =>
    rintro ⟨y, x⟩ rest b s' ⟨hb, rfl, i, hz⟩
    have lt : i < (xs.toList.zip ys.toList).length := by
      refine Nat.lt_of_not_le fun h' => ?_
      rw [List.drop_of_length_le h'] at hz
      cases hz
    have l1 : i < xs.size := zl ▸ lt
    have l2 : i < ys.size := hs ▸ l1
    rw [List.drop_eq_getElem_cons lt] at hz
    injection hz with e1 e2
    have ey : y = xs[i] := by simpa using congrArg Prod.fst e1
    have ex : x = ys[i] := by simpa using congrArg Prod.snd e1
    subst ey ex
    refine wpAny_bind (each i l1 l2 _ _ ?_)
    wp_walk
    exact ⟨rfl, rfl, i + 1, e2⟩
  case fin =>
    rintro ⟨b1, b2⟩ s' ⟨hb, rfl, i, hz⟩
    simp only at hb
    subst hb
    wp_walk
    simpa [Builtin.Tuple.tupleCompareSizes, hs] using fin
  case h =>
    exact ⟨rfl, rfl, 0, rfl⟩
theorem rcP_tup {A : Around} {s : Shared} {p q : Addr} {xs ys : Array Value} (h1 : s.heap.IsTuple p xs) (h2 : s.heap.IsTuple q ys) (hs : xs.size = ys.size) (hu : A.units < cLine)
    (each : ∀ j (a : j < xs.size) (b : j < ys.size), EqP prog w A.in1 s xs[j] ys[j] true) (E Q : Value → Shared → Prop) (fin : Q (.bool true) s) : wpAny (model prog w) A (richCompare .Eq (.ref p) (.ref q)) Q E s := by
  obtain ⟨⟨c1, m1, d1, z1⟩, o1, e1, k1, g1⟩ := id h1
  obtain ⟨⟨c2, m2, d2, z2⟩, o2, e2, k2, g2⟩ := id h2
  simp only at e1 g1 e2 g2
  subst e1 g1 e2 g2
  have t1 : s.TypeIs (.ref p) "tuple" := ⟨_, o1, rfl⟩
  exact wpAny_richCompare_same_room (op := .Eq) t1 ⟨_, o2, rfl⟩ F.slot_tuple_eq (call_meetsIn F.slot_tuple_eq t1 F.entry_tuple_eq (F.args_tuple_eq_2 _ _) (tup_all_eq p q xs ys k1 k2 m1 m2 z1 z2 hs) ⟨o1, o2, each, show Value.bool true ≠ Value.notImplemented ∧ Q (.bool true) s from ⟨(fun x => nomatch x), fin⟩⟩) hu
theorem rcP_tupN {A : Around} {s : Shared} {p q : Addr} {xs ys : Array Value} (h1 : s.heap.IsTuple p xs) (h2 : s.heap.IsTuple q ys) (hs : xs.size = ys.size) (hu : A.units < cLine)
    (each : ∀ j (a : j < xs.size) (b : j < ys.size), EqP prog w A.in1 s xs[j] ys[j] true) (E Q : Value → Shared → Prop) (fin : Q (.bool false) s) : wpAny (model prog w) A (richCompare .NotEq (.ref p) (.ref q)) Q E s := by
  obtain ⟨⟨c1, m1, d1, z1⟩, o1, e1, k1, g1⟩ := id h1
  obtain ⟨⟨c2, m2, d2, z2⟩, o2, e2, k2, g2⟩ := id h2
  simp only at e1 g1 e2 g2
  subst e1 g1 e2 g2
  have t1 : s.TypeIs (.ref p) "tuple" := ⟨_, o1, rfl⟩
  exact wpAny_richCompare_same_room (op := .NotEq) t1 ⟨_, o2, rfl⟩ F.slot_tuple_ne (call_meetsIn F.slot_tuple_ne t1 F.entry_tuple_ne (F.args_tuple_ne_2 _ _) (tup_all_ne p q xs ys k1 k2 m1 m2 z1 z2 hs) ⟨o1, o2, each, show Value.bool false ≠ Value.notImplemented ∧ Q (.bool false) s from ⟨(fun x => nomatch x), fin⟩⟩) hu
end
end PySem.SeqAt
namespace VL
open PySem PySem.Spec PyProof.Rows L2
/-- two tuples of equal items -/
def TupR (K : PySem.W.Frag) (H : Hp) (F : V → V → Prop) (x y : V) : Prop := ∃ a b xs ys, x = .ref a ∧ y = .ref b ∧ SqT K H a xs ∧ SqT K H b ys ∧ Paired F xs ys
/-- equal, of nesting below n, tuples too -/
def EqW (K : PySem.W.Frag) (H : Hp) : Nat → V → V → Prop
  | 0 => fun _ _ => False
  | n + 1 => fun x y => (x = y ∧ flatB x = true) ∨ EqR K H (EqW K H n) x y ∨ TupR K H (EqW K H n) x y
section
variable {X : Cx} {pins : List (Addr × Obj)} {σ : L2.St} {H : Hp} {s : Shared}
theorem tupR_items (I : Inv X pins σ H s) {F : V → V → Prop} {A : Around} (ih : ∀ x y v u, F x y → RelV x v → RelV y u → SeqAt.EqP X.prog X.w A s v u true) {x y : V} {v u : Value} (h : TupR X.K H F x y) (rx : RelV x v) (ry : RelV y u) :
    ∃ a b us ws, v = .ref a ∧ u = .ref b ∧ x = .ref a ∧ y = .ref b ∧ s.heap.IsTuple a us ∧ s.heap.IsTuple b ws ∧ us.size = ws.size ∧ ∀ j (p : j < us.size) (q : j < ws.size), SeqAt.EqP X.prog X.w A s us[j] ws[j] true := by
  obtain ⟨a, b, xs, ys, rfl, rfl, ha, hb, hp⟩ := h
  cases (show v = Value.ref a from rx)
  cases (show u = Value.ref b from ry)
  obtain ⟨us, r1, p1, _⟩ := I.tuple ha
  obtain ⟨ws, r2, p2, _⟩ := I.tuple hb
  refine ⟨a, b, us.toArray, ws.toArray, rfl, rfl, rfl, rfl, p1, p2, ?_, fun j p q => ?_⟩
  · rw [List.size_toArray, List.size_toArray, ← r1.length, ← r2.length]
    exact Paired.length hp
  · have k := items_run ih hp r1 r2 j (by simpa using p) (by simpa using q)
    simpa using k
theorem eqW_run (I : Inv X pins σ H s) : ∀ (n : Nat) (A : Around), A.units + n < cLine → ∀ (x y : V) (v u : Value), EqW X.K H n x y → RelV x v → RelV y u → SeqAt.EqP X.prog X.w A s v u true
  | 0, _, _, _, _, _, _, h, _, _ => (show False from h).elim
  | n + 1, A, hu, x, y, v, u, h, rx, ry => by
    have ih := eqW_run I n A.in1 (show A.units + 1 + n < cLine by omega)
    rcases h with ⟨rfl, f⟩ | h | h
    · exact (eqAt_same rx ry f).eqP
    · have step := eqR_run I (A := A) (by omega) ih h rx ry
      obtain ⟨a, b, rfl, rfl⟩ : ∃ a b, x = .ref a ∧ y = .ref b := by
        rcases h with ⟨a, b, _, _, e1, e2, _⟩ | ⟨a, b, _, _, e1, e2, _⟩ <;> exact ⟨a, b, e1, e2⟩
      cases (show v = Value.ref a from rx)
      cases (show u = Value.ref b from ry)
      by_cases e : a = b
      · rw [e]
        exact (SeqAt.EqAt.same _).eqP
      · exact SeqAt.eqP_refs e step
    · obtain ⟨a, b, us, ws, rfl, rfl, rfl, rfl, p1, p2, hs, each⟩ := tupR_items I ih h rx ry
      by_cases e : a = b
      · rw [e]
        exact (SeqAt.EqAt.same _).eqP
      · exact SeqAt.eqP_refs e fun E Q q => SeqAt.rcP_tup p1 p2 hs (by omega) each E Q q
end
/-- two tuples, two lists or two dicts that are equal -/
def rEqW (K : PySem.W.Frag) : R2 := fun x y H Q => (EqR K H (EqW K H 60) x y ∨ TupR K H (EqW K H 60) x y) ∧ Q (.bl true) H
def rNeW (K : PySem.W.Frag) : R2 := fun x y H Q => TupR K H (EqW K H 60) x y ∧ Q (.bl false) H
section
variable {X : Cx}
theorem op_eqW (hu : X.A.units + 64 < cLine) : OpR X (compareOp .Eq) (rEqW X.K) := by
  intro pins s σ H x y v u Q I rx ry h
  obtain ⟨h, q⟩ := h
  have ih := eqW_run I 60 X.A.in1 (show X.A.units + 1 + 60 < cLine by omega)
  rcases h with h | h
  · exact eqR_run I (A := X.A) (by omega) ih h rx ry _ _ ⟨.bl true, H, I, rfl, q⟩
  · obtain ⟨a, b, us, ws, rfl, rfl, rfl, rfl, p1, p2, hs, each⟩ := tupR_items I ih h rx ry
    exact SeqAt.rcP_tup p1 p2 hs (by omega) each _ _ ⟨.bl true, H, I, rfl, q⟩
theorem op_neW (hu : X.A.units + 64 < cLine) : OpR X (compareOp .NotEq) (rNeW X.K) := by
  intro pins s σ H x y v u Q I rx ry h
  obtain ⟨h, q⟩ := h
  have ih := eqW_run I 60 X.A.in1 (show X.A.units + 1 + 60 < cLine by omega)
  obtain ⟨a, b, us, ws, rfl, rfl, rfl, rfl, p1, p2, hs, each⟩ := tupR_items I ih h rx ry
  exact SeqAt.rcP_tupN p1 p2 hs (by omega) each _ _ ⟨.bl false, H, I, rfl, q⟩
/-- two dicts of rows that are equal, by != -/
def RowsEq (K : PySem.W.Frag) (H : Hp) (ls : List (Key × V)) (p : Key × V) : Prop := ∃ (c d : Addr) (ns : List Int), p.2 = .ref c ∧ SqL K H c (ns.map V.int) ∧ valV ls p.1 = some (.ref d) ∧ SqL K H d (ns.map V.int)
def rNeDL (K : PySem.W.Frag) : R2 := fun x y H Q => ∃ a b ks ls, x = .ref a ∧ y = .ref b ∧ H a = some (.dK ks) ∧ H b = some (.dK ls) ∧ ks.length = ls.length ∧ (∀ p ∈ ks, RowsEq K H ls p) ∧ Q (.bl false) H
theorem op_neDL (hu : X.A.units + 66 < cLine) : OpR X (compareOp .NotEq) (rNeDL X.K) := by
  intro pins s σ H x y v u Q I rx ry h
  obtain ⟨a, b, ks, ls, rfl, rfl, ea, eb, hlen, hp, q⟩ := h
  cases (show v = Value.ref a from rx)
  cases (show u = Value.ref b from ry)
  obtain ⟨_, ya, va, ra, da⟩ := (show ObjOk X.prog X.w H s.heap a (.dK ks) from I.hok a _ ea)
  obtain ⟨_, yb, vb, rb, db⟩ := (show ObjOk X.prog X.w H s.heap b (.dK ls) from I.hok b _ eb)
  have hits : ∀ {ks : List (Key × V)} {va : List (Key × Value)}, KV ks va → (∀ p ∈ ks, RowsEq X.K H ls p) → PySem.W.KeqHits X.A.in1 s vb va true := by
    intro ks va ra
    unfold KV at ra
    induction ra with
    | nil => exact fun _ => .nil
    | @cons p g ps qs hd tl ih =>
      intro hp
      obtain ⟨k1, k2⟩ := hd
      obtain ⟨c, d, ns, e1, e2, e3, e4⟩ := hp p List.mem_cons_self
      have rr : RelO (some (.ref d)) (valueAt vb p.1) := by rw [← e3]; exact rb.val p.1
      obtain ⟨y, hy, ry⟩ := rr.some_of
      obtain ⟨key, v⟩ := g
      have k1' : p.1 = key := k1
      rw [k1'] at hy
      rw [e1] at k2
      cases (show v = Value.ref c from k2)
      cases (show y = Value.ref d from ry)
      obtain ⟨us, r1, p1, _⟩ := I.list e2
      obtain ⟨ws, r2, p2, _⟩ := I.list e4
      have heq := PySem.W.keq_ints (A := X.A) p1.isList r1.ints p2.isList r2.ints (show X.A.units + 1 + 64 < cLine by omega)
      rw [decide_eq_true rfl] at heq
      show PySem.W.KeqHits X.A.in1 s vb ((key, Value.ref c) :: qs) (true && true)
      exact .hit hy heq (ih fun p' hm => hp p' (List.mem_cons_of_mem _ hm))
  have hl : va.length = vb.length := by rw [← ra.length, ← rb.length]; exact hlen
  exact PySem.W.keq_ne (knd := mixKind X.prog X.w) (r := true) ya yb da db (by omega) (fun _ => hits ra hp) ⟨.bl false, H, I, by rw [hl]; simp; rfl, q⟩
end
theorem units66 {A : Around} {k : Nat} (hr : Room k A) : A.units + 66 < cLine := by
  have := hr.un
  omega
/-! ### over plain data -/
def D.eqN : Nat → D → Prop
  | 0, d => match d with
    | .non => True
    | .bl _ => True
    | .int _ => True
    | .str _ => True
    | _ => False
  | n + 1, d => match d with
    | .non => True
    | .bl _ => True
    | .int _ => True
    | .str _ => True
    | .tup ds => ∀ x ∈ ds, D.eqN n x
    | .lst ds => ∀ x ∈ ds, D.eqN n x
    | .ro ds => ∀ x ∈ ds, D.eqN n x
    | .dct kvs => (kvs.map (·.1)).Nodup ∧ ∀ p ∈ kvs, D.eqN n p.2
    | _ => False
section
variable {K : PySem.W.Frag} {G : Gs} {B : Bs} {env : Vn} {σ : L2.St} {R R' R1 H H' H1 : Hp} {Q : XV → Prop}
theorem paired_at {F : V → V → Prop} : ∀ {ds : List D} {xs ys : List V}, (∀ d ∈ ds, ∀ v w, At K R v d → At K R w d → F v w) → AtL K R xs ds → AtL K R ys ds → Paired F xs ys
  | [], _, _, _, hx, hy => by
    cases hx
    cases hy
    exact .nil
  | d :: r, _, _, h, hx, hy => by
    cases hx with
    | cons a1 t1 =>
      cases hy with
      | cons a2 t2 => exact .cons (h d List.mem_cons_self _ _ a1 a2) (paired_at (fun e he => h e (List.mem_cons_of_mem _ he)) t1 t2)
theorem atD_hit : ∀ {ds : List (Key × D)} {ys : List (Key × V)} {k : Key} {d : D}, AtD K R ys ds → (ds.map (·.1)).Nodup → (k, d) ∈ ds → ∃ w, valV ys k = some w ∧ At K R w d
  | _, _, _, _, .nil, _, h => by cases h
  | _, _, k, d, @AtD.cons _ _ k0 v vs d0 ds h t, nd, hm => by
    rw [List.map_cons, List.nodup_cons] at nd
    rcases List.mem_cons.mp hm with e | hm
    · cases e
      exact ⟨v, by unfold valV; rw [List.find?_cons_of_pos (by simp)]; rfl, h⟩
    · have hne : ¬ k0 = k := fun z => nd.1 (by rw [z]; exact List.mem_map_of_mem (f := (·.1)) hm)
      obtain ⟨w, h1, h2⟩ := atD_hit t nd.2 hm
      refine ⟨w, ?_, h2⟩
      unfold valV at h1 ⊢
      rw [List.find?_cons_of_neg (by simpa using hne)]
      exact h1
theorem atD_mem : ∀ {xs : List (Key × V)} {ds : List (Key × D)}, AtD K R xs ds → ∀ p ∈ xs, ∃ d, (p.1, d) ∈ ds ∧ At K R p.2 d
  | _, _, .nil, _, h => by cases h
  | _, _, .cons h t, p, hm => by
    rcases List.mem_cons.mp hm with rfl | hm
    · exact ⟨_, List.mem_cons_self, h⟩
    · obtain ⟨d, h1, h2⟩ := atD_mem t p hm
      exact ⟨d, List.mem_cons_of_mem _ h1, h2⟩
theorem at_eqW (s : Sub K G R H) : ∀ (n : Nat) (d : D), D.eqN n d → ∀ v w, At K R v d → At K R w d → EqW K H (n + 1) v w := by
  have flat : ∀ {m : Nat} {v w : V}, v = w → flatB v = true → EqW K H (m + 1) v w := fun e f => .inl ⟨e, f⟩
  intro n
  induction n with
  | zero =>
    intro d h v w a b
    cases d <;> first
      | exact (show False from h).elim
      | (cases a; cases b; exact flat rfl rfl)
  | succ n ih =>
    intro d h v w a b
    cases d with
    | non => cases a; cases b; exact flat rfl rfl
    | bl _ => cases a; cases b; exact flat rfl rfl
    | int _ => cases a; cases b; exact flat rfl rfl
    | str _ => cases a; cases b; exact flat rfl rfl
    | tup ds =>
      cases a with
      | tup a1 a2 =>
        cases b with
        | tup b1 b2 => exact .inr (.inr ⟨_, _, _, _, rfl, rfl, s.t a1, s.t b1, paired_at (fun d hd => ih d (h d hd)) a2 b2⟩)
    | lst ds =>
      cases a with
      | lst a1 a2 =>
        cases b with
        | lst b1 b2 => exact .inr (.inl (.inl ⟨_, _, _, _, rfl, rfl, s.l (.inl (.inl a1)), s.l (.inl (.inl b1)), paired_at (fun d hd => ih d (h d hd)) a2 b2⟩))
    | ro ds =>
      cases a with
      | ro a1 a2 =>
        cases b with
        | ro b1 b2 => exact .inr (.inl (.inl ⟨_, _, _, _, rfl, rfl, s.l a1, s.l b1, paired_at (fun d hd => ih d (h d hd)) a2 b2⟩))
    | dct kvs =>
      obtain ⟨nd, hv⟩ := h
      cases a with
      | dct a1 a2 =>
        cases b with
        | dct b1 b2 =>
          refine .inr (.inl (.inr ⟨_, _, _, _, rfl, rfl, s.of a1 rfl, s.of b1 rfl, by rw [a2.len, b2.len], fun p hp => ?_⟩))
          obtain ⟨d, h1, h2⟩ := atD_mem a2 p hp
          obtain ⟨w, h3, h4⟩ := atD_hit b2 nd h1
          exact ⟨w, h3, ih d (hv (p.1, d) h1) _ _ h2 h4⟩
    | lkd _ _ => exact (show False from h).elim
    | st => exact (show False from h).elim
    | cm => exact (show False from h).elim
    | ptr _ => exact (show False from h).elim
    | ty _ => exact (show False from h).elim
    | dtt _ => exact (show False from h).elim
    | ins _ _ _ => exact (show False from h).elim
    | key _ => exact (show False from h).elim
theorem eqW_up {n m : Nat} (hnm : n ≤ m) {x y : V} (h : EqW K H n x y) : EqW K H m x y := by
  induction n generalizing m x y with
  | zero => exact (show False from h).elim
  | succ n ih =>
    cases m with
    | zero => omega
    | succ m =>
      have up : ∀ {xs ys : List V}, Paired (EqW K H n) xs ys → Paired (EqW K H m) xs ys := fun hp => by
        induction hp with
        | nil => exact .nil
        | cons h _ k => exact .cons (ih (by omega) h) k
      rcases h with h | (⟨a, b, xs, ys, e1, e2, h1, h2, hp⟩ | ⟨a, b, ks, ls, e1, e2, h1, h2, hl, hp⟩) | ⟨a, b, xs, ys, e1, e2, h1, h2, hp⟩
      · exact .inl h
      · exact .inr (.inl (.inl ⟨a, b, xs, ys, e1, e2, h1, h2, up hp⟩))
      · exact .inr (.inl (.inr ⟨a, b, ks, ls, e1, e2, h1, h2, hl, fun p q => by
          obtain ⟨u, h5, h6⟩ := hp p q
          exact ⟨u, h5, ih (by omega) h6⟩⟩))
      · exact .inr (.inr ⟨a, b, xs, ys, e1, e2, h1, h2, up hp⟩)
theorem vo_eqWT {ds : List D} {n : Nat} (hn : n ≤ 50) (h : ∀ d ∈ ds, D.eqN n d) (q : Q (.p (.bl true))) : VO K G B (rEqW K) env (.p (.tup ds)) (.p (.tup ds)) Q := fun σ R H r v w hv hw Qh k => by
  obtain ⟨a, xs, rfl, h1, _, h2⟩ := tup_at r hv
  obtain ⟨b, ys, rfl, g1, _, g2⟩ := tup_at r hw
  exact ⟨.inr ⟨a, b, xs, ys, rfl, rfl, h1, g1, paired_at (fun d hd v w hv hw => eqW_up (by omega) (at_eqW r.sub n d (h d hd) v w hv hw)) h2 g2⟩, k _ R H (.p (.bl _)) r (Same.refl R) (.bl _) q⟩
theorem vo_neWT {ds : List D} {n : Nat} (hn : n ≤ 50) (h : ∀ d ∈ ds, D.eqN n d) (q : Q (.p (.bl false))) : VO K G B (rNeW K) env (.p (.tup ds)) (.p (.tup ds)) Q := fun σ R H r v w hv hw Qh k => by
  obtain ⟨a, xs, rfl, h1, _, h2⟩ := tup_at r hv
  obtain ⟨b, ys, rfl, g1, _, g2⟩ := tup_at r hw
  exact ⟨⟨a, b, xs, ys, rfl, rfl, h1, g1, paired_at (fun d hd v w hv hw => eqW_up (by omega) (at_eqW r.sub n d (h d hd) v w hv hw)) h2 g2⟩, k _ R H (.p (.bl _)) r (Same.refl R) (.bl _) q⟩
/-- dicts of rows, each a slot's own or plain -/
theorem vo_neDL {x y : XV} {t : List (Str × List Int)} (nd : (t.map (·.1)).Nodup) (hx : x.exD = some (t.map fun p => ((.inr p.1 : Key), D.lst (p.2.map D.int)))) (hy : y.exD = some (t.map fun p => ((.inr p.1 : Key), D.lst (p.2.map D.int)))) (q : Q (.p (.bl false))) : VO K G B (rNeDL K) env x y Q := fun σ R H r v w hv hw Qh k => by
  obtain ⟨a, xs, rfl, h1, h2⟩ := exD_at r hv hx
  obtain ⟨b, ys, rfl, g1, g2⟩ := exD_at r hw hy
  refine ⟨a, b, xs, ys, rfl, rfl, h1, g1, by rw [h2.len, g2.len], fun p hp => ?_, k _ R H (.p (.bl _)) r (Same.refl R) (.bl _) q⟩
  obtain ⟨d, m1, m2⟩ := atD_mem h2 p hp
  obtain ⟨w, m3, m4⟩ := atD_hit g2 (by rw [List.map_map]; exact (List.pairwise_map.mpr ((List.pairwise_map.mp nd).imp fun h z => h (Sum.inr.inj z)))) m1
  obtain ⟨z, _, ez⟩ := List.mem_map.mp m1
  obtain ⟨_, ez2⟩ := Prod.mk.inj ez
  subst ez2
  have hint : ∀ v, At K R v (.lst (z.2.map D.int)) → ∃ c, v = .ref c ∧ SqL K H c (z.2.map V.int) := fun v hv => by
    cases hv with
    | lst e1 e2 =>
      rw [AtL.ints_inv e2] at e1
      exact ⟨_, rfl, r.sub.l (.inl (.inl e1))⟩
  obtain ⟨c, hc1, hc2⟩ := hint _ m2
  obtain ⟨d, hd1, hd2⟩ := hint _ m4
  exact ⟨c, d, z.2, hc1, hc2, by rw [m3, hd1], hd2⟩
end
end VL

namespace VL
open PySem PySem.Spec PyProof.Rows L2
section
variable {K : PySem.W.Frag} {G : Gs} {B : Bs} {env : Vn} {σ : L2.St} {R R' R1 H H' H1 : Hp} {Q : XV → Prop} {nx : Vn → Prop} {rt : XV → Prop} {bk ct : Vn → Prop}
/-- xs += ys -/
theorem vs_augExt {i : Nat} {te : TE} {ds : List D} (hd : env[i]? = some (.mu (.lst ds))) (h : VE K G B te env fun x => x.fz fun x => ∃ es, x = .p (.lst es) ∧ ds.length + es.length ≤ 100000 ∧ nx (env.set i (.mu (.lst (ds ++ es))))) :
    VS K G B (tAug i te rExt2) env nx rt bk ct := fun σ R H r Z kn _ _ _ => by
  obtain ⟨a, y, h1, _⟩ := r.slots i _ hd
  refine ⟨.ref a, h1, h σ R H r _ fun v R1 H1 x r1 s1 hv q => ?_⟩
  obtain ⟨R2, x', r2, s2, hv2, ho, es, rfl, hl, q2⟩ := hv.fz r1 q
  obtain ⟨b, y, g1, g2, g3, g4, g5⟩ := r2.slots i _ hd
  rw [h1] at g1
  cases g1
  obtain ⟨ys, rfl⟩ : ∃ xs, y = .lst xs := by cases y <;> first | exact ⟨_, rfl⟩ | exact g5.elim
  have g6 : AtL K R2 ys ds := g5
  cases hv2 with
  | @lst c zs _ e1 e2 =>
    refine ⟨a, c, ys, zs, rfl, rfl, g4, r2.sub.of e1 rfl, by rw [g6.len, e2.len]; exact Nat.le_trans hl (by decide), ?_⟩
    dsimp only
    rw [set_same h1]
    exact kn _ σ R2 _ (r2.mut hd h1 (y := .lst (ys ++ zs)) (d' := .lst (ds ++ es)) (g6.app e2)) (s1.trans s2) q2
/-- dicts of whole numbers of the same content, in any order -/
theorem dA_perm {t u : List (Str × Int)} (nd : (t.map (·.1)).Nodup) (hp : u.Perm t) : ∀ p ∈ (u.map fun p => ((.inr p.1 : Key), V.int p.2)), valV (t.map fun p => ((.inr p.1 : Key), V.int p.2)) p.1 = some p.2 ∧ flatB p.2 = true := fun p hm => dA_self nd p ((hp.map _).mem_iff.mp hm)
theorem vo_neDP {x y : XV} {t u : List (Str × Int)} (nd : (t.map (·.1)).Nodup) (hp : u.Perm t) (hx : x.exD = some (u.map fun p => ((.inr p.1 : Key), D.int p.2))) (hy : y.exD = some (t.map fun p => ((.inr p.1 : Key), D.int p.2))) (q : Q (.p (.bl false))) : VO K G B rNeDA env x y Q := fun σ R H r v w hv hw Qh k => by
  obtain ⟨a, xs, rfl, h1, h2⟩ := exD_at r hv hx
  obtain ⟨b, ys, rfl, g1, g2⟩ := exD_at r hw hy
  rw [atD_ints h2] at h1
  rw [atD_ints g2] at g1
  exact ⟨a, b, _, _, rfl, rfl, h1, g1, by rw [List.length_map, List.length_map, hp.length_eq], dA_perm nd hp, k _ R H (.p (.bl _)) r (Same.refl R) (.bl _) q⟩
theorem vo_eqDP {x y : XV} {t u : List (Str × Int)} (nd : (t.map (·.1)).Nodup) (hp : u.Perm t) (hx : x.exD = some (u.map fun p => ((.inr p.1 : Key), D.int p.2))) (hy : y.exD = some (t.map fun p => ((.inr p.1 : Key), D.int p.2))) (q : Q (.p (.bl true))) : VO K G B rEqDA env x y Q := fun σ R H r v w hv hw Qh k => by
  obtain ⟨a, xs, rfl, h1, h2⟩ := exD_at r hv hx
  obtain ⟨b, ys, rfl, g1, g2⟩ := exD_at r hw hy
  rw [atD_ints h2] at h1
  rw [atD_ints g2] at g1
  exact ⟨a, b, _, _, rfl, rfl, h1, g1, by rw [List.length_map, List.length_map, hp.length_eq], dA_perm nd hp, k _ R H (.p (.bl _)) r (Same.refl R) (.bl _) q⟩
/-- (z, d) == (z, e), dicts of the same content in any order -/
theorem vo_eqWP {z : Str} {t u : List (Key × D)} {n : Nat} (hn : n ≤ 40) (nd : (t.map (·.1)).Nodup) (hp : u.Perm t) (he : ∀ p ∈ t, D.eqN n p.2) (q : Q (.p (.bl true))) : VO K G B (rEqW K) env (.p (.tup [.str z, .dct u])) (.p (.tup [.str z, .dct t])) Q := fun σ R H r v w hv hw Qh k => by
  obtain ⟨a, xs, rfl, h1, _, h2⟩ := tup_at r hv
  obtain ⟨b, ys, rfl, g1, _, g2⟩ := tup_at r hw
  refine ⟨.inr ⟨a, b, xs, ys, rfl, rfl, h1, g1, ?_⟩, k _ R H (.p (.bl _)) r (Same.refl R) (.bl _) q⟩
  cases h2 with
  | cons c1 h2 =>
  cases h2 with
  | cons c2 h2 =>
  cases h2
  cases g2 with
  | cons d1 g2 =>
  cases g2 with
  | cons d2 g2 =>
  cases g2
  cases c1
  cases d1
  refine .cons (.inl ⟨rfl, rfl⟩) (.cons ?_ .nil)
  cases c2 with
  | dct a1 a2 =>
  cases d2 with
  | dct b1 b2 =>
  refine .inr (.inl (.inr ⟨_, _, _, _, rfl, rfl, r.sub.of a1 rfl, r.sub.of b1 rfl, by rw [a2.len, b2.len, hp.length_eq], fun p hpm => ?_⟩))
  obtain ⟨d, e1, e2⟩ := atD_mem a2 p hpm
  have hm := hp.mem_iff.mp e1
  obtain ⟨w, e3, e4⟩ := atD_hit b2 nd hm
  exact ⟨w, e3, eqW_up (m := 59) (show n + 1 ≤ 59 by omega) (at_eqW r.sub n d (he _ hm) _ _ e2 e4)⟩
end
end VL

namespace VL
open PySem PySem.Spec PyProof.Rows L2
section
variable {K : PySem.W.Frag} {G : Gs} {B : Bs} {env : Vn} {σ : L2.St} {R R' R1 H H' H1 : Hp} {Q : XV → Prop} {nx : Vn → Prop} {rt : XV → Prop} {bk ct : Vn → Prop}
/-! ### new lists are marked: drawn from, or what is on the way -/
theorem ve_st {te : TE} (h : VE K G B te env fun x => ∃ ns : List Int, x = .o (.lst (ns.map D.int)) ∧ G.good ns ∧ Q (.p .st)) : VE K G B te env Q := fun σ R H r Qh k =>
  h σ R H r Qh fun v R1 H1 x r1 s1 hv ⟨ns, e, g, q⟩ => by
    subst e
    obtain ⟨a, y, rfl, h0, hn, hy, hm, hs, hp⟩ := hv
    obtain ⟨xs, rfl⟩ : ∃ xs, y = .lst xs := by cases y <;> first | exact ⟨_, rfl⟩ | exact hm.elim
    have ex : xs = ns.map V.int := AtL.ints_inv hm
    subst ex
    exact k _ _ H1 (.p .st) (r1.put (o := .ext fun _ => False) ⟨ns, hy, g⟩ h0 hn hs hp) (s1.trans (same_take hn)) (.st upd_same) q
abbrev prD (p : Int × Int) : D := .tup [.int p.1, .int p.2]
theorem pr_at {v : V} {i j : Int} (h : At K R v (.tup [.int i, .int j])) : ∃ a, v = .ref a ∧ SqT K R a [.int i, .int j] := by
  cases h with
  | @tup a xs _ h1 h2 =>
  cases h2 with
  | cons c1 h2 =>
  cases h2 with
  | cons c2 h2 =>
  cases h2
  cases c1
  cases c2
  exact ⟨a, rfl, h1⟩
theorem prs_of (s : Sub K G R H) : ∀ {xs : List V} {ps : List (Int × Int)}, AtL K R xs (ps.map prD) → PrsAt K H xs ps
  | _, [], h => by cases h; exact .nil
  | _, p :: r, h => by
    cases h with
    | cons h t =>
      obtain ⟨a, rfl, h1⟩ := pr_at h
      exact .cons (s.t h1) (prs_of s t)
theorem ve_cm {te : TE} (h : VE K G B te env fun x => ∃ ps, x = .o (.lst (ps.map prD)) ∧ GoodP ps ∧ Q (.p .cm)) : VE K G B te env Q := fun σ R H r Qh k =>
  h σ R H r Qh fun v R1 H1 x r1 s1 hv ⟨ps, e, g, q⟩ => by
    subst e
    obtain ⟨a, y, rfl, h0, hn, hy, hm, hs, hp⟩ := hv
    obtain ⟨xs, rfl⟩ : ∃ xs, y = .lst xs := by cases y <;> first | exact ⟨_, rfl⟩ | exact hm.elim
    exact k _ _ H1 (.p .cm) (r1.put (o := .rng 0 0) ⟨xs, ps, hy, prs_of r1.sub hm, g⟩ h0 hn hs hp) (s1.trans (same_take hn)) (.cm upd_same) q
theorem cm_at {v : V} (h : At K R v .cm) : ∃ a i j, v = .ref a ∧ R a = some (.rng i j) := by
  cases h with
  | @cm a i j h => exact ⟨a, i, j, rfl, h⟩
/-- an object that never changes is learned of -/
theorem Rep.learn (r : Rep K G B env σ R H) {a : Addr} {o : HO} (h : H a = some o) (hx : isMk o = false) (ho : hard o = true) (hn : R a = none) : Rep K G B env σ (upd R a o) H where
  sub0 := r.sub0
  tab := r.tab
  step := {
    same := r.step.same.trans (same_take hn)
    sub := sub_put r.sub (subAt_of h hx)
    kept := r.step.kept
    out := fun b y e hd n => by
      have hb : b ≠ a := fun z => by
        subst z
        have := r.step.kept _ _ e (no_mk n)
        rw [h] at this
        cases this
        rw [ho] at hd
        cases hd
      rw [upd_ne hb]
      exact r.step.out b y e hd n }
  len := r.len
  dist := r.dist
  pr := fun q hq => by
    obtain ⟨h1, h2, h3, h4⟩ := r.pr q hq
    have hb : q.1 ≠ a := fun z => by
      rw [z, h] at h3
      have e := Option.some.inj h3
      have := hard_ld h4.1
      rw [← e, ho] at this
      cases this
    exact ⟨h1, by rw [upd_ne hb]; exact h2, h3, h4⟩
  slots := fun i sl q => by
    have hld : ∀ {b : Addr} {y : HO}, H b = some y → isLD y = true → b ≠ a := fun e l z => by
      rw [z, h] at e
      have e := Option.some.inj e
      have := hard_ld l
      rw [← e, ho] at this
      cases this
    have := r.slots i sl q
    cases sl with
    | u => trivial
    | p d =>
      obtain ⟨v, h1, h2⟩ := this
      exact ⟨v, h1, h2.same (same_take hn)⟩
    | mu d =>
      obtain ⟨b, y, h1, h2, h3, h4, h5⟩ := this
      exact ⟨b, y, h1, h2, by rw [upd_ne (hld h4 (mat_ld h5))]; exact h3, h4, h5.same (same_take hn)⟩
    | hp gs =>
      refine fun g hg => ?_
      obtain ⟨h2, h3, y, h4, h5⟩ := this g hg
      exact ⟨h2, by rw [upd_ne (hld h4 (mat_ld h5))]; exact h3, y, h4, h5.same (same_take hn)⟩
theorem Rep.knownH (r : Rep K G B env σ R H) {a : Addr} {o : HO} (h : H a = some o) (ho : hard o = true) {x : HO} (e : R a = some x) : isMk x = false ∧ x = o := by
  have q := r.sub a x e
  cases x with
  | ext φ => obtain ⟨ns, q, _⟩ := q; rw [h] at q; cases q; cases ho
  | tbl ps => obtain ⟨qs, q, _⟩ := q; rw [h] at q; cases q; cases ho
  | rng i j => obtain ⟨xs, ps, q, _⟩ := q; rw [h] at q; cases q; cases ho
  | _ =>
    have q : H a = some _ := q
    rw [h] at q
    exact ⟨rfl, (Option.some.inj q).symm⟩
theorem Rep.learnT (r : Rep K G B env σ R H) {a : Addr} {xs : List V} (h : SqT K H a xs) : ∃ R', Rep K G B env σ R' H ∧ Same R R' ∧ SqT K R' a xs := by
  have one : ∀ o, H a = some o → isMk o = false → hard o = true → ∃ R', Rep K G B env σ R' H ∧ Same R R' ∧ R' a = some o := fun o e hx ho => by
    cases q : R a with
    | none => exact ⟨_, r.learn e hx ho q, same_take q, upd_same⟩
    | some x =>
      obtain ⟨_, rfl⟩ := r.knownH e ho q
      exact ⟨R, r, Same.refl R, q⟩
  rcases h with (h | ⟨o, h⟩) | h
  · obtain ⟨R', r', s', e⟩ := one _ h rfl rfl
    exact ⟨R', r', s', .inl (.inl e)⟩
  · obtain ⟨R', r', s', e⟩ := one _ h rfl rfl
    exact ⟨R', r', s', .inl (.inr ⟨o, e⟩)⟩
  · exact ⟨R, r, Same.refl R, .inr h⟩
theorem Rep.learnP {xs : List V} {ps : List (Int × Int)} (h : PrsAt K H xs ps) : ∀ {R : Hp}, Rep K G B env σ R H → ∃ R', Rep K G B env σ R' H ∧ Same R R' ∧ AtL K R' xs (ps.map prD) := by
  induction h with
  | nil => exact fun r => ⟨_, r, Same.refl _, .nil⟩
  | cons h _ ih =>
    intro R r
    obtain ⟨R1, r1, s1, h1⟩ := r.learnT h
    obtain ⟨R2, r2, s2, h2⟩ := ih r1
    exact ⟨R2, r2, s1.trans s2, .cons (.tup (same_t s2 h1) (.cons (.int _) (.cons (.int _) .nil))) h2⟩
/-- tuple(what is on the way) -/
theorem vc_tupCm (q : ∀ ps, GoodP ps → Q (.p (.tup (ps.map prD)))) : VC K G B (fun xs H Q => ∃ p ys, xs = [.ref p] ∧ ((SqL K H p ys ∧ ∀ l, H l = none → Q (.ref l) (upd H l (.tup ys))) ∨ (SqT K H p ys ∧ Q (.ref p) H))) env [.p .cm] Q := vc1 fun σ R H r v hv Qh k => by
  obtain ⟨a, i, j, rfl, e⟩ := cm_at hv
  obtain ⟨xs, ps, h1, h2, g⟩ := r.sub a _ e
  refine ⟨a, xs, rfl, .inl ⟨.inl (.inl h1), fun l hl => ?_⟩⟩
  obtain ⟨R1, r1, s1, h3⟩ := Rep.learnP h2 r
  have hn := r1.sub.none hl
  exact k _ _ _ (.p (.tup _)) (r1.newP hl rfl) (s1.trans (same_take hn)) (.tup (.inl (.inl upd_same)) (h3.same (same_take hn))) (q ps g)
/-- what is on the way, has one more -/
theorem step_cm (s : Sub K G R H) {a : Addr} {i j : Int} (ha : R a = some (.rng i j)) {xs : List V} {ps : List (Int × Int)} (hp : PrsAt K H xs ps) (g : GoodP ps) : Step K G R H R (upd H a (.lst xs)) := by
  obtain ⟨ys, qs, q, _, _⟩ := s a _ ha
  exact {
    same := Same.refl R
    sub := fun b x e => by
      by_cases hb : b = a
      · subst hb
        rw [ha] at e
        cases e
        exact ⟨xs, ps, upd_same, hp.hard (hard_own q rfl), g⟩
      · exact subAt_go (s b x e) (upd_ne hb) (hard_own q rfl)
    kept := fun b y e hx => by
      have hb : b ≠ a := fun z => by
        subst z
        have := hx _ ha
        cases this
      rw [upd_ne hb]
      exact e
    out := fun _ _ _ _ n => n }
theorem PrsAt.app : ∀ {xs ys : List V} {ps qs : List (Int × Int)}, PrsAt K H xs ps → PrsAt K H ys qs → PrsAt K H (xs ++ ys) (ps ++ qs)
  | _, _, _, _, .nil, t => t
  | _, _, _, _, .cons h s, t => .cons h (PrsAt.app s t)
theorem PrsAt.len : ∀ {xs : List V} {ps : List (Int × Int)}, PrsAt K H xs ps → xs.length = ps.length
  | _, _, .nil => rfl
  | _, _, .cons _ t => congrArg (· + 1) (PrsAt.len t)
end
end VL

/-! ### list(reversed(a list)) -/
namespace VL
open PySem PySem.Spec PyProof.Rows L2
section
variable {prog : Program} {w : World} {A : Around} {E : Value → Shared → Prop} {s : Shared}
theorem extend_rev {R : PySem.Result → Shared → Prop} {it l : Addr} {items : Array Value} (hh : A.handled = none) (hit : s.heap.IsRevIter it l ((items.size : Int) - 1)) (hl : s.heap.IsList l items) (hne : l ≠ it) (hn : items.size ≤ sizeLine)
    (S : Addr) (hSi : S ≠ it) (hSl : S ≠ l) (res : Value) (c₀ : Nat) (hS : s.heap.get? S = some { cls := .type "list", data := .seq #[] c₀ })
    (hR : ∀ (h' : Heap) (tk : Nat) (acc : Array Value) (c : Nat), (∀ b o, b ≠ S → b ≠ it → s.heap.get? b = some o → h'.get? b = some o) → h'.get? S = some { cls := .type "list", dict := none, data := .seq acc c, slots := #[] } →
      ItemsOf (fun i v => items[items.size - 1 - i]? = some v) acc items.size → R (.ok (.ret res)) { s with heap := h', toks := tk }) :
    wpAny (model prog w) A.in1 (Builtin.List.listExtendWith (.ref S) (.ref it) res)
      (fun fin s' => match fin with | .done f => R (.ok f) s' | .again c' => c'.quiet = true ∧ codeAny (model prog w) A c' R s') (fun e s' => R (.error e) s') s := by
  have W := (Walks.listRev (prog := prog) (w := w) (A := A.in1) hh it l hne items).toS
  have hSf : S ∉ [it, l] := by simp only [List.mem_cons, List.not_mem_nil, or_false, not_or]; exact ⟨hSi, hSl⟩
  have hT : s.TypeIs (.ref it) "list_reverseiterator" := hit.typeIs
  have h1 : Builtin.List.listSameRef (.ref S) (.ref it) = false := by simp [Builtin.List.listSameRef, hSi]
  unfold Builtin.List.listExtendWith
  refine wpAny_bind (wpAny_typeOf hT ?_)
  rw [if_neg (by rw [h1]; decide)]
  refine wpAny_bind (wpAny_pyIter_revIter hit ?_)
  refine wpAny_bind (wpAny_holding ?_)
  unfold Builtin.List.listLengthHint
  refine wpAny_bind (wpAny_specialOf hT RT.nolen_lri ?_)
  show wpAny _ A.in1 (specialOf (Value.ref it) (Str.ofString "__length_hint__") >>= _) _ _ _
  refine wpAny_bind (wpAny_specialOf hT RT.hint_lri ?_)
  generalize hid : ("list_reverseiterator.__length_hint__" : String) = id0
  wp_delta
  rw [show splitId id0 = some ("list_reverseiterator", "__length_hint__") from by subst hid; decide +kernel]
  subst hid
  refine wpAny_bind (wpAny_isInstance (b := true) hT (by rw [isSubtype_type]; kernel_rfl) ?_)
  refine wpAny_pure ?_
  rw [if_neg (by decide)]
  have e0 : ((items.size : Nat) : Int) - 1 - ((0 : Nat) : Int) = (items.size : Int) - 1 := by omega
  refine wpAny_pure ⟨plainId_quiet PySem.F.plain_extend_loop _, codeAny_extend_loopS W hn _ hSf _ items.size 0 _ _ _ rfl (Nat.zero_le _) ⟨Nat.zero_le _, by rw [e0]; exact hit, hl⟩ hS (ItemsOf.nil _) fun s' acc' c' hm hS' hacc => ?_⟩
  rw [Moved.eq_with hm]
  refine hR s'.heap s'.toks acc' c' (fun b o hb hb2 e => hm.heap b o (fun hmem => ?_) e) hS' hacc
  rcases List.mem_cons.mp hmem with e' | hmem
  · exact hb e'
  · exact hb2 (List.mem_singleton.mp hmem)
theorem call_list_rev {it l : Addr} {items : Array Value} {Q : Value → Shared → Prop} (hh : A.handled = none) (hit : s.heap.IsRevIter it l ((items.size : Int) - 1)) (hl : s.heap.IsList l items) (hne : l ≠ it) (hn : items.size ≤ sizeLine)
    (hQ : ∀ (h' : Heap) (tk : Nat) (acc : Array Value) (c : Nat), (∀ b o, b ≠ it → s.heap.get? b = some o → h'.get? b = some o) → h'.get? s.heap.objs.size = some { cls := .type "list", dict := none, data := .seq acc c, slots := #[] } →
      ItemsOf (fun i v => items[items.size - 1 - i]? = some v) acc items.size → Q (.ref s.heap.objs.size) { s with heap := h', toks := tk }) :
    wpAny (model prog w) A (call (.type "list") [.ref it]) Q E s := by
  obtain ⟨oi, hoi, _⟩ := id hit
  obtain ⟨ol, hol, _⟩ := id hl
  have hSi : s.heap.objs.size ≠ it := Nat.ne_of_gt (Heap.lt_size hoi)
  have hSl : s.heap.objs.size ≠ l := Nat.ne_of_gt (Heap.lt_size hol)
  refine callType_codes (Q₁ := fun obj s₁ => obj = .ref s.heap.objs.size ∧ s₁ = { s with heap := s.heap.push { cls := .type "list", data := .seq #[] } }) PySem.F.called_list (PySem.F.typeCall_list_1 _) PySem.F.entry_list_init
    (code_list_new _ ⟨rfl, rfl⟩) fun obj s₁ h₁ => ?_
  obtain ⟨rfl, rfl⟩ := h₁
  have hS : (s.heap.push { cls := .type "list", data := .seq #[] }).get? s.heap.objs.size = some { cls := .type "list", data := .seq #[] } := Heap.get?_push_size _ rfl
  refine ⟨⟨_, hS, rfl⟩, PySem.F.args_list_init_2 _ _, ?_⟩
  show wpAny _ _ (do let old ← Builtin.List.listItems (.ref s.heap.objs.size); Builtin.List.listUpdate (.ref s.heap.objs.size) (fun _ => #[]); letGo old.toList.reverse; Builtin.List.listExtendWith (.ref s.heap.objs.size) (.ref it) .none) _ _ _
  refine wpAny_bind ?_
  unfold Builtin.List.listItems
  refine wpAny_bind (wpAny_seqItems hS rfl (wpAny_pure ?_))
  show wpAny _ _ (updateSeq s.heap.objs.size (fun _ => #[]) >>= fun _ => letGo (#[] : Array Value).toList.reverse >>= fun _ => Builtin.List.listExtendWith (.ref s.heap.objs.size) (.ref it) .none) _ _ _
  refine wpAny_bind (wpAny_updateSeq hS rfl ?_)
  have hS₂ := Heap.get?_update_self (Obj.mapSeq (fun _ => (#[] : Array Value))) hS rfl
  have oth : ∀ b o, b ≠ s.heap.objs.size → s.heap.get? b = some o → ((s.heap.push { cls := .type "list", data := .seq #[] }).update s.heap.objs.size (Obj.mapSeq (fun _ => (#[] : Array Value)))).get? b = some o :=
    fun b o hb e => (Heap.get?_update_other _ _ (Ne.symm hb)).trans (Heap.get?_push_of_some _ e)
  refine wpAny_bind (wpAny_letGo ?_)
  refine extend_rev (A := A.in1) hh (hit.at fun o e => oth it o hSi.symm e) (by obtain ⟨o, e, z⟩ := id hl; exact ⟨o, oth l o hSl.symm e, z⟩) hne hn s.heap.objs.size hSi hSl .none _ hS₂ fun h' tk acc c hk hS' hacc => ?_
  exact ⟨rfl, hQ h' tk acc c (fun b o hb e => hk b o (Nat.ne_of_lt (Heap.lt_size e)) hb (oth b o (Nat.ne_of_lt (Heap.lt_size e)) e)) hS' hacc⟩
end
def tLstRev (K : PySem.W.Frag) (te : TE) : TE := fun σ H Q => te σ H fun v H1 => ∃ (a : Addr) (xs : List V), v = .ref a ∧ SqL K H1 a xs ∧ ∀ q, H1 q = none → Q (.ref q) (upd H1 q (.lst xs.reverse))
section
variable {X : Cx}
theorem pe_lstRev {e : Expr} {te : TE} {p p2 pos pos2 : Pos} (hc : X.calm = true) (hg : Gl X "list") (hm : X.mg "list" = none) (hg2 : Gl X "reversed") (hm2 : X.mg "reversed" = none) (he : PE X e te)
    (hs : starEach [e] X.env = (false, eval e X.env) :: starEach [] X.env := by rfl)
    (hs2 : starEach [.Call (.Name "reversed" p2) [e] [] pos2] X.env = (false, eval (.Call (.Name "reversed" p2) [e] [] pos2) X.env) :: starEach [] X.env := by rfl) :
    PE X (.Call (.Name "list" p) [.Call (.Name "reversed" p2) [e] [] pos2] [] pos) (tLstRev X.K te) := by
  refine ⟨fun pins s σ H Q I h => ?_⟩
  refine Call_ (ld_blt I hg hm (show bootBuiltins "list" = some (.type "list") by decide +kernel) (PyProof.Rows.callWith_type1 (args_cons (Call_ (ld_blt I hg2 hm2 PyProof.Rows.boot_reversed (PyProof.Rows.callWith_type1 (args_cons (thn (he.run pins s σ H _ I h) fun u s1 ⟨v, H1, I1, r1, q1⟩ => args_nil ?_) hs) hs rfl))) hs2) hs2 rfl))
  obtain ⟨a, xs, ev, hq, q⟩ := q1
  subst ev
  obtain rfl : u = Value.ref a := r1
  obtain ⟨its, rv, p', hz⟩ := I1.list hq
  refine call_reversed_list p'.isList (args_nil ?_)
  have k0 : ∀ b o, s1.heap.get? b = some o → (s1.heap.push (revObj a ((its.toArray.size : Int) - 1))).get? b = some o := fun b o e => Heap.get?_push_of_some _ e
  have I2 : Inv X pins σ H1 { s1 with heap := s1.heap.push (revObj a ((its.toArray.size : Int) - 1)) } := I1.kept (t' := s1.toks) k0
  obtain ⟨f0, f1, f2, f3, f4, f5⟩ := I1.fpOk (H' := H1) (b := s1.heap.objs.size) (Nat.le_refl _) (I1.hok.fresh (Nat.le_refl _))
  have hl := p'.isList
  obtain ⟨ol, hol, _⟩ := id hl
  have hne : a ≠ s1.heap.objs.size := Nat.ne_of_lt (Heap.lt_size hol)
  have hn : its.toArray.size ≤ sizeLine := by rw [List.size_toArray, ← rv.length]; exact hz
  have hsz : (s1.heap.push (revObj a ((its.toArray.size : Int) - 1))).objs.size = s1.heap.objs.size + 1 := by simp [Heap.push]
  refine call_list_rev (s := { s1 with heap := s1.heap.push (revObj a ((its.toArray.size : Int) - 1)) }) (I1.ok.hd hc) ⟨_, Heap.get?_push_size _ rfl, rfl, rfl⟩ (hl.push _) hne hn fun h' tk acc c hk hS hi => ?_
  have hlt : s1.heap.objs.size < (s1.heap.push (revObj a ((its.toArray.size : Int) - 1))).objs.size := by rw [hsz]; exact Nat.lt_succ_self _
  have hT : (s1.heap.push (revObj a ((its.toArray.size : Int) - 1))).objs.size ≤ (s1.heap.push (revObj a ((its.toArray.size : Int) - 1))).objs.size := Nat.le_refl _
  have I3 := I2.turnedNew (t' := tk) (ch := [s1.heap.objs.size]) (T := (s1.heap.push (revObj a ((its.toArray.size : Int) - 1))).objs.size) (ob := .lst xs.reverse) (fun b o hb e => hk b o (fun z => hb (by rw [z]; exact List.mem_singleton.mpr rfl)) e)
    (fun b hb => by
      rw [List.mem_singleton.mp hb]
      exact ⟨f0, f1, f2, f3, f4, f5⟩) hT (show ObjOk X.prog X.w _ h' _ (.lst xs.reverse) from ⟨by rw [List.length_reverse]; exact hz, acc.toList, c, RT.vals_rev rv hi, by rw [hS]⟩)
  exact ⟨.ref _, _, I3, rfl, q _ (I2.hok.fresh hT)⟩
end
section
variable {K : PySem.W.Frag} {G : Gs} {B : Bs} {env : Vn} {σ : L2.St} {R R' R1 H H' H1 : Hp} {Q : XV → Prop} {nx : Vn → Prop} {rt : XV → Prop} {bk ct : Vn → Prop}
theorem AtL.rev : ∀ {vs : List V} {ds : List D}, AtL K R vs ds → AtL K R vs.reverse ds.reverse
  | _, _, .nil => .nil
  | _, _, .cons h t => by
    rw [List.reverse_cons, List.reverse_cons]
    exact (AtL.rev t).app (.cons h .nil)
/-- list(reversed(x)) -/
theorem ve_lstRev {te : TE} (h : VE K G B te env fun x => x.fz fun x => ∃ ds, x.seqL = some ds ∧ Q (.o (.lst ds.reverse))) : VE K G B (tLstRev K te) env Q := fun σ R H r Qh k =>
  h σ R H r _ fun v R1 H1 x r1 s1 hv q => by
    obtain ⟨R2, x', r2, s2, hv2, ho, ds, hx, q2⟩ := hv.fz r1 q
    obtain ⟨a, xs, rfl, h1, h2⟩ := seqL_at r2 hv2 hx
    refine ⟨a, xs, rfl, h1, fun p hp => ?_⟩
    obtain ⟨r3, v3⟩ := own_lst r2 hp h2.rev
    exact k _ R2 _ _ r3 (s1.trans s2) v3 q2
end
end VL

namespace VL
open PySem PySem.Spec PyProof.Rows L2
section
variable {K : PySem.W.Frag} {G : Gs} {B : Bs} {env : Vn} {σ : L2.St} {R R' R1 H H' H1 : Hp} {Q : XV → Prop} {nx : Vn → Prop} {rt : XV → Prop} {bk ct : Vn → Prop}
theorem vo_catE {x y : XV} {ds es fs : List D} (hx : x.exL = some ds) (hy : y.exL = some es) (e : ds ++ es = fs) (hl : fs.length ≤ 100000) (q : Q (.o (.lst fs))) : VO K G B rCat env x y Q := vo_cat hx hy (by rw [← List.length_append, e]; exact hl) (by rw [e]; exact q)
/-- a new empty list for what is on the way -/
theorem ve_cmE (q : Q (.p .cm)) : VE K G B (tLst tNil) env Q := ve_cm (ve_lst (va_nil ⟨[], rfl, Nat.zero_le _, [], rfl, ⟨Nat.zero_le _, fun p hp => (by cases hp)⟩, q⟩))
/-- if len(row[5]) < 12: row[5].append(pair) -/
theorem vs_cmAdd {i j : Nat} {row : List D} {a b : Int} (hi : env[i]? = some (.p (.lst row))) (h5 : row[5]? = some .cm) (hj : env[j]? = some (.p (.tup [.int a, .int b]))) (hab : (0 ≤ a ∧ a ≤ 400) ∧ (0 ≤ b ∧ b < 10 ^ 42)) (q : nx env) :
    VS K G B (tIfS (tTest (tOp (rI0 fun i j => V.bl (decide (i < j))) (tCB (fun xs H Q => ∃ p ys, xs = [V.ref p] ∧ (SqL K H p ys ∨ SqT K H p ys) ∧ Q (V.int ys.length) H) (tCons (tOp (rIxL K) (tVar i) (tC (V.int 5))) tNil)) (tC (V.int 12))))
      (tDrop (tBM K "list" rAppend (tOp (rIxL K) (tVar i) (tC (V.int 5))) (tCons (tVar j) tNil))) tNext) env nx rt bk ct := fun σ R H r Z kn kr kb kc => by
  obtain ⟨v, h1, h2⟩ := r.slots i _ hi
  obtain ⟨w, g1, g2⟩ := r.slots j _ hj
  obtain ⟨t, rfl, g3⟩ := pr_at g2
  cases h2 with
  | @lst c xs _ e1 e2 =>
  obtain ⟨u, e3, e4⟩ := e2.get h5
  obtain ⟨p, i', j', rfl, e5⟩ := cm_at e4
  obtain ⟨ys, ps, f1, f2, f3⟩ := r.sub p _ e5
  have hL : SqL K H c xs := .inl (.inl (r.sub.of e1 rfl))
  have hP : SqL K H p ys := .inl (.inl f1)
  have at5 : atI xs 5 = some (.ref p) := atI_nat (j := 5) e3
  refine ⟨.ref c, h1, c, xs, 5, .ref p, rfl, rfl, hL, at5, p, ys, rfl, .inl hP, _, _, rfl, rfl, _, rfl, ite2 (fun hc => ?_) (fun hc => ?_)⟩
  · have hlt : (ys.length : Int) < 12 := of_decide_eq_true hc
    have hl := f2.len
    refine ⟨.ref c, h1, c, xs, 5, .ref p, rfl, rfl, hL, at5, .inl ⟨rfl, ys, hP⟩, .ref t, g1, p, ys, .ref t, rfl, rfl, f1, Nat.lt_of_lt_of_le (show ys.length < 12 by omega) (by decide), ?_⟩
    refine kn env σ R _ (r.go (step_cm r.sub e5 (ps := ps ++ [(a, b)]) (f2.app (.cons (r.sub.t g3) .nil)) ⟨by rw [List.length_append]; show _ + 1 ≤ 12; omega, fun z hz => ?_⟩)) (Same.refl R) q
    rcases List.mem_append.mp hz with hz | hz
    · exact f3.2 z hz
    · cases List.mem_singleton.mp hz
      exact hab
  · exact kn env σ R H r (Same.refl R) q
end
end VL

namespace VL
open PySem PySem.Spec PyProof.Rows L2
section
variable {K : PySem.W.Frag} {G : Gs} {B : Bs} {env : Vn} {σ : L2.St} {R R' R1 H H' H1 : Hp} {Q : XV → Prop} {nx : Vn → Prop} {rt : XV → Prop} {bk ct : Vn → Prop} {Ql : List D → Prop}
/-- for k, x in d.items() -/
def itemsD (ds : List (Key × D)) : List D := ds.map fun p => .tup [keyD p.1, p.2]
theorem wk_items {a : Addr} {o : Obj} {xs : List (Key × V)} {ds : List (Key × D)} (hl : R a = some (.frz o (.dK xs))) (ha : AtD K R xs ds) : Wk K G B R (Iti a o xs) (itemsD ds) where
  go := fun B' e σ R' H' r s i d hi => by
    unfold itemsD at hi
    rw [List.getElem?_map] at hi
    cases he : ds[i]? with
    | none => rw [he] at hi; cases hi
    | some p =>
      obtain ⟨k, u⟩ := p
      rw [he] at hi
      cases hi
      obtain ⟨v, hv, hd⟩ := ha.get he
      have hH : H' a = some (.frz o (.dK xs)) := r.sub.of (s a _ hl) rfl
      refine ⟨⟨hH, (List.getElem?_eq_some_iff.mp hv).1⟩, ?_⟩
      rintro w H2 ⟨T, k', v', hk, rfl, hT, rfl⟩
      rw [hv] at hk
      cases hk
      have hn := r.sub.none hT
      exact ⟨_, r.newP hT (rfl), same_take hn, .tup (.inl (.inl upd_same)) (.cons (keyD_at k) (.cons ((hd.same s).same (same_take hn)) .nil))⟩
  stop := fun B' e σ R' H' r s => ⟨r.sub.of (s a _ hl) (rfl), by unfold itemsD; rw [List.length_map, ha.len]; exact Nat.le_refl _⟩
theorem vi_items {td : TE} (h : VE K G B td env fun x => x.fz fun x => ∃ a ds, x = .p (.lkd a ds) ∧ Ql (itemsD ds)) : VI K G B (iItems td) env Ql := fun σ R H r Qh k =>
  h σ R H r _ fun v R1 H1 x r1 s1 hv q => by
    obtain ⟨R2, x2, r2, s2, hv2, ho, a, ds, rfl, q2⟩ := hv.fz r1 q
    cases hv2 with
    | @lkd a o xs _ h1 h2 => exact ⟨_, o, xs, rfl, r2.sub.of h1 (rfl), k _ R2 H1 _ r2 (s1.trans s2) (wk_items h1 h2) q2⟩
end
end VL

/-! ### sorted(pairs of whole numbers) -/
namespace VL
open PySem PySem.Spec PyProof.Rows L2
def leP (p q : Int × Int) : Bool := decide (p.1 < q.1 ∨ (p.1 = q.1 ∧ p.2 ≤ q.2))
def srtP (ps : List (Int × Int)) : List (Int × Int) := ps.mergeSort leP
def rSrtP (K : PySem.W.Frag) : List V → Hp → VK → Prop := fun vs H Q => ∃ (a : Addr) (xs : List V) (ps : List (Int × Int)), vs = [V.ref a] ∧ SqL K H a xs ∧ PrsAt K H xs ps ∧
  ∀ ys p, PrsAt K H ys (srtP ps) → H p = none → Q (.ref p) (upd H p (.lst ys))
theorem leP_trans (a b c : Int × Int) (h : leP a b = true) (q : leP b c = true) : leP a c = true := by
  unfold leP at *
  rw [decide_eq_true_iff] at *
  omega
theorem leP_total (a b : Int × Int) : (leP a b || leP b a) = true := by
  unfold leP
  rw [Bool.or_eq_true, decide_eq_true_iff, decide_eq_true_iff]
  omega
theorem srtP_uniq {qs ps : List (Int × Int)} (p : qs.Perm ps) (h : qs.Pairwise fun a b => leP a b = true) : qs = srtP ps :=
  List.Perm.eq_of_pairwise (le := fun a b => leP a b = true) (fun a b _ _ h q => by
    unfold leP at h q
    rw [decide_eq_true_iff] at h q
    exact Prod.ext (by omega) (by omega)) h (List.pairwise_mergeSort leP_trans leP_total ps) (p.trans (List.mergeSort_perm ps leP).symm)
theorem PrsAt.of {K : PySem.W.Frag} {H : Hp} {k : V → Int × Int} : ∀ {xs : List V}, (∀ x ∈ xs, ∃ t, x = V.ref t ∧ SqT K H t [.int (k x).1, .int (k x).2]) → PrsAt K H xs (xs.map k)
  | [], _ => .nil
  | x :: r, h => by
    obtain ⟨t, e, ht⟩ := h x List.mem_cons_self
    rw [List.map_cons]
    have := PrsAt.of (xs := r) fun y hy => h y (List.mem_cons_of_mem _ hy)
    subst e
    exact .cons ht this
open Classical in
/-- what pair an object is -/
noncomputable def kOf (K : PySem.W.Frag) (H : Hp) (x : V) : Int × Int := if h : ∃ p : Int × Int, ∃ t, x = V.ref t ∧ SqT K H t [.int p.1, .int p.2] then h.choose else (0, 0)
theorem kOf_spec {K : PySem.W.Frag} {H : Hp} {x : V} (h : ∃ p : Int × Int, ∃ t, x = V.ref t ∧ SqT K H t [.int p.1, .int p.2]) : ∃ t, x = V.ref t ∧ SqT K H t [.int (kOf K H x).1, .int (kOf K H x).2] := by
  unfold kOf
  rw [dif_pos h]
  exact h.choose_spec
section
variable {X : Cx}
theorem prs_k {pins : List (Addr × Obj)} {σ : L2.St} {H : Hp} {s : Shared} (I : L2.Inv X pins σ H s) : ∀ {xs : List V} {ps : List (Int × Int)}, PrsAt X.K H xs ps → ps = xs.map (kOf X.K H) ∧ ∀ x ∈ xs, ∃ t, x = V.ref t ∧ SqT X.K H t [.int (kOf X.K H x).1, .int (kOf X.K H x).2]
  | _, _, .nil => ⟨rfl, fun x hx => by cases hx⟩
  | _, _, @PrsAt.cons _ _ a xs p ps h t => by
    obtain ⟨e1, e2⟩ := prs_k I t
    have sp := kOf_spec (K := X.K) (H := H) (x := V.ref a) ⟨p, a, rfl, h⟩
    have ep : kOf X.K H (.ref a) = p := by
      obtain ⟨t', et, ht⟩ := sp
      cases et
      have := I.tuple_inj ht h
      exact Prod.ext (by injection this with h1 _; injection h1) (by injection this with _ h2; injection h2 with h2 _; injection h2)
    refine ⟨by rw [List.map_cons, ← e1, ep], fun x hx => ?_⟩
    rcases List.mem_cons.mp hx with rfl | hx
    · exact sp
    · exact e2 x hx
theorem cr_srtP : CallR X (.builtin "sorted") (rSrtP X.K) := by
  intro pins s σ H vs us Q I r h
  obtain ⟨a, xs, ps, rfl, hs, hp, q⟩ := h
  obtain ⟨ek, hx⟩ := prs_k I hp
  obtain ⟨k, hk⟩ : ∃ k, k = kOf X.K H := ⟨_, rfl⟩
  rw [← hk] at ek hx
  obtain ⟨its, rv, hl, hz⟩ := I.list hs
  obtain ⟨u, rfl, ru⟩ := vals1 r
  obtain rfl : u = Value.ref a := ru
  obtain ⟨e1, e2⟩ := refs_back rv fun x m => by
    obtain ⟨t, e, _⟩ := hx x m
    exact ⟨t, e⟩
  refine SrtO.sorted_pairsO (k := fun u => k (backV u)) hl.isList (by rw [← rv.length]; exact hz) (fun v hv => ?_) fun h' d out h1 h2 kp hd hn => ?_
  · obtain ⟨t, rfl⟩ := e2 v hv
    have hm : V.ref t ∈ xs := by rw [e1]; exact List.mem_map.mpr ⟨_, hv, rfl⟩
    obtain ⟨t', e, ht⟩ := hx _ hm
    cases e
    obtain ⟨its2, r2, ⟨o, ho, hc, n, hd⟩, _⟩ := I.tuple ht
    obtain ⟨u1, u2, rfl, ri, rj⟩ := vals2 r2
    obtain ⟨t1, rfl⟩ := ri
    obtain ⟨t2, rfl⟩ := rj
    exact ⟨t, o, t1, t2, n, rfl, ho, hc, hd⟩
  · have h3 : ∀ u ∈ out, ∃ a, u = Value.ref a := fun u hu => e2 u (h2.perm.mem_iff.mp hu)
    obtain ⟨n, hn⟩ := hn
    have hb : SrtO.Stb (ltP k) (out.map backV) xs := by
      rw [e1]
      exact SrtO.Stb.map (ltP_swo k) backV h2
    have hsd := SrtO.srtd_map (f := backV) (lt := ltP k) h1
    refine ⟨.ref d, upd H d (.lst (out.map backV)), I.laid (t' := s.toks) kp hd ⟨?_, out, n, vals_back h3, hn⟩, rfl, q _ d ?_ (I.hok.fresh hd)⟩
    · rw [hb.len]
      exact hz
    · have hq : ((out.map backV).map k) = srtP ps := by
        refine srtP_uniq (by rw [ek]; exact hb.perm.map k) ?_
        refine List.pairwise_map.mpr (List.Pairwise.imp (fun {x y} hxy => ?_) hsd)
        have := SrtO.lexB_no.mp hxy
        unfold leP
        rw [decide_eq_true_iff]
        omega
      rw [← hq]
      exact PrsAt.of fun x hx' => hx x (hb.perm.mem_iff.mp hx')
end
section
variable {K : PySem.W.Frag} {G : Gs} {B : Bs} {env : Vn} {σ : L2.St} {R R' R1 H H' H1 : Hp} {Q : XV → Prop}
theorem vc_sortedP {x : XV} {ps : List (Int × Int)} (hx : x.seqL = some (ps.map prD)) (q : Q (.o (.lst ((srtP ps).map prD)))) : VC K G B (rSrtP K) env [x] Q := vc1 fun σ R H r v hv Qh k => by
  obtain ⟨a, xs, rfl, h1, h2⟩ := seqL_at r hv hx
  refine ⟨a, xs, ps, rfl, h1, prs_of r.sub h2, fun ys p hp hn => ?_⟩
  obtain ⟨R1, r1, s1, h3⟩ := Rep.learnP hp r
  obtain ⟨r2, v2⟩ := own_lst r1 hn h3
  exact k _ R1 _ _ r2 s1 v2 q
end
end VL

/-! sorted(d.keys()) -/
namespace VL
open PySem L2 PySem.Spec PyProof.Rows
def tSrtKeys (td : TE) : TE := fun σ H Q => td σ H fun v H1 => ∃ (a : Addr) (kvs : List (Key × V)) (ks : List Str), v = .ref a ∧ Rd H1 a (.dK kvs) ∧ kvs.map (·.1) = ks.map Sum.inr ∧ ks.length < 64 ∧
  ∀ ys p, ys.Perm ks → sortedS ys = true → H1 p = none → Q (.ref p) (upd H1 p (.lst (ys.map V.str)))
section
variable {X : Cx}
theorem pe_srtKeys {e : Expr} {td : TE} {p apos cpos pos : Pos} (hcalm : X.calm = true) (hg : Gl X "sorted") (hm : X.mg "sorted" = none) (he : PE X e td)
    (hbase : attributeBase e "keys" X.env (eval e X.env) = eval e X.env := by rfl) (hline : (apos.endLine == cpos.line) = true := by rfl)
    (hs : starEach [.Call (.Attribute e "keys" apos) [] [] cpos] X.env = (false, eval (.Call (.Attribute e "keys" apos) [] [] cpos) X.env) :: starEach [] X.env := by rfl) :
    PE X (.Call (.Name "sorted" p) [.Call (.Attribute e "keys" apos) [] [] cpos] [] pos) (tSrtKeys td) := by
  refine ⟨fun pins s σ H Q I h => ?_⟩
  refine wpAny_Call_Name_kw (ld_blt I hg hm (show bootBuiltins "sorted" = some (.builtin "sorted") by decide +kernel) (PyProof.Rows.callWith_builtin1 (args_cons ?_ hs) hs rfl))
  refine wpAny_Call_method (T := "dict") (id := "dict.keys") hbase rfl hline F.plainAttrs_dict F.slot_dict_keys F.type_dict_keys (thn (he.run pins s σ H _ I h) fun u s1 ⟨x, H1, I1, rx, q1⟩ => ?_)
  obtain ⟨a, kvs, ks, ex, hd, hks, h64, q⟩ := q1
  subst ex
  obtain rfl : u = Value.ref a := rx
  obtain ⟨z, lo, vs, rel, dd⟩ := dk_rd I1.hok hd
  obtain ⟨ep, hat⟩ := dd.dictAt
  have hkeys : vs.map (·.1) = ks.map Sum.inr := rel.keys.symm.trans hks
  have hl : vs.length = ks.length := by
    have e := congrArg List.length hkeys
    rw [List.length_map, List.length_map] at e
    exact e
  have h16 : vs.length ≤ sizeLine := by rw [hl, sizeLine_eq]; omega
  refine ⟨hat.dictOf.typeIs, hat.dictOf.mapOf.noDict, ?_⟩
  have I2 : Inv X pins σ H1 { s1 with heap := s1.heap.push { cls := .type "dict_keys", data := .fields #[.ref a] } } := I1.kept (t' := s1.toks) fun b ob q => Heap.get?_push_of_some _ q
  refine (show wpAny _ _ (callWith cpos (.builtin "dict.keys") [.ref a] [] []) _ X.xe s1 from method_meetsIn F.slot_dict_keys F.entry_dict_keys rfl (PySem.evalArgs_none ⟨rfl, hat.dictOf.typeIs, F.args_dict_keys_1 _, _, PySem.W.kdl_meets_keys (mixKind X.prog X.w) a lo, ⟨vs, hat.dictOf⟩, ?_⟩))
  refine args_nil ?_
  refine Calls.call_function_entry PyProof.Rows.kind_sorted PyProof.Rows.plain_sorted PyProof.Rows.entry_sorted (PyProof.Rows.args_sorted1 _) ?_
  unfold Builtin.«sorted»
  refine wpAny_bind (m := checkCount "sorted" 1 1 _) (wpAny_pure ?_)
  refine wpAny_bind (PySem.W.kdu_collect (A := X.A.in1) (PySem.W.kdl_keys (knd := mixKind X.prog X.w) (kvs := vs) (ep := ep)) (I1.ok.hd hcalm) ⟨⟨_, Heap.get?_push_size _ rfl, rfl, rfl⟩, hat.push _⟩ h16 fun h' tk acc hk hacc => ?_)
  have hal : acc.toList.length = ks.length := by rw [Array.length_toList, hacc.1, hl]
  have hS : StrsAre acc.toList ks := strs_at hal fun j v e => by
    obtain ⟨k, x, e1, e2⟩ := hacc.2 j v (by rw [← Array.getElem?_toList]; exact e)
    have e3 : (vs.map (·.1))[j]? = some k := by rw [List.getElem?_map, e1]; all_goals rfl
    rw [hkeys, List.getElem?_map] at e3
    cases e4 : ks[j]? with
    | none => rw [e4] at e3; cases e3
    | some y =>
      rw [e4] at e3
      have e5 : Sum.inr y = k := Option.some.inj e3
      subst e5
      obtain ⟨t, ev⟩ := Value.isStrOf_shape (x := y) (v := v) e2
      exact ⟨y, t, rfl, ev⟩
  have I3 : Inv X pins σ H1 { s1 with heap := h', toks := tk } := I2.kept hk
  refine wpAny_bind (wpAny_newList ?_ (by rw [hal, sizeLine_eq]; omega))
  have hoL : (h'.push (seqObj "list" acc.toList.toArray 0)).get? h'.objs.size = some (seqObj "list" acc.toList.toArray 0) := Heap.get?_push_size _ rfl
  show wpAny _ _ _ _ _ { s1 with heap := h'.push (seqObj "list" acc.toList.toArray 0), toks := tk }
  refine wpAny_bind (wpAny_holding (wpAny_call_entry PyProof.Rows.slot_list_sort ⟨_, hoL, rfl⟩ PyProof.Rows.entry_list_sort
    (list_sort_treeK strKind_oneLt (s := { s1 with heap := h'.push (seqObj "list" acc.toList.toArray 0), toks := tk }) hoL hS.keysOf (fun v₁ v₂ rest e => keyKind_strs (by rw [← e]; exact hS)) (by rw [hal]; exact h64) fun st' hp hs => ⟨_, rfl, ?_⟩)
    (PyProof.Rows.args_list_sort _)))
  obtain ⟨ys, g1, g2, g3⟩ := sorted_out_str hS hp hs
  obtain ⟨e', he'⟩ := PyProof.Rows.sortedHeap_at (vs := acc.toList) (out := (arrOf st').map (·.2)) hoL
  have hlen : (ys.map V.str).length ≤ sizeLine := by
    rw [List.length_map, g2.length_eq]
    exact Nat.le_trans (Nat.le_of_lt h64) (by decide)
  refine wpAny_pure ⟨_, rfl, .ref h'.objs.size, upd H1 h'.objs.size (.lst (ys.map V.str)), I3.laid (t' := tk) (fun b u e => ?_) (Nat.le_refl _)
    (show ObjOk X.prog X.w _ _ _ (.lst (ys.map V.str)) from ⟨hlen, ((arrOf st').map (·.2)).toList, e', vals_of_strs g1, by rw [Array.toArray_toList]; exact he'⟩), rfl, q ys _ g2 g3 (I3.hok.fresh (Nat.le_refl _))⟩
  have hb : b < h'.objs.size := Heap.lt_size e
  rw [PyProof.Rows.sortedHeap_old (Nat.ne_of_lt hb) (by rw [size_push']; exact Nat.lt_succ_of_lt hb)]
  exact Heap.get?_push_of_some _ e
end
section
variable {K : PySem.W.Frag} {G : Gs} {B : Bs} {env : Vn} {σ : L2.St} {R R' R1 H H' H1 : Hp} {Q : XV → Prop}
theorem ve_srtKeys {te : TE} (h : VE K G B te env fun x => x.fz fun x => ∃ ds ks, x.dctD = some ds ∧ ds.map (·.1) = ks.map Sum.inr ∧ ks.length < 64 ∧ Q (.o (.lst ((srtS ks).map D.str)))) : VE K G B (tSrtKeys te) env Q := fun σ R H r Qh k =>
  h σ R H r _ fun v R1 H1 x r1 s1 hv q => by
    obtain ⟨R2, x', r2, s2, hv2, ho, ds, ks, hx, hk, hl, q2⟩ := hv.fz r1 q
    obtain ⟨a, xs, rfl, h1, h2⟩ := dctD_at r2 hv2 hx
    refine ⟨a, xs, ks, rfl, h1, h2.keyl.trans hk, hl, fun ys p hp hs hn => ?_⟩
    obtain ⟨r3, v3⟩ := own_lst r2 hn (atl_strs ys)
    rw [← srtS_uniq hp (sorted_pw hs)] at q2
    exact k _ R2 _ _ r3 (s1.trans s2) v3 q2
end
end VL
namespace VL
open PySem L2
section
variable {K : PySem.W.Frag} {G : Gs} {B : Bs} {env : Vn} {σ : L2.St} {R R' R1 H H' H1 : Hp} {Q : XV → Prop}
/-- d.get(k, x) -/
theorem ve_dget2 {td ty tx : TE} (h : VE K G B td env fun x => x.fz fun x => ∃ ds, x.dctD = some ds ∧ VE K G B ty env fun y => y.fz fun y => VE K G B tx env fun z => z.fz fun z => ∃ k dz, y = .p (keyD k) ∧ z = .p dz ∧ Q (.p ((valD ds k).getD dz))) : VE K G B (tDGet2 td ty tx) env Q := fun σ R H r Qh k =>
  h σ R H r _ fun v R1 H1 x r1 s1 hv q => by
    obtain ⟨R2, x', r2, s2, hv2, ho, ds, hx, q2⟩ := hv.fz r1 q
    obtain ⟨a, xs, rfl, h1, h2⟩ := dctD_at r2 hv2 hx
    refine ⟨a, rfl, .inl ⟨xs, h1⟩, q2 σ R2 H1 r2 _ fun w R3 H3 y r3 s3 hw q3 => ?_⟩
    obtain ⟨R4, y', r4, s4, hw4, ho4, q4⟩ := hw.fz r3 q3
    refine q4 σ R4 H3 r4 _ fun u R5 H5 z r5 s5 hu q5 => ?_
    obtain ⟨R6, z', r6, s6, hu6, ho6, k', dz, rfl, rfl, q6⟩ := hu.fz r5 q5
    obtain ⟨a', xs', e', h1', h2'⟩ := dctD_at r6 (hv2.go ho (((s3.trans s4).trans s5).trans s6)) hx
    cases e'
    have hk := key_at (hw4.go ho4 (s5.trans s6) : VAt K B env σ R6 H5 w (.p (keyD k')))
    refine ⟨valV xs' k', .inl ⟨xs', k', h1', hk, rfl⟩, ?_⟩
    have st : Same R R6 := ((((s1.trans s2).trans s3).trans s4).trans s5).trans s6
    cases e : valD ds k' with
    | none =>
      rw [(h2'.val (k := k')).2 e]
      rw [e] at q6
      exact k u R6 H5 (.p dz) r6 st hu6 q6
    | some d =>
      obtain ⟨z, hz, hzd⟩ := (h2'.val (k := k')).1 d e
      rw [hz]
      rw [e] at q6
      exact k z R6 H5 (.p d) r6 st hzd q6
end
end VL

/-! What a call tells, kept as one's own: lists of plain things within tuples and dicts, behind pointers (D.ptr); a spare slot (Slot.hp) owns them. -/
namespace VL
open PySem L2
/-- told plain things stay when only lists and dicts are forgotten -/
theorem at_soft {K : PySem.W.Frag} {R R' : Hp} (hm : ∀ b o, R b = some o → isLD o = false → R' b = some o) : ∀ (n : Nat) {v : V} {d : D}, D.deepT n d = true → At K R v d → At K R' v d := by
  intro n
  induction n with
  | zero => intro v d h _; cases h
  | succ n ih =>
    intro v d h t
    cases t with
    | non => exact .non
    | bl b => exact .bl b
    | int i => exact .int i
    | str x => exact .str x
    | @tup b xs ds hs ht =>
      refine .tup (xs := xs) ?_ (ht.imp fun v d hm => ih (List.all_eq_true.mp (show ds.all (D.deepT n) = true from h) d hm))
      rcases hs with (hs | ⟨o, hs⟩) | hs
      · exact .inl (.inl (hm _ _ hs rfl))
      · exact .inl (.inr ⟨o, hm _ _ hs rfl⟩)
      · exact .inr hs
    | lst _ _ => cases h
    | ro _ _ => cases h
    | dct _ _ => cases h
    | lkd _ _ => cases h
    | dtt _ => cases h
    | ins _ _ _ => cases h
    | key hs => exact .key (hm _ _ hs rfl)
    | ty n => exact .ty n
    | st hs => exact .st (hm _ _ hs rfl)
    | ptr b => exact .ptr b
    | cm hs => exact .cm (hm _ _ hs rfl)
theorem atL_soft {K : PySem.W.Frag} {R R' : Hp} (hm : ∀ b o, R b = some o → isLD o = false → R' b = some o) {n : Nat} {vs : List V} {ds : List D} (h : ds.all (D.deepT n) = true) (t : AtL K R vs ds) : AtL K R' vs ds :=
  t.imp fun v d hd => at_soft hm n (List.all_eq_true.mp h d hd)
mutual
/-- d with pointers in the place of its lists -/
inductive OwnR (gs : List (Addr × D)) : D → D → Prop
  | flat {d : D} : D.deepT 9 d = true → OwnR gs d d
  | lst {ds : List D} {a : Addr} : (a, D.lst ds) ∈ gs → OwnR gs (.lst ds) (.ptr a)
  | tup {ds es : List D} : OwnL gs ds es → OwnR gs (.tup ds) (.tup es)
  | dct {ks es : List (Key × D)} : OwnD gs ks es → OwnR gs (.dct ks) (.dct es)
inductive OwnL (gs : List (Addr × D)) : List D → List D → Prop
  | nil : OwnL gs [] []
  | cons {d e : D} {ds es : List D} : OwnR gs d e → OwnL gs ds es → OwnL gs (d :: ds) (e :: es)
inductive OwnD (gs : List (Addr × D)) : List (Key × D) → List (Key × D) → Prop
  | nil : OwnD gs [] []
  | cons {k : Key} {d e : D} {ds es : List (Key × D)} : OwnR gs d e → OwnD gs ds es → OwnD gs ((k, d) :: ds) ((k, e) :: es)
end
mutual
theorem OwnR.mono {gs hs : List (Addr × D)} (s : ∀ q ∈ gs, q ∈ hs) : ∀ {d e : D}, OwnR gs d e → OwnR hs d e
  | _, _, .flat h => .flat h
  | _, _, .lst h => .lst (s _ h)
  | _, _, .tup h => .tup (OwnL.mono s h)
  | _, _, .dct h => .dct (OwnD.mono s h)
theorem OwnL.mono {gs hs : List (Addr × D)} (s : ∀ q ∈ gs, q ∈ hs) : ∀ {d e : List D}, OwnL gs d e → OwnL hs d e
  | _, _, .nil => .nil
  | _, _, .cons h t => .cons (OwnR.mono s h) (OwnL.mono s t)
theorem OwnD.mono {gs hs : List (Addr × D)} (s : ∀ q ∈ gs, q ∈ hs) : ∀ {d e : List (Key × D)}, OwnD gs d e → OwnD hs d e
  | _, _, .nil => .nil
  | _, _, .cons h t => .cons (OwnR.mono s h) (OwnD.mono s t)
end
theorem own_lst' {gs : List (Addr × D)} {ds : List D} {e : D} (h : OwnR gs (.lst ds) e) : ∃ a, e = .ptr a ∧ (a, D.lst ds) ∈ gs := by
  cases h with
  | flat h => cases h
  | lst h => exact ⟨_, rfl, h⟩
theorem own_dct' {gs : List (Addr × D)} {ds : List (Key × D)} {e : D} (h : OwnR gs (.dct ds) e) : ∃ es, e = .dct es ∧ OwnD gs ds es := by
  cases h with
  | flat h => cases h
  | dct h => exact ⟨_, rfl, h⟩
theorem own_tup' {gs : List (Addr × D)} {ds : List D} {e : D} (h : OwnR gs (.tup ds) e) (n : D.deepT 9 (.tup ds) = false) : ∃ es, e = .tup es ∧ OwnL gs ds es := by
  cases h with
  | flat h => rw [n] at h; cases h
  | tup h => exact ⟨_, rfl, h⟩
theorem own_flat' {gs : List (Addr × D)} {d e : D} (h : OwnR gs d e) (n : D.deepT 1 d = true) (nt : ∀ ds, d ≠ .tup ds) : e = d := by
  cases h with
  | flat h => rfl
  | lst h => cases n
  | tup h => exact absurd rfl (nt _)
  | dct h => cases n
theorem OwnL.len {gs : List (Addr × D)} : ∀ {ds es : List D}, OwnL gs ds es → es.length = ds.length
  | _, _, .nil => rfl
  | _, _, .cons _ t => congrArg (· + 1) t.len
theorem OwnL.get {gs : List (Addr × D)} : ∀ {ds es : List D}, OwnL gs ds es → ∀ {i : Nat} {d : D}, ds[i]? = some d → ∃ e, es[i]? = some e ∧ OwnR gs d e
  | _, _, .nil, _, _, h => by simp at h
  | _, _, .cons h _, 0, _, q => by
    simp at q
    subst q
    exact ⟨_, rfl, h⟩
  | _, _, .cons _ t, i + 1, _, q => t.get (i := i) (by simpa using q)
theorem OwnD.keys {gs : List (Addr × D)} : ∀ {ds es : List (Key × D)}, OwnD gs ds es → es.map (·.1) = ds.map (·.1)
  | _, _, .nil => rfl
  | _, _, .cons _ t => by rw [List.map_cons, List.map_cons, t.keys]
theorem OwnD.val {gs : List (Addr × D)} {k : Key} : ∀ {ds es : List (Key × D)}, OwnD gs ds es → ∀ {d : D}, valD ds k = some d → ∃ e, valD es k = some e ∧ OwnR gs d e
  | _, _, .nil, _, h => by cases h
  | _, _, .cons (k := j) (d := d) (e := e) (ds := ds) (es := es) h t, d', q => by
    unfold valD at q ⊢
    by_cases z : j = k
    · rw [List.find?_cons_of_pos (by simpa using z)] at q ⊢
      cases q
      exact ⟨_, rfl, h⟩
    · rw [List.find?_cons_of_neg (by simpa using z)] at q ⊢
      exact t.val q
def D.leaf : D → Bool
  | .lst ds => ds.all (D.deepT 9)
  | _ => false
/-- plain things, flat lists, tuples and dicts of such -/
def D.ownT : Nat → D → Bool
  | 0, _ => false
  | n + 1, d => D.deepT 9 d || D.leaf d || match d with
    | .tup ds => ds.all (D.ownT n)
    | .dct ks => ks.all fun p => D.ownT n p.2
    | _ => false
/-- the lists that are kept apart -/
def GoodG (K : PySem.W.Frag) (R : Hp) (gs : List (Addr × D)) : Prop := ∀ q ∈ gs, ∃ ys ds, q.2 = .lst ds ∧ R q.1 = some (.lst ys) ∧ AtL K R ys ds ∧ ds.all (D.deepT 9) = true
theorem GoodG.app {K : PySem.W.Frag} {R : Hp} {gs hs : List (Addr × D)} (h : GoodG K R gs) (q : GoodG K R hs) : GoodG K R (gs ++ hs) := fun x hx => (List.mem_append.mp hx).elim (h x) (q x)
/-- known without the lists -/
def Keeps2 (R R2 : Hp) : Prop := (∀ b o, R b = some o → isLD o = false → R2 b = some o) ∧ ∀ b ks, R b = some (.dK ks) → R2 b = some (.dK ks)
theorem own_ex {K : PySem.W.Frag} {R : Hp} : ∀ (n : Nat) (d : D) (v : V), D.ownT n d = true → At K R v d → ∃ gs e, OwnR gs d e ∧ GoodG K R gs ∧ ∀ R2, Keeps2 R R2 → At K R2 v e := by
  intro n
  induction n with
  | zero => intro d v h; cases h
  | succ n ih =>
    intro d v h t
    have ihL : ∀ {ds : List D} {vs : List V}, ds.all (D.ownT n) = true → AtL K R vs ds → ∃ gs es, OwnL gs ds es ∧ GoodG K R gs ∧ ∀ R2, Keeps2 R R2 → AtL K R2 vs es := fun {ds} {vs} hd ht => by
      induction ds generalizing vs with
      | nil =>
        cases ht
        exact ⟨[], [], .nil, fun q hq => (by cases hq), fun _ _ => .nil⟩
      | cons d r ihr =>
        rw [List.all_cons, Bool.and_eq_true] at hd
        cases ht with
        | cons h1 h2 =>
          obtain ⟨gs, e, a1, a2, a3⟩ := ih d _ hd.1 h1
          obtain ⟨hs, es, b1, b2, b3⟩ := ihr hd.2 h2
          exact ⟨gs ++ hs, e :: es, .cons (a1.mono fun q hq => List.mem_append_left _ hq) (b1.mono fun q hq => List.mem_append_right _ hq), a2.app b2, fun R2 k => .cons (a3 R2 k) (b3 R2 k)⟩
    have ihD : ∀ {ds : List (Key × D)} {vs : List (Key × V)}, (ds.all fun p => D.ownT n p.2) = true → AtD K R vs ds → ∃ gs es, OwnD gs ds es ∧ GoodG K R gs ∧ ∀ R2, Keeps2 R R2 → AtD K R2 vs es := fun {ds} {vs} hd ht => by
      induction ds generalizing vs with
      | nil =>
        cases ht
        exact ⟨[], [], .nil, fun q hq => (by cases hq), fun _ _ => .nil⟩
      | cons d r ihr =>
        rw [List.all_cons, Bool.and_eq_true] at hd
        cases ht with
        | @cons k v vs d ds h1 h2 =>
          obtain ⟨gs, e, a1, a2, a3⟩ := ih d _ hd.1 h1
          obtain ⟨hs, es, b1, b2, b3⟩ := ihr hd.2 h2
          exact ⟨gs ++ hs, (k, e) :: es, .cons (a1.mono fun q hq => List.mem_append_left _ hq) (b1.mono fun q hq => List.mem_append_right _ hq), a2.app b2, fun R2 k => .cons (a3 R2 k) (b3 R2 k)⟩
    by_cases hf : D.deepT 9 d = true
    · exact ⟨[], d, .flat hf, fun q hq => (by cases hq), fun R2 k => at_soft k.1 9 hf t⟩
    have hf : D.deepT 9 d = false := by cases q : D.deepT 9 d <;> first | rfl | exact absurd q hf
    unfold D.ownT at h
    rw [hf, Bool.false_or] at h
    cases t with
    | @lst a xs ds h1 h2 =>
      have hl : ds.all (D.deepT 9) = true := by simpa [D.leaf] using h
      exact ⟨[(a, .lst ds)], .ptr a, .lst (List.mem_singleton.mpr rfl), fun q hq => by
        cases List.mem_singleton.mp hq
        exact ⟨xs, ds, rfl, h1, h2, hl⟩, fun R2 k => .ptr a⟩
    | @tup a xs ds h1 h2 =>
      obtain ⟨gs, es, a1, a2, a3⟩ := ihL (by simpa [D.leaf] using h) h2
      refine ⟨gs, .tup es, .tup a1, a2, fun R2 k => .tup (xs := xs) ?_ (a3 R2 k)⟩
      rcases h1 with (h1 | ⟨o, h1⟩) | h1
      · exact .inl (.inl (k.1 _ _ h1 rfl))
      · exact .inl (.inr ⟨o, k.1 _ _ h1 rfl⟩)
      · exact .inr h1
    | @dct a xs ds h1 h2 =>
      obtain ⟨gs, es, a1, a2, a3⟩ := ihD (by simpa [D.leaf] using h) h2
      exact ⟨gs, .dct es, .dct a1, a2, fun R2 k => .dct (k.2 _ _ h1) (a3 R2 k)⟩
    | non => cases hf
    | bl _ => cases hf
    | int _ => cases hf
    | str _ => cases hf
    | ro _ _ => simp [D.leaf] at h
    | lkd _ _ => simp [D.leaf] at h
    | st _ => cases hf
    | cm _ => cases hf
    | ptr _ => cases hf
    | ty _ => cases hf
    | dtt _ => simp [D.leaf] at h
    | ins _ _ _ => simp [D.leaf] at h
    | key _ => cases hf
section
variable {K : PySem.W.Frag} {G : Gs} {B : Bs} {env : Vn} {σ : L2.St} {R R' R1 H H' H1 : Hp} {Q : XV → Prop} {nx : Vn → Prop} {rt : XV → Prop} {bk ct : Vn → Prop} {Qe : Vn → Prop}
def softOf (R : Hp) : Hp := fun b => match R b with
  | some o => if isLD o then none else some o
  | none => none
theorem soft_some {b : Addr} {o : HO} (h : softOf R b = some o) : R b = some o ∧ isLD o = false := by
  unfold softOf at h
  cases e : R b with
  | none => rw [e] at h; cases h
  | some u =>
    rw [e] at h
    by_cases q : isLD u = true
    · simp [q] at h
    · simp only [Bool.not_eq_true] at q
      simp [q] at h
      subst h
      exact ⟨rfl, q⟩
theorem soft_of {b : Addr} {o : HO} (h : R b = some o) (q : isLD o = false) : softOf R b = some o := by
  unfold softOf
  rw [h]
  simp [q]
theorem soft_none {b : Addr} (h : R b = none) : softOf R b = none := by
  unfold softOf
  rw [h]
theorem soft_ld {b : Addr} {o : HO} (h : R b = some o) (q : isLD o = true) : softOf R b = none := by
  unfold softOf
  rw [h]
  simp [q]
def ownOf (R R' : Hp) (gs : List (Addr × D)) : Hp := fun b => match R b with
  | some o => some o
  | none => if b ∈ gs.map (·.1) then none else R' b
theorem own_old {b : Addr} {o : HO} {gs : List (Addr × D)} (h : R b = some o) : ownOf R R' gs b = some o := by
  unfold ownOf
  rw [h]
theorem own_in {b : Addr} {gs : List (Addr × D)} (h : R b = none) (hm : b ∈ gs.map (·.1)) : ownOf R R' gs b = none := by
  unfold ownOf
  rw [h]
  simp only
  rw [if_pos hm]
theorem own_out {b : Addr} {gs : List (Addr × D)} (h : R b = none) (hm : b ∉ gs.map (·.1)) : ownOf R R' gs b = R' b := by
  unfold ownOf
  rw [h]
  simp only
  rw [if_neg hm]
/-- what is new among lists and dicts was not there -/
theorem soft_new (rs : Sub K G R H) (s : Step K G (softOf R) H R' H') {b : Addr} {o : HO} (h : R' b = some o) (l : isLD o = true) : R b = none ∧ H b = none := by
  have hH : H b = none := by
    cases e : H b with
    | none => rfl
    | some y =>
      cases hy : hard y with
      | false =>
        cases e2 : softOf R b with
        | none =>
          rw [s.out b y e hy e2] at h
          cases h
        | some u =>
          have h2 := s.same b u e2
          rw [h] at h2
          cases h2
          rw [(soft_some e2).2] at l
          cases l
      | true =>
        cases e2 : softOf R b with
        | none =>
          have h1 := s.kept b y e fun m z => by rw [e2] at z; cases z
          have h2 := s.sub.of h (ld_mk l)
          rw [h1] at h2
          cases h2
          rw [hard_ld l] at hy
          cases hy
        | some u =>
          have h2 := s.same b u e2
          rw [h] at h2
          cases h2
          rw [(soft_some e2).2] at l
          cases l
  exact ⟨rs.none hH, hH⟩
theorem soft_old (s : Step K G (softOf R) H R' H') (rs : Sub K G R H) {b : Addr} {o u : HO} (h : R b = some o) (h' : R' b = some u) : u = o := by
  cases l : isLD o with
  | false =>
    have := s.same b o (soft_of h l)
    rw [h'] at this
    exact Option.some.inj this
  | true =>
    cases lu : isLD u with
    | true =>
      have := (soft_new rs s h' lu).1
      rw [h] at this
      cases this
    | false =>
      have hH := rs.of h (ld_mk l)
      have := s.out b o hH (hard_ld l) (soft_ld h l)
      rw [h'] at this
      cases this
theorem step_own (rs : Sub K G R H) (s : Step K G (softOf R) H R' H') (gs : List (Addr × D)) : Step K G R H (ownOf R R' gs) H' where
  same := fun b x e => own_old e
  sub := fun b x e => by
    cases q : R b with
    | some o =>
      rw [own_old q] at e
      cases e
      cases l : isLD x with
      | false => exact s.sub b x (s.same b x (soft_of q l))
      | true =>
        have h1 := rs.of q (ld_mk l)
        exact subAt_of (s.kept b x h1 fun m z => by rw [soft_ld q l] at z; cases z) (ld_mk l)
    | none =>
      by_cases hm : b ∈ gs.map (·.1)
      · rw [own_in q hm] at e
        cases e
      · rw [own_out q hm] at e
        exact s.sub b x e
  kept := fun b y e n => s.kept b y e fun m z => n m (soft_some z).1
  out := fun b y e hd n => by
    have h1 := s.out b y e hd (soft_none n)
    by_cases hm : b ∈ gs.map (·.1)
    · exact own_in n hm
    · rw [own_out n hm]
      exact h1
/-- a free slot takes objects that nobody has -/
theorem Rep.toHp (r : Rep K G B env σ R H) {j : Nat} (hj : env[j]? = some .u) {gs : List (Addr × D)} (hg : ∀ q ∈ gs, B.H q.1 = none ∧ R q.1 = none ∧ ∃ y, H q.1 = some y ∧ MAt K R y q.2) (hn : ∀ q ∈ gs, NoOwn env σ q.1 ∧ ∀ p ∈ B.pr, p.1 ≠ q.1) : Rep K G B (env.set j (.hp gs)) σ R H := by
  have hjl : j < env.length := (List.getElem?_eq_some_iff.mp hj).1
  have new : ∀ a, a ∈ gs.map (·.1) → NoOwn env σ a ∧ ∀ p ∈ B.pr, p.1 ≠ a := fun a ha => by
    obtain ⟨q, hq, rfl⟩ := List.mem_map.mp ha
    exact hn q hq
  exact {
    sub0 := r.sub0
    tab := r.tab
    step := r.step
    len := by rw [List.length_set]; exact r.len
    slots := fun i sl q => by
      by_cases e : j = i
      · subst e
        rw [List.getElem?_set_self hjl] at q
        cases q
        exact hg
      · rw [List.getElem?_set_ne e] at q
        exact r.slots i sl q
    dist := fun i k si sk a hik hi hk o1 o2 => by
      by_cases ei : j = i
      · subst ei
        rw [List.getElem?_set_self hjl] at hi
        rw [List.getElem?_set_ne hik] at hk
        cases hi
        exact (new a o1).1 k sk hk o2
      · rw [List.getElem?_set_ne ei] at hi
        by_cases ek : j = k
        · subst ek
          rw [List.getElem?_set_self hjl] at hk
          cases hk
          exact (new a o2).1 i si hi o1
        · rw [List.getElem?_set_ne ek] at hk
          exact r.dist i k si sk a hik hi hk o1 o2
    pr := fun q hq => by
      obtain ⟨h1, h2, h3, h0, h4⟩ := r.pr q hq
      refine ⟨h1, h2, h3, h0, fun i sl hi o => ?_⟩
      by_cases e : j = i
      · subst e
        rw [List.getElem?_set_self hjl] at hi
        cases hi
        exact (new q.1 o).2 q hq rfl
      · rw [List.getElem?_set_ne e] at hi
        exact h4 i sl hi o }
theorem Rep.goOwn (r : Rep K G B env σ R H) (s : Step K G (softOf R) H R' H') {gs : List (Addr × D)} (hg : ∀ q ∈ gs, ∃ ys ds, q.2 = .lst ds ∧ R' q.1 = some (.lst ys) ∧ AtL K (ownOf R R' gs) ys ds) {j : Nat} (hj : env[j]? = some .u) : Rep K G B (env.set j (.hp gs)) σ (ownOf R R' gs) H' := by
  refine (r.go (step_own r.sub s gs)).toHp hj (fun q hq => ?_) (fun q hq => ?_)
  · obtain ⟨ys, ds, h1, h2, h3⟩ := hg q hq
    obtain ⟨n1, n2⟩ := soft_new r.sub s h2 rfl
    refine ⟨r.fresh n2, own_in n1 (List.mem_map_of_mem (f := (·.1)) hq), .lst ys, s.sub.of h2 rfl, ?_⟩
    rw [h1]
    exact h3
  · obtain ⟨ys, ds, h1, h2, h3⟩ := hg q hq
    obtain ⟨n1, n2⟩ := soft_new r.sub s h2 rfl
    exact ⟨r.noslot n2, r.nopr n2⟩
theorem goodG_own (rs : Sub K G R H) (s : Step K G (softOf R) H R' H') {gs : List (Addr × D)} (hg : GoodG K R' gs) : ∀ q ∈ gs, ∃ ys ds, q.2 = .lst ds ∧ R' q.1 = some (.lst ys) ∧ AtL K (ownOf R R' gs) ys ds := by
  have soft : ∀ b o, R' b = some o → isLD o = false → ownOf R R' gs b = some o := fun b o e l => by
    cases q : R b with
    | some u =>
      rw [soft_old s rs q e]
      exact own_old q
    | none =>
      rw [own_out q]
      · exact e
      · intro hm
        obtain ⟨g, hg', rfl⟩ := List.mem_map.mp hm
        obtain ⟨ys, ds, _, h2, _⟩ := hg g hg'
        rw [e] at h2
        cases h2
        cases l
  intro q hq
  obtain ⟨ys, ds, h1, h2, h3, h4⟩ := hg q hq
  exact ⟨ys, ds, h1, h2, atL_soft soft h4 h3⟩
theorem own_keeps (rs : Sub K G R H) (s : Step K G (softOf R) H R' H') {gs : List (Addr × D)} (hg : GoodG K R' gs) : Keeps2 R' (ownOf R R' gs) := by
  have key : ∀ b o, R' b = some o → (∀ ys, o ≠ .lst ys) → ownOf R R' gs b = some o := fun b o e n => by
    cases q : R b with
    | some u =>
      rw [soft_old s rs q e]
      exact own_old q
    | none =>
      rw [own_out q]
      · exact e
      · intro hm
        obtain ⟨g, hg', rfl⟩ := List.mem_map.mp hm
        obtain ⟨ys, ds, _, h2, _⟩ := hg g hg'
        rw [e] at h2
        cases h2
        exact n _ rfl
  exact ⟨fun b o e l => key b o e fun ys z => (by rw [z] at l; cases l), fun b ks e => key b _ e fun ys z => (by cases z)⟩
/-- x = f(..), the told lists kept as one's own -/
theorem vs_asgF {i j : Nat} {α : Type} {fr : Bool} {args : α → List D} {pre : α → Prop} {post : α → D → Prop} {rs : α → Addr → Prop} {E : XK} {X : Addr → Prop} {t : TA} (hi : i < env.length) (hj : env[j]? = some .u) (hij : i ≠ j) (L : Lets K G B E X)
    (h : VA K G B t env fun xs => ∃ x, xs = (args x).map XV.p ∧ (args x).all (D.deepT 50) = true ∧ pre x ∧ (∀ C, rs x C → X C) ∧ ∀ d, post x d → D.ownT 9 d = true ∧ ∀ gs e, OwnR gs d e → (∀ q ∈ gs, D.leaf q.2 = true) → nx ((env.set j (.hp gs)).set i (.p e))) :
    VS K G B (tAsg (tCall (SpA K G fr args pre post rs) [] E t) (gName i)) env nx rt bk ct := fun σ R H rp Z kn _ _ _ =>
  h σ R H rp _ fun vs R1 H1 xs r1 s1 hv _ ⟨x, e, hd, hp, hr, q⟩ => by
    subst e
    rw [List.append_nil]
    refine ⟨softOf R1, x, ⟨fun b o e => r1.sub b o (soft_some e).1, fun P e => (by
      obtain ⟨ps, h⟩ := r1.tab' P e
      exact ⟨ps, soft_of h rfl⟩)⟩, atL_soft (fun b o e l => soft_of e l) hd (atL_of hv), hp, fun v R' H' d s ha _ hpost => ?_, fun C R' H' s hc => ?_⟩
    · obtain ⟨ho, q⟩ := q d hpost
      obtain ⟨gs, d', o1, o2, o3⟩ := own_ex 9 d v ho ha
      have hat := o3 _ (own_keeps r1.sub s o2)
      have r2 := r1.goOwn s (goodG_own r1.sub s o2) hj
      have hi2 : i < (env.set j (.hp gs)).length := by rw [List.length_set]; exact hi
      have r3 := r2.set (sl := .p d') (v := v) hi2 ⟨v, by rw [List.getElem?_set_self (r2.ilt hi2)], hat⟩ noOwn_p
      exact kn _ _ _ _ r3 (s1.trans (step_own r1.sub s gs).same) (q gs d' o1 fun g hg => by
        obtain ⟨_, ds, e1, _, _, e4⟩ := o2 g hg
        rw [e1]
        exact e4)
    · exact L C _ H' (r1.step.trans (step_own r1.sub s [])) (hr C hc)
/-- a list of lists -/
def D.scal : D → Bool
  | .int _ => true
  | .str _ => true
  | .bl _ => true
  | .non => true
  | _ => false
/-- a list of tuples of plain things -/
def D.tups : D → Bool
  | .lst ds => ds.all fun d => match d with
    | .tup es => es.all (D.deepT 8)
    | _ => false
  | _ => false
def D.leafS : D → Bool
  | .lst ds => ds.all (fun d => D.deepT 9 d || D.tups d) && ds.any D.scal
  | _ => false
/-- only pointers -/
def Refs (vs : List V) : Prop := ∀ v ∈ vs, ∃ a, v = .ref a
theorem tups_refs {ds : List D} {vs : List V} (h : D.tups (.lst ds) = true) (t : AtL K R vs ds) : Refs vs := fun v hv => by
  obtain ⟨k, hk⟩ := List.getElem?_of_mem hv
  have hkl : k < ds.length := by
    rw [← t.len]
    exact (List.getElem?_eq_some_iff.mp hk).1
  obtain ⟨d, hd⟩ : ∃ d, ds[k]? = some d := ⟨_, List.getElem?_eq_getElem hkl⟩
  obtain ⟨w, hw, hwd⟩ := t.get hd
  rw [hk] at hw
  cases hw
  have h2 := List.all_eq_true.mp h _ (List.mem_of_getElem? hd)
  cases hwd <;> first | exact ⟨_, rfl⟩ | cases h2
/-- the rows' lists, kept apart: none of them holds pointers alone -/
def GoodS (K : PySem.W.Frag) (R : Hp) (gs : List (Addr × D)) : Prop := ∀ q ∈ gs, ∃ ys ds, q.2 = .lst ds ∧ R q.1 = some (.lst ys) ∧ AtL K R ys ds ∧ D.leafS (.lst ds) = true
theorem own_rows : ∀ {ds : List D} {vs : List V}, ds.all D.leafS = true → AtL K R vs ds → ∃ gs es, OwnL gs ds es ∧ GoodS K R gs ∧ (∀ R2, AtL K R2 vs es) ∧ Refs vs
  | [], _, _, .nil => ⟨[], [], .nil, fun q hq => (by cases hq), fun _ => .nil, fun v hv => (by cases hv)⟩
  | d :: r, _, h, .cons (v := v) h1 h2 => by
    rw [List.all_cons, Bool.and_eq_true] at h
    obtain ⟨gs, es, a1, a2, a3, a5⟩ := own_rows h.2 h2
    cases h1 with
    | @lst a xs ds g1 g2 =>
      refine ⟨(a, .lst ds) :: gs, .ptr a :: es, .cons (.lst List.mem_cons_self) (a1.mono fun q hq => List.mem_cons_of_mem _ hq), fun q hq => ?_, fun R2 => .cons (.ptr a) (a3 R2), fun v hv => ?_⟩
      · rcases List.mem_cons.mp hq with rfl | hq
        · exact ⟨xs, ds, rfl, g1, g2, h.1⟩
        · exact a2 q hq
      · rcases List.mem_cons.mp hv with rfl | hv
        · exact ⟨a, rfl⟩
        · exact a5 v hv
    | _ => exact absurd h.1 (by simp [D.leafS])
theorem goodS_out {gs : List (Addr × D)} (g : GoodS K R gs) {b : Addr} {zs : List V} (h : R b = some (.lst zs)) (hz : Refs zs) : b ∉ gs.map (·.1) := fun hm => by
  obtain ⟨q, hq, e⟩ := List.mem_map.mp hm
  obtain ⟨ys, ds, e1, e2, e3, hs⟩ := g q hq
  rw [e, h] at e2
  cases e2
  unfold D.leafS at hs
  rw [Bool.and_eq_true, List.any_eq_true] at hs
  obtain ⟨_, d, hd, hsc⟩ := hs
  obtain ⟨k, hk⟩ := List.getElem?_of_mem hd
  obtain ⟨w, hw, hwd⟩ := e3.get hk
  obtain ⟨b, rfl⟩ := hz w (List.mem_of_getElem? hw)
  cases hwd <;> cases hsc
theorem goodS_own {gs : List (Addr × D)} (g : GoodS K R gs) {R2 : Hp} (k : ∀ b o, R b = some o → b ∉ gs.map (·.1) → R2 b = some o) : ∀ q ∈ gs, ∃ ys ds, q.2 = .lst ds ∧ R q.1 = some (.lst ys) ∧ AtL K R2 ys ds := fun q hq => by
  obtain ⟨ys, ds, e1, e2, e3, hs⟩ := g q hq
  have soft : ∀ b o, R b = some o → isLD o = false → R2 b = some o := fun b o e l => k b o e fun hm => by
    obtain ⟨p, hp, ep⟩ := List.mem_map.mp hm
    obtain ⟨zs, _, _, f2, _⟩ := g p hp
    rw [ep, e] at f2
    cases f2
    cases l
  unfold D.leafS at hs
  rw [Bool.and_eq_true] at hs
  refine ⟨ys, ds, e1, e2, e3.imp fun v d hd t => ?_⟩
  have h1 := List.all_eq_true.mp hs.1 d hd
  rw [Bool.or_eq_true] at h1
  rcases h1 with h1 | h1
  · exact at_soft soft 9 h1 t
  · cases t with
    | @lst c zs es c1 c2 =>
      refine .lst (k c _ c1 (goodS_out g c1 (tups_refs h1 c2))) (c2.imp fun v d hd t => ?_)
      have h2 := List.all_eq_true.mp (show es.all _ = true from h1) d hd
      cases d with
      | tup fs => exact at_soft soft 9 (show D.deepT 9 (.tup fs) = true from h2) t
      | _ => cases h2
    | _ => cases h1
theorem own_box {ds : List D} {v : V} (h : ds.all D.leafS = true) (t : At K R v (.lst ds)) : ∃ gs es, OwnL gs ds es ∧ GoodS K R gs ∧ ∀ R2 : Hp, (∀ b o, R b = some o → b ∉ gs.map (·.1) → R2 b = some o) → At K R2 v (.lst es) := by
  cases t with
  | @lst a xs _ h1 h2 =>
    obtain ⟨gs, es, a1, a2, a3, a5⟩ := own_rows h h2
    exact ⟨gs, es, a1, a2, fun R2 k => .lst (k _ _ h1 (goodS_out a2 h1 a5)) (a3 R2)⟩
theorem vs_asgF2 {i j : Nat} {α : Type} {fr : Bool} {args : α → List D} {pre : α → Prop} {post : α → D → Prop} {rs : α → Addr → Prop} {E : XK} {X : Addr → Prop} {t : TA} (hi : i < env.length) (hj : env[j]? = some .u) (hij : i ≠ j) (L : Lets K G B E X)
    (h : VA K G B t env fun xs => ∃ x, xs = (args x).map XV.p ∧ (args x).all (D.deepT 50) = true ∧ pre x ∧ (∀ C, rs x C → X C) ∧ ∀ d, post x d → ∃ ds, d = .lst ds ∧ ds.all D.leafS = true ∧ ∀ gs es, OwnL gs ds es → nx ((env.set j (.hp gs)).set i (.p (.lst es)))) :
    VS K G B (tAsg (tCall (SpA K G fr args pre post rs) [] E t) (gName i)) env nx rt bk ct := fun σ R H rp Z kn _ _ _ =>
  h σ R H rp _ fun vs R1 H1 xs r1 s1 hv _ ⟨x, e, hd, hp, hr, q⟩ => by
    subst e
    rw [List.append_nil]
    refine ⟨softOf R1, x, ⟨fun b o e => r1.sub b o (soft_some e).1, fun P e => (by
      obtain ⟨ps, h⟩ := r1.tab' P e
      exact ⟨ps, soft_of h rfl⟩)⟩, atL_soft (fun b o e l => soft_of e l) hd (atL_of hv), hp, fun v R' H' d s ha _ hpost => ?_, fun C R' H' s hc => ?_⟩
    · obtain ⟨ds, rfl, ho, q⟩ := q d hpost
      obtain ⟨gs, es, o1, o2, o3⟩ := own_box ho ha
      have kk : ∀ b o, R' b = some o → b ∉ gs.map (·.1) → ownOf R1 R' gs b = some o := fun b o e hm => by
        cases w : R1 b with
        | some u =>
          rw [soft_old s r1.sub w e]
          exact own_old w
        | none => rw [own_out w hm]; exact e
      have hat := o3 (ownOf R1 R' gs) kk
      have r2 := r1.goOwn s (goodS_own o2 kk) hj
      have hi2 : i < (env.set j (.hp gs)).length := by rw [List.length_set]; exact hi
      have r3 := r2.set (sl := .p (.lst es)) (v := v) hi2 ⟨v, by rw [List.getElem?_set_self (r2.ilt hi2)], hat⟩ noOwn_p
      exact kn _ _ _ _ r3 (s1.trans (step_own r1.sub s gs).same) (q gs es o1)
    · exact L C _ H' (r1.step.trans (step_own r1.sub s [])) (hr C hc)
/-! ### through pointers -/
theorem hp_at (r : Rep K G B env σ R H) {j : Nat} {gs : List (Addr × D)} (hj : env[j]? = some (.hp gs)) {a : Addr} {ds : List D} (hm : (a, .lst ds) ∈ gs) : ∃ ys, B.H a = none ∧ R a = none ∧ H a = some (.lst ys) ∧ AtL K R ys ds := by
  obtain ⟨h1, h2, y, h3, h4⟩ := r.slots j _ hj _ hm
  have h4 : MAt K R y (.lst ds) := h4
  cases y <;> first | exact ⟨_, h1, h2, h3, h4⟩ | exact h4.elim
def setP (gs : List (Addr × D)) (a : Addr) (d : D) : List (Addr × D) := gs.map fun q => if q.1 = a then (a, d) else q
theorem setP_keys (gs : List (Addr × D)) (a : Addr) (d : D) : (setP gs a d).map (·.1) = gs.map (·.1) := by
  unfold setP
  rw [List.map_map]
  refine List.map_congr_left fun q _ => ?_
  show (if q.1 = a then (a, d) else q).1 = q.1
  split
  · rename_i h
    exact h.symm
  · rfl
theorem setP_self {gs : List (Addr × D)} {a : Addr} {d e : D} (h : (a, e) ∈ gs) : (a, d) ∈ setP gs a d := List.mem_map.mpr ⟨(a, e), h, if_pos rfl⟩
theorem setP_ne {gs : List (Addr × D)} {a b : Addr} {d e : D} (h : (b, e) ∈ gs) (n : b ≠ a) : (b, e) ∈ setP gs a d := List.mem_map.mpr ⟨(b, e), h, if_neg n⟩
theorem Rep.mutP (r : Rep K G B env σ R H) {j : Nat} {gs : List (Addr × D)} (hj : env[j]? = some (.hp gs)) {a : Addr} {d d' : D} (hm : (a, d) ∈ gs) {y : HO} (hM : MAt K R y d') : Rep K G B (env.set j (.hp (setP gs a d'))) σ R (upd H a y) := by
  have ow : Slot.owns σ[j]? a (.hp gs) := List.mem_map_of_mem (f := (·.1)) hm
  refine r.mutS (sl' := .hp (setP gs a d')) hj ow (fun q hq => ?_) (fun b o => ?_)
  · obtain ⟨g, hg, e⟩ := List.mem_map.mp hq
    obtain ⟨h1, h2, y0, h3, h4⟩ := r.slots j _ hj g hg
    split at e
    · rename_i ea
      subst e
      rw [ea] at h1 h2
      exact ⟨h1, h2, y, upd_same, hM⟩
    · rename_i ea
      subst e
      exact ⟨h1, h2, y0, by rw [upd_ne ea]; exact h3, h4⟩
  · have o' : b ∈ (setP gs a d').map (·.1) := o
    rw [setP_keys] at o'
    exact o'
theorem ptr_at {v : V} {a : Addr} (h : At K R v (.ptr a)) : v = .ref a := by cases h; rfl
/-- xs[i] -/
theorem vo_ixP {j : Nat} {gs : List (Addr × D)} {a : Addr} {ds : List D} {i : Int} {d : D} (hj : env[j]? = some (.hp gs)) (hm : (a, .lst ds) ∈ gs) (hi : atI ds i = some d) (q : Q (.p d)) : VO K G B (rIxL K) env (.p (.ptr a)) (.p (.int i)) Q := fun σ R H r v w hv hw Qh k => by
  obtain ⟨ys, _, _, h3, h4⟩ := hp_at r hj hm
  obtain ⟨v', h5, h6⟩ := atl_at h4 hi
  exact ⟨a, ys, i, v', ptr_at hv, int_at hw, .inl (.inl h3), h5, k v' R H (.p d) r (Same.refl R) h6 q⟩
theorem vc_lenP {j : Nat} {gs : List (Addr × D)} {a : Addr} {ds : List D} (hj : env[j]? = some (.hp gs)) (hm : (a, .lst ds) ∈ gs) (q : Q (.p (.int ds.length))) : VC K G B (fun xs H Q => ∃ p ys, xs = [.ref p] ∧ (SqL K H p ys ∨ SqT K H p ys) ∧ Q (.int ys.length) H) env [.p (.ptr a)] Q := vc1 fun σ R H r v hv Qh k => by
  obtain ⟨ys, _, _, h3, h4⟩ := hp_at r hj hm
  exact ⟨a, ys, by rw [ptr_at hv], .inl (.inl (.inl h3)), by rw [h4.len]; exact k _ R H (.p (.int _)) r (Same.refl R) (.int _) q⟩
theorem vc_listP {j : Nat} {gs : List (Addr × D)} {a : Addr} {ds : List D} (hj : env[j]? = some (.hp gs)) (hm : (a, .lst ds) ∈ gs) (q : Q (.o (.lst ds))) : VC K G B (fun xs H Q => ∃ p ys, xs = [.ref p] ∧ (SqL K H p ys ∨ SqT K H p ys) ∧ ∀ l, H l = none → Q (.ref l) (upd H l (.lst ys))) env [.p (.ptr a)] Q := vc1 fun σ R H r v hv Qh k => by
  obtain ⟨ys, _, _, h3, h4⟩ := hp_at r hj hm
  refine ⟨a, ys, by rw [ptr_at hv], .inl (.inl (.inl h3)), fun l hl => ?_⟩
  obtain ⟨r2, v2⟩ := own_lst r hl h4
  exact k _ R _ _ r2 (Same.refl R) v2 q
/-- xs[e] = v -/
theorem vg_subP {tc te : TE} {d : D} (h : VE K G B tc env fun x => ∃ a, x = .p (.ptr a) ∧ VE K G B te env fun x => ∃ (z : Int) (k j : Nat) (gs : List (Addr × D)) (ds : List D), x = .p (.int z) ∧ env[j]? = some (.hp gs) ∧ (a, .lst ds) ∈ gs ∧ ixN ds.length z = some k ∧ Qe (env.set j (.hp (setP gs a (.lst (ds.set k d)))))) :
    VG K G B (gSub tc te rSetL) (.p d) env Qe := fun σ R H r v hv Qh k =>
  h σ R H r _ fun c R0 H0 x0 r0 s0 hc ⟨a, e0, q0⟩ => by
    subst e0
    refine q0 σ R0 H0 r0 _ fun w R1 H1 x r1 s1 hw ⟨z, i, j, gs, ds, e, hj, hm, hix, q⟩ => ?_
    subst e
    cases hw
    obtain ⟨ys, _, _, h3, h4⟩ := hp_at r1 hj hm
    refine ⟨a, ys, z, i, ptr_at hc, rfl, h3, by rw [h4.len]; exact hix, ?_⟩
    exact k _ σ R1 _ (r1.mutP hj hm (y := .lst (ys.set i v)) (d' := .lst (ds.set i d)) (AtL.set (At.same (s0.trans s1) hv) i h4)) (s0.trans s1) q
/-- xs[e] op= v -/
theorem vs_augP {tc ti te : TE} {tip : TIp} (h : VE K G B tc env fun x => ∃ a, x = .p (.ptr a) ∧ VE K G B ti env fun y => ∃ (z : Int) (i j : Nat) (gs : List (Addr × D)) (ds : List D) (d : D), y = .p (.int z) ∧ env[j]? = some (.hp gs) ∧ (a, .lst ds) ∈ gs ∧ ixN ds.length z = some i ∧ ds[i]? = some d ∧
      VE K G B te env fun x => x.fz fun x => VO K G B tip env (.p d) x fun u => ∃ e, u = .p e ∧ nx (env.set j (.hp (setP gs a (.lst (ds.set i e)))))) :
    VS K G B (tAugS tc ti te (rIxL K) tip rSetL) env nx rt bk ct := fun σ R H r Z kn _ _ _ =>
  h σ R H r _ fun c R0 H0 x0 r0 s0 hc ⟨a, e0, q0⟩ => by
    subst e0
    refine q0 σ R0 H0 r0 _ fun w R1 H1 x r1 s1 hw ⟨z, i, j, gs, ds, d, e, hj, hm, hix, hg, q⟩ => ?_
    subst e
    cases hw
    obtain ⟨ys, _, _, h3, h4⟩ := hp_at r1 hj hm
    obtain ⟨u, hu, hud⟩ := h4.get hg
    have hat : atI ys z = some u := by
      unfold atI
      rw [h4.len, hix]
      exact hu
    refine ⟨a, ys, z, u, ptr_at hc, rfl, .inl (.inl h3), hat, q σ R1 H1 r1 _ fun v R2 H2 x r2 s2 hv q2 => ?_⟩
    obtain ⟨R3, x', r3, s3, hv3, ho, q3⟩ := hv.fz r2 q2
    refine q3 σ R3 H2 r3 u v (At.same (s2.trans s3) hud) hv3 _ fun p R4 H4 x4 r4 s4 hp ⟨e, he, q4⟩ => ?_
    subst he
    obtain ⟨zs, _, _, f3, f4⟩ := hp_at r4 hj hm
    refine ⟨a, zs, z, i, ptr_at hc, rfl, f3, by rw [f4.len]; exact hix, ?_⟩
    exact kn _ σ R4 _ (r4.mutP hj hm (y := .lst (zs.set i p)) (d' := .lst (ds.set i e)) (AtL.set hp i f4)) ((((s0.trans s1).trans s2).trans s3).trans s4) q4
/-- xs.append(e) -/
theorem vs_appendP {tc te : TE} (h : VE K G B tc env fun x => ∃ (a : Addr) (j : Nat) (gs : List (Addr × D)) (ds : List D), x = .p (.ptr a) ∧ env[j]? = some (.hp gs) ∧ (a, .lst ds) ∈ gs ∧ VE K G B te env fun x => x.fz fun x => ∃ d, x = .p d ∧ ds.length < 100000 ∧ nx (env.set j (.hp (setP gs a (.lst (ds ++ [d])))))) :
    VS K G B (tDrop (tBM K "list" rAppend tc (tCons te tNil))) env nx rt bk ct := fun σ R H r Z kn _ _ _ =>
  h σ R H r _ fun c R0 H0 x0 r0 s0 hc ⟨a, j, gs, ds, e0, hj, hm, q0⟩ => by
    subst e0
    obtain ⟨ys, _, _, h3, h4⟩ := hp_at r0 hj hm
    have ec := ptr_at hc
    subst ec
    refine .inl ⟨rfl, ys, .inl (.inl h3)⟩ |> fun ht => ⟨ht, q0 σ R0 H0 r0 _ fun v R1 H1 x r1 s1 hv q => ?_⟩
    obtain ⟨R2, x', r2, s2, hv2, ho, d, rfl, hl, q2⟩ := hv.fz r1 q
    obtain ⟨zs, _, _, f3, f4⟩ := hp_at r2 hj hm
    refine ⟨a, zs, v, rfl, rfl, f3, by rw [AtL.len f4]; exact Nat.lt_of_lt_of_le hl (by decide), ?_⟩
    exact kn _ σ R2 _ (r2.mutP hj hm (y := .lst (zs ++ [v])) (d' := .lst (ds ++ [d])) (AtL.app f4 (.cons hv2 .nil))) ((s0.trans s1).trans s2) q2
/-- what the state tells, is known -/
theorem vs_pure {t : TS} {P : Prop} (hP : ∀ σ R H, Rep K G B env σ R H → P) (h : P → VS K G B t env nx rt bk ct) : VS K G B t env nx rt bk ct := fun σ R H r => h (hP σ R H r) σ R H r
/-- two views of one list -/
theorem hp_same (r : Rep K G B env σ R H) {j : Nat} {gs : List (Addr × D)} (hj : env[j]? = some (.hp gs)) {a : Addr} {x y : Str} {ds es : List D} (h1 : (a, .lst (.str x :: ds)) ∈ gs) (h2 : (a, .lst (.str y :: es)) ∈ gs) : x = y := by
  obtain ⟨ys, _, _, h3, h4⟩ := hp_at r hj h1
  obtain ⟨zs, _, _, g3, g4⟩ := hp_at r hj h2
  rw [h3] at g3
  cases g3
  cases h4 with
  | cons a1 _ =>
    cases g4 with
    | cons b1 _ =>
      cases a1
      cases b1
      rfl
mutual
/-- what is known again, is told without pointers -/
theorem own_back {R2 : Hp} {gs : List (Addr × D)} (s : Same R R2) (hg : ∀ q ∈ gs, ∃ y, R2 q.1 = some y ∧ MAt K R2 y q.2) : ∀ {d e : D}, OwnR gs d e → ∀ {v : V}, At K R v e → At K R2 v d
  | _, _, .flat _, _, t => t.same s
  | _, _, .lst h, _, t => by
    rw [ptr_at t]
    obtain ⟨y, h1, h2⟩ := hg _ h
    cases y <;> first | exact .lst h1 h2 | exact h2.elim
  | _, _, .tup h, _, t => by
    cases t with
    | tup h1 h2 => exact .tup (same_t s h1) (own_backL s hg h h2)
  | _, _, .dct h, _, t => by
    cases t with
    | dct h1 h2 => exact .dct (s _ _ h1) (own_backD s hg h h2)
theorem own_backL {R2 : Hp} {gs : List (Addr × D)} (s : Same R R2) (hg : ∀ q ∈ gs, ∃ y, R2 q.1 = some y ∧ MAt K R2 y q.2) : ∀ {d e : List D}, OwnL gs d e → ∀ {v : List V}, AtL K R v e → AtL K R2 v d
  | _, _, .nil, _, t => by cases t; exact .nil
  | _, _, .cons h r, _, t => by
    cases t with
    | cons h1 h2 => exact .cons (own_back s hg h h1) (own_backL s hg r h2)
theorem own_backD {R2 : Hp} {gs : List (Addr × D)} (s : Same R R2) (hg : ∀ q ∈ gs, ∃ y, R2 q.1 = some y ∧ MAt K R2 y q.2) : ∀ {d e : List (Key × D)}, OwnD gs d e → ∀ {v : List (Key × V)}, AtD K R v e → AtD K R2 v d
  | _, _, .nil, _, t => by cases t; exact .nil
  | _, _, .cons h r, _, t => by
    cases t with
    | cons h1 h2 => exact .cons (own_back s hg h h1) (own_backD s hg r h2)
end
def backOf (R H : Hp) (gs : List (Addr × D)) : Hp := fun b => match R b with
  | some o => some o
  | none => if b ∈ gs.map (·.1) then H b else none
theorem back_old {b : Addr} {o : HO} {gs : List (Addr × D)} (h : R b = some o) : backOf R H gs b = some o := by
  unfold backOf
  rw [h]
theorem back_in {b : Addr} {gs : List (Addr × D)} (h : R b = none) (hm : b ∈ gs.map (·.1)) : backOf R H gs b = H b := by
  unfold backOf
  rw [h]
  simp only
  rw [if_pos hm]
theorem back_out {b : Addr} {gs : List (Addr × D)} (h : R b = none) (hm : b ∉ gs.map (·.1)) : backOf R H gs b = none := by
  unfold backOf
  rw [h]
  simp only
  rw [if_neg hm]
/-- the slot's objects are given away -/
theorem Rep.ofHp (r : Rep K G B env σ R H) {j : Nat} {gs : List (Addr × D)} (hj : env[j]? = some (.hp gs)) : Rep K G B (env.set j .u) σ (backOf R H gs) H ∧ Same R (backOf R H gs) ∧ ∀ q ∈ gs, ∃ y, backOf R H gs q.1 = some y ∧ MAt K (backOf R H gs) y q.2 := by
  have sm : Same R (backOf R H gs) := fun b x e => back_old e
  have hjl : j < env.length := (List.getElem?_eq_some_iff.mp hj).1
  have fact := r.slots j _ hj
  have fact : ∀ q ∈ gs, B.H q.1 = none ∧ R q.1 = none ∧ ∃ y, H q.1 = some y ∧ MAt K R y q.2 := fact
  have rf := r.forget j
  have no : ∀ b, b ∈ gs.map (·.1) → NoOwn (env.set j .u) σ b ∧ ∀ q ∈ B.pr, q.1 ≠ b := fun b hb => ⟨r.noown hj (show Slot.owns σ[j]? b (.hp gs) from hb), r.nopr' hj (show Slot.owns σ[j]? b (.hp gs) from hb)⟩
  refine ⟨?_, sm, fun q hq => ?_⟩
  · exact {
      sub0 := r.sub0
      tab := r.tab
      step := {
        same := r.step.same.trans sm
        sub := fun b x e => by
          cases q : R b with
          | some o =>
            rw [back_old q] at e
            cases e
            exact r.step.sub b x q
          | none =>
            by_cases hm : b ∈ gs.map (·.1)
            · rw [back_in q hm] at e
              obtain ⟨g, hg, rfl⟩ := List.mem_map.mp hm
              obtain ⟨_, _, y, h3, h4⟩ := fact g hg
              rw [h3] at e
              cases e
              exact subAt_of h3 (mat_mk h4)
            · rw [back_out q hm] at e
              cases e
        kept := r.step.kept
        out := fun b y e hd n => by
          have h1 := r.step.out b y e hd n
          by_cases hm : b ∈ gs.map (·.1)
          · obtain ⟨g, hg, rfl⟩ := List.mem_map.mp hm
            have := (fact g hg).1
            rw [e] at this
            cases this
          · exact back_out h1 hm }
      len := rf.len
      dist := rf.dist
      pr := fun q hq => by
        obtain ⟨h1, h2, h3, h4⟩ := rf.pr q hq
        refine ⟨h1, ?_, h3, h4⟩
        by_cases hm : q.1 ∈ gs.map (·.1)
        · exact absurd rfl ((no _ hm).2 q hq)
        · exact back_out h2 hm
      slots := fun i sl q => by
        have hs := rf.slots i sl q
        have nb : ∀ b, R b = none → (Slot.owns σ[i]? b sl) → backOf R H gs b = none := fun b hb o => by
          by_cases hm : b ∈ gs.map (·.1)
          · exact absurd o ((no b hm).1 i sl q)
          · exact back_out hb hm
        cases sl with
        | u => trivial
        | p d =>
          obtain ⟨v, h1, h2⟩ := hs
          exact ⟨v, h1, h2.same sm⟩
        | mu d =>
          obtain ⟨b, y, h1, h2, h3, h4, h5⟩ := hs
          exact ⟨b, y, h1, h2, nb b h3 h1, h4, h5.same sm⟩
        | hp hs' =>
          intro g hg
          obtain ⟨h2, h3, y, h4, h5⟩ := hs g hg
          exact ⟨h2, nb g.1 h3 (List.mem_map_of_mem (f := (·.1)) hg), y, h4, h5.same sm⟩ }
  · obtain ⟨_, h2, y, h3, h4⟩ := fact q hq
    exact ⟨y, by rw [back_in h2 (List.mem_map_of_mem (f := (·.1)) hq)]; exact h3, h4.same sm⟩
/-- the slot's objects are plain from here on -/
theorem vs_frzP (i j : Nat) {t : TS} {gs : List (Addr × D)} {d e : D} (hi : env[i]? = some (.p e)) (hj : env[j]? = some (.hp gs)) (ho : OwnR gs d e) (h : VS K G B t ((env.set j .u).set i (.p d)) nx rt bk ct) : VS K G B t env nx rt bk ct := fun σ R H r Z kn kr kb kc => by
  obtain ⟨r2, sm, hg⟩ := r.ofHp hj
  have hij : i ≠ j := fun z => by
    subst z
    rw [hi] at hj
    cases hj
  obtain ⟨v, h1, h2⟩ := r.slots i _ hi
  have hil : i < (env.set j .u).length := by rw [List.length_set]; exact (List.getElem?_eq_some_iff.mp hi).1
  have es : σ.set i (some v) = σ := by
    refine List.ext_getElem? fun k => ?_
    by_cases e : i = k
    · subst e
      rw [List.getElem?_set_self (r2.ilt hil), h1]
    · rw [List.getElem?_set_ne e]
  have r3 := r2.set (sl := .p d) (v := v) hil ⟨v, by rw [List.getElem?_set_self (r2.ilt hil)], own_back sm hg ho h2⟩ noOwn_p
  rw [es] at r3
  exact h σ _ H r3 Z (fun e σ' R' H' r' s' q => kn e σ' R' H' r' (sm.trans s') q) (fun v e σ' R' H' x r' s' hv q => kr v e σ' R' H' x r' (sm.trans s') hv q) (fun e σ' R' H' r' s' q => kb e σ' R' H' r' (sm.trans s') q) (fun e σ' R' H' r' s' q => kc e σ' R' H' r' (sm.trans s') q)
theorem vs_frzB (i j : Nat) {t : TS} {gs : List (Addr × D)} {ds es : List D} (hi : env[i]? = some (.p (.lst es))) (hj : env[j]? = some (.hp gs)) (ho : OwnL gs ds es) (h : VS K G B t ((env.set j .u).set i (.p (.lst ds))) nx rt bk ct) : VS K G B t env nx rt bk ct := fun σ R H r Z kn kr kb kc => by
  obtain ⟨r2, sm, hg⟩ := r.ofHp hj
  obtain ⟨v, h1, h2⟩ := r.slots i _ hi
  have hil : i < (env.set j .u).length := by rw [List.length_set]; exact (List.getElem?_eq_some_iff.mp hi).1
  have es : σ.set i (some v) = σ := by
    refine List.ext_getElem? fun k => ?_
    by_cases e : i = k
    · subst e
      rw [List.getElem?_set_self (r2.ilt hil), h1]
    · rw [List.getElem?_set_ne e]
  have h3 : At K (backOf R H gs) v (.lst ds) := by
    cases h2 with
    | lst g1 g2 => exact .lst (sm _ _ g1) (own_backL sm hg ho g2)
  have r3 := r2.set (sl := .p (.lst ds)) (v := v) hil ⟨v, by rw [List.getElem?_set_self (r2.ilt hil)], h3⟩ noOwn_p
  rw [es] at r3
  exact h σ _ H r3 Z (fun e σ' R' H' r' s' q => kn e σ' R' H' r' (sm.trans s') q) (fun v e σ' R' H' x r' s' hv q => kr v e σ' R' H' x r' (sm.trans s') hv q) (fun e σ' R' H' r' s' q => kb e σ' R' H' r' (sm.trans s') q) (fun e σ' R' H' r' s' q => kc e σ' R' H' r' (sm.trans s') q)
/-! ### lent behind pointers -/
inductive LentR (env : Vn) : List XV → List D → Prop
  | nil : LentR env [] []
  | p {d : D} {xs : List XV} {ds : List D} : LentR env xs ds → LentR env (.p d :: xs) (d :: ds)
  | m {i : Nat} {d : D} {xs : List XV} {ds : List D} : LentR env xs ds → LentR env (.m i d :: xs) (d :: ds)
  | h {j : Nat} {gs : List (Addr × D)} {d e : D} {xs : List XV} {ds : List D} : env[j]? = some (.hp gs) → OwnR gs d e → LentR env xs ds → LentR env (.p e :: xs) (d :: ds)
theorem lent_atR (r : Rep K G B env σ R H) : ∀ {xs : List XV} {ds : List D}, LentR env xs ds → ∀ {vs : List V}, VAtL K B env σ R H vs xs → AtL K (lend R H env σ) vs ds := by
  have s : Same R (lend R H env σ) := fun b x e => by
    rw [lend_no]
    · exact e
    · intro z
      rw [(r.mu z).1] at e
      cases e
  intro xs ds t
  induction t with
  | nil =>
    intro vs h
    cases vs with
    | nil => exact .nil
    | cons _ _ => exact h.elim
  | p _ ih =>
    intro vs h
    cases vs with
    | nil => exact h.elim
    | cons v vs => exact .cons (At.same s h.1) (ih h.2)
  | @m i d xs ds _ ih =>
    intro vs h
    cases vs with
    | nil => exact h.elim
    | cons v vs =>
      refine .cons ?_ (ih h.2)
      obtain ⟨h1, h2⟩ := h.1
      obtain ⟨a, y, g1, g2, g3, g4, g5⟩ := r.slots i _ h1
      rw [g1] at h2
      cases h2
      have e : lend R H env σ a = some y := (lend_mu ⟨i, _, h1, g1⟩).trans g4
      exact At.of_matS g5 e s
  | @h j gs d e xs ds hj ho _ ih =>
    intro vs h
    cases vs with
    | nil => exact h.elim
    | cons v vs =>
      refine .cons (own_back s (fun q hq => ?_) ho h.1) (ih h.2)
      obtain ⟨h1, h2, y, h3, h4⟩ := r.slots j _ hj q hq
      exact ⟨y, (lend_mu ⟨j, _, hj, List.mem_map_of_mem (f := (·.1)) hq⟩).trans h3, h4.same s⟩
theorem call_lentR {α : Type} {fr : Bool} {args : α → List D} {pre : α → Prop} {post : α → D → Prop} {rs : α → Addr → Prop} {E : XK} {X : Addr → Prop} (L : Lets K G B E X) (r1 : Rep K G B env σ R1 H1) {vs : List V} {x : α} (hv : AtL K (lend R1 H1 env σ) vs (args x)) (hp : pre x) (hr : ∀ C, rs x C → X C) {Qh : VK}
    (hd : ∀ d, post x d → D.deepT 9 d = true) (k : ∀ v R' H' d, Rep K G B env σ R' H' → Same R1 R' → At K R' v d → post x d → Qh v H') : SpA K G fr args pre post rs vs H1 Qh E := by
  have key : ∀ R' H', Step K G (lend R1 H1 env σ) H1 R' H' → Step K G R1 H1 (cutMu R' env σ) H' := fun R' H' s => {
    same := fun b x e => by
      have nb : ¬ MuAt env σ b := fun z => by
        rw [(r1.mu z).1] at e
        cases e
      rw [cut_no nb]
      exact s.same b x ((lend_no nb).trans e)
    sub := fun b x e => by
      by_cases z : MuAt env σ b
      · rw [cut_mu z] at e
        cases e
      · rw [cut_no z] at e
        exact s.sub b x e
    kept := fun b y e n => s.kept b y e fun m z => by
      by_cases w : MuAt env σ b
      · rw [lend_mu w, e] at z
        cases z
        obtain ⟨_, y', h1, h2⟩ := r1.mu w
        rw [e] at h1
        cases h1
        exact ld_mk h2
      · rw [lend_no w] at z
        exact n m z
    out := fun b y e hd n => by
      by_cases w : MuAt env σ b
      · exact cut_mu w
      · rw [cut_no w]
        exact s.out b y e hd ((lend_no w).trans n) }
  have sub : Sub K G (lend R1 H1 env σ) H1 := fun b x e => by
    by_cases w : MuAt env σ b
    · rw [lend_mu w] at e
      obtain ⟨_, y, h1, h2⟩ := r1.mu w
      rw [e] at h1
      cases h1
      exact subAt_of e (ld_mk h2)
    · rw [lend_no w] at e
      exact r1.sub b x e
  have tb : TabIn G (lend R1 H1 env σ) := TabIn.go r1.tab' fun b z e => by
    rw [lend_no]
    · exact e
    · intro w
      rw [(r1.mu w).1] at e
      cases e
  refine ⟨lend R1 H1 env σ, x, ⟨sub, tb⟩, hv, hp, fun v R' H' d s ha _ hpost => ?_, fun C R' H' s hc => L C (cutMu R' env σ) H' (r1.step.trans (key R' H' s)) (hr C hc)⟩
  have st := key R' H' s
  refine k v (cutMu R' env σ) H' d (r1.go st) st.same (at_cut (fun b w => ?_) 9 (hd d hpost) ha) hpost
  obtain ⟨_, y, h1, h2⟩ := r1.mu w
  exact ⟨y, s.same b y ((lend_mu w).trans h1), h2⟩
theorem ve_callP {α : Type} {fr : Bool} {args : α → List D} {pre : α → Prop} {post : α → D → Prop} {rs : α → Addr → Prop} {E : XK} {X : Addr → Prop} {t : TA} (L : Lets K G B E X)
    (h : VA K G B t env fun xs => ∃ x, LentR env xs (args x) ∧ pre x ∧ (∀ C, rs x C → X C) ∧ ∀ d, post x d → D.deepT 9 d = true ∧ Q (.p d)) : VE K G B (tCall (SpA K G fr args pre post rs) [] E t) env Q := fun σ R H rp Qh k =>
  h σ R H rp _ fun vs R1 H1 xs r1 s1 hv _ ⟨x, e, hp, hr, q⟩ => by
    rw [List.append_nil]
    exact call_lentR L r1 (lent_atR r1 e hv) hp hr (fun d hd => (q d hd).1) fun v R' H' d r' s' ha hd => k v R' H' (.p d) r' (s1.trans s') ha (q d hd).2
/-- a < b < c -/
theorem ve_chain {r r' : R2} {ta tb tc : TE} (h : VE K G B ta env fun x => x.fz fun x => VE K G B tb env fun y => y.fz fun y => VO K G B r env x y fun z => ∃ b, z = .p (.bl b) ∧ (b = true → VE K G B tc env fun w => w.fz fun w => VO K G B r' env y w Q) ∧ (b = false → Q (.p (.bl false)))) : VE K G B (tChain r r' ta tb tc) env Q := fun σ R H rp Qh k =>
  h σ R H rp _ fun v R1 H1 x r1 s1 hv q => by
    obtain ⟨R2, x', r2, s2, hv2, ho, q2⟩ := hv.fz r1 q
    refine q2 σ R2 H1 r2 _ fun w R3 H3 y r3 s3 hw q3 => ?_
    obtain ⟨R4, y', r4, s4, hw4, ho4, q4⟩ := hw.fz r3 q3
    refine q4 σ R4 H3 r4 v w (hv2.go ho (s3.trans s4)) hw4 _ fun z R5 H5 z' r5 s5 hz ⟨b, e, q5, q6⟩ => ?_
    subst e
    cases hz
    refine ⟨b, rfl, ?_⟩
    have st : Same R R5 := (((s1.trans s2).trans s3).trans s4).trans s5
    cases b with
    | true =>
      rw [if_pos rfl]
      refine q5 rfl σ R5 H5 r5 _ fun u R6 H6 u' r6 s6 hu q7 => ?_
      obtain ⟨R7, u2, r7, s7, hu7, ho7, q8⟩ := hu.fz r6 q7
      exact q8 σ R7 H6 r7 w u (hw4.go ho4 ((s5.trans s6).trans s7)) hu7 _ fun t R8 H8 t' r8 s8 ht q9 => k t R8 H8 t' r8 (((st.trans s6).trans s7).trans s8) ht q9
    | false =>
      rw [if_neg Bool.false_ne_true]
      exact k _ R5 H5 (.p (.bl false)) r5 st (.bl false) (q6 rfl)
end
end VL

/-! A def that changes lists that are the caller's own: SpM; expressions that do so: VEx. -/
namespace VL
open PySem L2
def lessG (H : Hp) (gs : List (Addr × D)) : Hp := fun b => if b ∈ gs.map (·.1) then none else H b
/-- own: the caller's lists behind pointers; post tells what they are then -/
def SpM (K : PySem.W.Frag) (G : Gs) {α : Type} (args : α → List D) (own : α → List (Addr × D)) (pre : α → Prop) (post : α → List (Addr × D) → D → Prop) : Sp := fun vs H Q E =>
  ∃ R x, (Sub K G R (lessG H (own x)) ∧ TabIn G R) ∧ AtL K R vs (args x) ∧ pre x ∧ (∀ q ∈ own x, R q.1 = none ∧ ∃ y, H q.1 = some y ∧ MAt K R y q.2) ∧
    ∀ v R' H' d gs, Step K G R (lessG H (own x)) R' H' → At K R' v d → gs.map (·.1) = (own x).map (·.1) → (∀ q ∈ gs, R' q.1 = none ∧ ∃ y, H' q.1 = some y ∧ MAt K R' y q.2) → post x gs d → Q v H'
section
variable {K : PySem.W.Frag} {G : Gs} {B : Bs} {env : Vn} {σ : L2.St} {R R' R1 H H' H1 : Hp} {Q : XV → Prop} {nx : Vn → Prop} {rt : XV → Prop} {bk ct : Vn → Prop} {Qx : Vn → XV → Prop}
def VEx (K : PySem.W.Frag) (G : Gs) (B : Bs) (t : TE) (env : Vn) (Q : Vn → XV → Prop) : Prop := ∀ σ R H, Rep K G B env σ R H → ∀ Qh : VK,
  (∀ v e R' H' x, Rep K G B e σ R' H' → Same R R' → VAt K B e σ R' H' v x → Q e x → Qh v H') → t σ H Qh
theorem vx_of {t : TE} (h : VE K G B t env (Qx env)) : VEx K G B t env Qx := fun σ R H r Qh k => h σ R H r Qh fun v R' H' x r' s' hv q => k v env R' H' x r' s' hv q
theorem vx_andV {ta tb : TE} (h : VE K G B ta env fun x => ∃ b, x = .p (.bl b) ∧ (b = true → VEx K G B tb env Qx) ∧ (b = false → Qx env (.p (.bl false)))) : VEx K G B (tAndV ta tb) env Qx := fun σ R H r Qh k => h σ R H r _ fun v R' H' x r' s' hv ⟨b, e, q1, q2⟩ => by
  subst e
  cases hv
  refine ⟨b, rfl, ?_⟩
  cases b with
  | true =>
    show tb σ H' Qh
    exact q1 rfl σ R' H' r' Qh fun z e R2 H2 x2 r2 s2 hz q => k z e R2 H2 x2 r2 (s'.trans s2) hz q
  | false =>
    show Qh (.bl false) H'
    exact k _ env R' H' (.p (.bl false)) r' s' (At.bl false) (q2 rfl)
theorem vs_retX {te : TE} (h : VEx K G B te env fun _ x => rt x) : VS K G B (tRet te) env nx rt bk ct := fun σ R H r Z _ kr _ _ => h σ R H r _ fun v e R' H' x r' s' hv q => kr v e σ R' H' x r' s' hv q
theorem vs_exprX {te : TE} (h : VEx K G B te env fun e _ => nx e) : VS K G B (tDrop te) env nx rt bk ct := fun σ R H r Z kn _ _ _ => h σ R H r _ fun v e R' H' x r' s' hv q => kn e σ R' H' r' s' q
theorem vs_asgX {i : Nat} {te : TE} (h : VEx K G B te env fun e x => i < e.length ∧ ∃ d, x = .p d ∧ nx (e.set i (.p d))) : VS K G B (tAsg te (gName i)) env nx rt bk ct := fun σ R H r Z kn _ _ _ => h σ R H r _ fun v e R' H' x r' s' hv ⟨hi, d, ex, q⟩ => by
  subst ex
  exact kn _ _ _ _ (r'.set (sl := .p d) (v := v) hi ⟨v, by rw [List.getElem?_set_self (r'.ilt hi)], hv⟩ noOwn_p) s' q
theorem less_none {gs : List (Addr × D)} {b : Addr} (h : b ∈ gs.map (·.1)) : lessG H gs b = none := if_pos h
theorem less_some {gs : List (Addr × D)} {b : Addr} (h : b ∉ gs.map (·.1)) : lessG H gs b = H b := if_neg h
theorem less_of {gs : List (Addr × D)} {b : Addr} {o : HO} (h : lessG H gs b = some o) : b ∉ gs.map (·.1) ∧ H b = some o := by
  unfold lessG at h
  split at h
  · cases h
  · rename_i q
    exact ⟨q, h⟩
/-- what is known, is known without the own lists -/
theorem sub_less (rs : Sub K G R H) {gs : List (Addr × D)} (hg : ∀ q ∈ gs, R q.1 = none ∧ ∃ y, H q.1 = some y ∧ MAt K R y q.2) : Sub K G R (lessG H gs) := fun b x e => by
  have hb : b ∉ gs.map (·.1) := fun hm => by
    obtain ⟨q, hq, rfl⟩ := List.mem_map.mp hm
    rw [(hg q hq).1] at e
    cases e
  refine subAt_go (rs b x e) (less_some hb) fun c o h l => ?_
  rw [less_some]
  · exact h
  · intro hm
    obtain ⟨q, hq, rfl⟩ := List.mem_map.mp hm
    obtain ⟨_, y, h2, h3⟩ := hg q hq
    rw [h] at h2
    cases h2
    rw [hard_ld (mat_ld h3)] at l
    cases l
theorem sub_more {gs : List (Addr × D)} (rs : Sub K G R (lessG H gs)) : Sub K G R H := fun b x e => by
  have hb : b ∉ gs.map (·.1) := fun hm => by
    have := rs.none (less_none (H := H) hm)
    rw [this] at e
    cases e
  exact subAt_go (rs b x e) (less_some hb).symm fun c o h l => (less_of h).2
theorem step_more {gs : List (Addr × D)} (rs : Sub K G R (lessG H gs)) : Step K G R (lessG H gs) R H := ⟨Same.refl R, sub_more rs, fun a y h _ => (less_of h).2, fun a y h _ n => n⟩
/-- a call that changes the lists of a slot -/
theorem vx_callM {j : Nat} {α : Type} {args : α → List D} {own : α → List (Addr × D)} {pre : α → Prop} {post : α → List (Addr × D) → D → Prop} {E : XK} {t : TA}
    (h : VA K G B t env fun xs => ∃ x, xs = (args x).map XV.p ∧ env[j]? = some (.hp (own x)) ∧ pre x ∧ ∀ gs d, gs.map (·.1) = (own x).map (·.1) → post x gs d → Qx (env.set j (.hp gs)) (.p d)) : VEx K G B (tCall (SpM K G args own pre post) [] E t) env Qx := fun σ R H rp Qh k =>
  h σ R H rp _ fun vs R1 H1 xs r1 s1 hv _ ⟨x, e, hj, hp, q⟩ => by
    subst e
    rw [List.append_nil]
    have fact : ∀ q ∈ own x, B.H q.1 = none ∧ R1 q.1 = none ∧ ∃ y, H1 q.1 = some y ∧ MAt K R1 y q.2 := r1.slots j _ hj
    have hg : ∀ q ∈ own x, R1 q.1 = none ∧ ∃ y, H1 q.1 = some y ∧ MAt K R1 y q.2 := fun q hq => (fact q hq).2
    refine ⟨R1, x, ⟨sub_less r1.sub hg, r1.tab'⟩, atL_of hv, hp, hg, fun v R' H' d gs s ha hk hgs hpost => ?_⟩
    have hjl : j < env.length := (List.getElem?_eq_some_iff.mp hj).1
    have ne_own : ∀ {b : Addr} {o : HO}, H1 b = some o → NoOwn env σ b → lessG H1 (own x) b = some o := fun {b} {o} e n => by
      rw [less_some]
      · exact e
      · exact fun hm => n j _ hj hm
    have back : ∀ (i : Nat) sl b, (env.set j (.hp gs))[i]? = some sl → Slot.owns σ[i]? b sl → ∃ s0, env[i]? = some s0 ∧ Slot.owns σ[i]? b s0 := fun i sl b hi o => by
      by_cases e : j = i
      · subst e
        rw [List.getElem?_set_self hjl] at hi
        cases hi
        have o' : b ∈ gs.map (·.1) := o
        rw [hk] at o'
        exact ⟨_, hj, o'⟩
      · rw [List.getElem?_set_ne e] at hi
        exact ⟨sl, hi, o⟩
    have rep : Rep K G B (env.set j (.hp gs)) σ R' H' := {
      sub0 := r1.sub0
      tab := r1.tab
      step := {
        same := r1.step.same.trans s.same
        sub := s.sub
        kept := fun a y e n => by
          have h1 := r1.step.kept a y e n
          refine s.kept a y ?_ (r1.step.nx n e)
          rw [less_some]
          · exact h1
          · intro hm
            obtain ⟨q, hq, rfl⟩ := List.mem_map.mp hm
            rw [(fact q hq).1] at e
            cases e
        out := fun a y e hd n => by
          have h1 := r1.step.kept a y e (no_mk n)
          refine s.out a y ?_ hd (r1.step.out a y e hd n)
          rw [less_some]
          · exact h1
          · intro hm
            obtain ⟨q, hq, rfl⟩ := List.mem_map.mp hm
            rw [(fact q hq).1] at e
            cases e }
      len := by rw [List.length_set]; exact r1.len
      slots := fun i sl hi => by
        by_cases e : j = i
        · subst e
          rw [List.getElem?_set_self hjl] at hi
          cases hi
          intro q hq
          obtain ⟨h1, h2⟩ := hgs q hq
          refine ⟨?_, h1, h2⟩
          have : q.1 ∈ (own x).map (·.1) := by rw [← hk]; exact List.mem_map_of_mem (f := (·.1)) hq
          obtain ⟨p, hp', ep⟩ := List.mem_map.mp this
          rw [← ep]
          exact (fact p hp').1
        · rw [List.getElem?_set_ne e] at hi
          have hs := r1.slots i sl hi
          have ne : ∀ b, Slot.owns σ[i]? b sl → b ∉ (own x).map (·.1) := fun b o hm => r1.dist i j sl _ b (fun z => e z.symm) hi hj o hm
          cases sl with
          | u => trivial
          | p d =>
            obtain ⟨w, h1, h2⟩ := hs
            exact ⟨w, h1, h2.same s.same⟩
          | mu d =>
            obtain ⟨a, y, h1, h2, h3, h4, h5⟩ := hs
            have hl : lessG H1 (own x) a = some y := (less_some (ne a h1)).trans h4
            exact ⟨a, y, h1, h2, s.out a y hl (hard_ld (mat_ld h5)) h3, s.kept a y hl (no_mk h3), h5.same s.same⟩
          | hp hs' =>
            intro g hg'
            obtain ⟨h2, h3, y, h4, h5⟩ := hs g hg'
            have hl : lessG H1 (own x) g.1 = some y := (less_some (ne g.1 (List.mem_map_of_mem (f := (·.1)) hg'))).trans h4
            exact ⟨h2, s.out _ y hl (hard_ld (mat_ld h5)) h3, y, s.kept _ y hl (no_mk h3), h5.same s.same⟩
      dist := fun i k si sk a hik hi hk' o1 o2 => by
        obtain ⟨t1, q1, w1⟩ := back i si a hi o1
        obtain ⟨t2, q2, w2⟩ := back k sk a hk' o2
        exact r1.dist i k t1 t2 a hik q1 q2 w1 w2
      pr := fun q hq => by
        obtain ⟨h1, h2, h3, h4, h5⟩ := r1.pr q hq
        have hl := ne_own h3 h5
        refine ⟨h1, s.out _ _ hl (hard_ld h4) h2, s.kept _ _ hl (no_mk h2), h4, fun i sl hi o => ?_⟩
        obtain ⟨t1, q1, w1⟩ := back i sl _ hi o
        exact h5 i t1 q1 w1 }
    exact k v _ R' H' (.p d) rep (s1.trans s.same) ha (q gs d hk hpost)
/-- f(a, b), b changes lists that are lent to f -/
theorem vx_call2 {α : Type} {fr : Bool} {args : α → List D} {pre : α → Prop} {post : α → D → Prop} {rs : α → Addr → Prop} {X : Addr → Prop} {E : XK} {ta tb : TE} (L : Lets K G B E X)
    (h : VE K G B ta env fun x => ∃ d1, x = .p d1 ∧ VEx K G B tb env fun e y => ∃ d2, y = .p d2 ∧ ∃ x, LentR e [.p d1, .p d2] (args x) ∧ pre x ∧ (∀ C, rs x C → X C) ∧ ∀ d, post x d → D.deepT 9 d = true ∧ Qx e (.p d)) :
    VEx K G B (tCall (SpA K G fr args pre post rs) [] E (tCons ta (tCons tb tNil))) env Qx := fun σ R H rp Qh k =>
  h σ R H rp _ fun v1 R1 H1 x1 r1 s1 hv1 ⟨d1, e1, q1⟩ => by
    subst e1
    refine q1 σ R1 H1 r1 _ fun v2 e R2 H2 y r2 s2 hv2 ⟨d2, e2, x, hl, hp, hr, q⟩ => ?_
    subst e2
    have hvl : VAtL K B e σ R2 H2 [v1, v2] [.p d1, .p d2] := ⟨At.same s2 hv1, hv2, trivial⟩
    show SpA K G fr args pre post rs ([v1, v2] ++ []) H2 Qh E
    rw [List.append_nil]
    exact call_lentR L r2 (lent_atR r2 hl hvl) hp hr (fun d hd => (q d hd).1) fun v R' H' d r' s' ha hd => k v e R' H' (.p d) r' ((s1.trans s2).trans s') ha (q d hd).2
/-! ### a def that changes lists handed in -/
theorem repM_start {N : List Str} {vs : List V} {ds : List D} {gs : List (Addr × D)} (s : Sub K G R (lessG H gs)) (tb : TabIn G R) (h : AtL K R vs ds) (hn : ds.length + 1 ≤ N.length) (hg : ∀ q ∈ gs, R q.1 = none ∧ ∃ y, H q.1 = some y ∧ MAt K R y q.2) :
    Rep K G ⟨R, lessG H gs, []⟩ ((ds.map Slot.p ++ List.replicate (N.length - ds.length) Slot.u).set (N.length - 1) (.hp gs)) (L2.start N vs) R H := by
  have r0 := (rep_start (N := N) s tb h (by omega)).go (step_more s)
  have hl : (ds.map Slot.p ++ List.replicate (N.length - ds.length) Slot.u)[N.length - 1]? = some .u := by
    rw [List.getElem?_append_right (by rw [List.length_map]; omega), List.length_map, List.getElem?_replicate, if_pos (by omega)]
  have fresh : ∀ q ∈ gs, lessG H gs q.1 = none := fun q hq => less_none (List.mem_map_of_mem (f := (·.1)) hq)
  exact r0.toHp hl (fun q hq => ⟨fresh q hq, hg q hq⟩) fun q hq => ⟨(rep_start (N := N) s tb h (by omega)).noslot (fresh q hq), fun p hp => by cases hp⟩
/-- .. whose last statement returns a slot -/
theorem run_defM {α : Type} {args : α → List D} {own : α → List (Addr × D)} {pre : α → Prop} {post : α → List (Addr × D) → D → Prop} {vs : List V} {Q : VK} {E : XK} {t : TS} {i : Nat} {N : List Str}
    (hn : ∀ x, (args x).length + 1 ≤ N.length) {env0 : α → Vn} (he : ∀ x, ((args x).map Slot.p ++ List.replicate (N.length - (args x).length) Slot.u).set (N.length - 1) (.hp (own x)) = env0 x)
    (h : ∀ B x, pre x → VS K G B t (env0 x) (fun e => ∃ gs d, e[i]? = some (.p d) ∧ e[N.length - 1]? = some (.hp gs) ∧ gs.map (·.1) = (own x).map (·.1) ∧ post x gs d) (fun _ => False) (fun _ => False) (fun _ => False))
    (hs : SpM K G args own pre post vs H Q E) : (tSeq t (tRet (tVar i))) { nx := fun _ H' => Q .non H', rt := Q } (L2.start N vs) H := by
  obtain ⟨R, x, ⟨s, tb⟩, ha, hp, hg, q⟩ := hs
  have h := h ⟨R, lessG H (own x), []⟩ x hp
  rw [← he x] at h
  refine h _ R H (repM_start s tb ha (hn x) hg) _ ?_ ?_ ?_ ?_
  · intro e σ' R' H' r _ ⟨gs, d, h1, h2, h3, h4⟩
    obtain ⟨v, g1, g2⟩ := r.slots i _ h1
    refine ⟨v, g1, q v R' H' d gs r.step g2 h3 (fun p hp => ?_) h4⟩
    exact (r.slots _ _ h2 p hp).2
  · intro v e σ' R' H' y r _ hv hq
    exact hq.elim
  · intro e σ' R' H' r _ hq
    exact hq.elim
  · intro e σ' R' H' r _ hq
    exact hq.elim
/-- .. that returns None -/
theorem run_defM0 {α : Type} {args : α → List D} {own : α → List (Addr × D)} {pre : α → Prop} {post : α → List (Addr × D) → D → Prop} {vs : List V} {Q : VK} {E : XK} {t : TS} {N : List Str}
    (hn : ∀ x, (args x).length + 1 ≤ N.length) {env0 : α → Vn} (he : ∀ x, ((args x).map Slot.p ++ List.replicate (N.length - (args x).length) Slot.u).set (N.length - 1) (.hp (own x)) = env0 x)
    (h : ∀ B x, pre x → VS K G B t (env0 x) (fun e => ∃ gs, e[N.length - 1]? = some (.hp gs) ∧ gs.map (·.1) = (own x).map (·.1) ∧ post x gs .non) (fun _ => False) (fun _ => False) (fun _ => False))
    (hs : SpM K G args own pre post vs H Q E) : t { nx := fun _ H' => Q .non H', rt := Q } (L2.start N vs) H := by
  obtain ⟨R, x, ⟨s, tb⟩, ha, hp, hg, q⟩ := hs
  have h := h ⟨R, lessG H (own x), []⟩ x hp
  rw [← he x] at h
  refine h _ R H (repM_start s tb ha (hn x) hg) _ ?_ ?_ ?_ ?_
  · intro e σ' R' H' r _ ⟨gs, h2, h3, h4⟩
    exact q .non R' H' .non gs r.step .non h3 (fun p hp => (r.slots _ _ h2 p hp).2) h4
  · intro v e σ' R' H' y r _ hv hq
    exact hq.elim
  · intro e σ' R' H' r _ hq
    exact hq.elim
  · intro e σ' R' H' r _ hq
    exact hq.elim
theorem spM_len {args : α → List D} {own : α → List (Addr × D)} {pre : α → Prop} {post : α → List (Addr × D) → D → Prop} {E : XK} {n : Nat} (hn : ∀ x, (args x).length = n) {vs : List V} {Q : VK} (h : SpM K G args own pre post vs H Q E) : vs.length = n := by
  obtain ⟨R, x, _, ha, _⟩ := h
  rw [ha.len, hn]
end
end VL

/-! A plain dict is walked: it is locked meanwhile, and what is known ahead of the def is known without it. -/
namespace VL
open PySem L2
def Bs.less (B : Bs) (a : Addr) : Bs := ⟨without B.R a, without B.H a, B.pr⟩
section
variable {K : PySem.W.Frag} {G : Gs} {B : Bs} {env : Vn} {σ : L2.St} {R R' R1 H H' H1 : Hp} {Q : XV → Prop} {nx : Vn → Prop} {rt : XV → Prop} {bk ct : Vn → Prop} {Qx : Vn → XV → Prop}
theorem at_noD {R R' : Hp} (hm : ∀ b y, R b = some y → (∀ u, y ≠ .dK u) → (∀ o u, y ≠ .frz o (.dK u)) → R' b = some y) : ∀ (n : Nat) {v : V} {d : D}, D.noD n d = true → At K R v d → At K R' v d := by
  intro n
  induction n with
  | zero => intro v d h _; cases h
  | succ n ih =>
    intro v d h t
    cases t with
    | non => exact .non
    | bl b => exact .bl b
    | int i => exact .int i
    | str x => exact .str x
    | @tup b xs ds hs ht =>
      refine .tup (xs := xs) ?_ (ht.imp fun v d hm' => ih (List.all_eq_true.mp (show ds.all (D.noD n) = true from h) d hm'))
      rcases hs with (hs | ⟨o, hs⟩) | hs
      · exact .inl (.inl (hm _ _ hs (fun _ z => by cases z) fun _ _ z => by cases z))
      · exact .inl (.inr ⟨o, hm _ _ hs (fun _ z => by cases z) fun _ _ z => by cases z⟩)
      · exact .inr hs
    | @lst b xs ds hs ht => exact .lst (xs := xs) (hm _ _ hs (fun _ z => by cases z) fun _ _ z => by cases z) (ht.imp fun v d hm' => ih (List.all_eq_true.mp (show ds.all (D.noD n) = true from h) d hm'))
    | @ro b xs ds hs ht =>
      refine .ro (xs := xs) ?_ (ht.imp fun v d hm' => ih (List.all_eq_true.mp (show ds.all (D.noD n) = true from h) d hm'))
      rcases hs with (hs | ⟨o, hs⟩) | hs
      · exact .inl (.inl (hm _ _ hs (fun _ z => by cases z) fun _ _ z => by cases z))
      · exact .inl (.inr ⟨o, hm _ _ hs (fun _ z => by cases z) fun _ _ z => by cases z⟩)
      · exact .inr hs
    | dct _ _ => cases h
    | lkd _ _ => cases h
    | ins _ _ _ => cases h
    | dtt hs => exact .dtt (hm _ _ hs (fun _ z => by cases z) fun _ _ z => by cases z)
    | key hs => exact .key (hm _ _ hs (fun _ z => by cases z) fun _ _ z => by cases z)
    | ty n => exact .ty n
    | st hs => exact .st (hm _ _ hs (fun _ z => by cases z) fun _ _ z => by cases z)
    | ptr b => exact .ptr b
    | cm hs => exact .cm (hm _ _ hs (fun _ z => by cases z) fun _ _ z => by cases z)
theorem atD_noD {R R' : Hp} (hm : ∀ b y, R b = some y → (∀ u, y ≠ .dK u) → (∀ o u, y ≠ .frz o (.dK u)) → R' b = some y) {n : Nat} {vs : List (Key × V)} {ds : List (Key × D)} (h : (ds.all fun p => D.noD n p.2) = true) (t : AtD K R vs ds) : AtD K R' vs ds :=
  t.imp fun v d hd => at_noD hm n (by
    obtain ⟨p, hp, rfl⟩ := List.mem_map.mp hd
    exact List.all_eq_true.mp h p hp)
theorem mat_noD {R R' : Hp} (hm : ∀ b y, R b = some y → (∀ u, y ≠ .dK u) → (∀ o u, y ≠ .frz o (.dK u)) → R' b = some y) {y : HO} {d : D} (h : Slot.noD0 d = true) (t : MAt K R y d) : MAt K R' y d := by
  cases y <;> cases d <;> first
    | exact t.elim
    | cases h
    | exact AtL.imp t fun v d hd => at_noD hm 9 (List.all_eq_true.mp h d hd)
    | exact atD_noD hm (n := 9) h t
theorem slot_noD {R R' : Hp} {H H' : Hp} {B B' : Bs} (hm : ∀ b y, R b = some y → (∀ u, y ≠ .dK u) → (∀ o u, y ≠ .frz o (.dK u)) → R' b = some y) {i : Nat} {sl : Slot} (h : sl.noD = true) (t : SlotAt K B R H σ i sl)
    (ho : ∀ b y, Slot.owns σ[i]? b sl → B.H b = none → R b = none → H b = some y → B'.H b = none ∧ R' b = none ∧ H' b = some y) : SlotAt K B' R' H' σ i sl := by
  cases sl with
  | u => trivial
  | p d =>
    obtain ⟨v, g1, g2⟩ := t
    exact ⟨v, g1, at_noD hm 9 h g2⟩
  | mu d =>
    obtain ⟨b, y, g1, g2, g3, g4, g5⟩ := t
    obtain ⟨k1, k2, k3⟩ := ho b y g1 g2 g3 g4
    exact ⟨b, y, g1, k1, k2, k3, mat_noD hm (by cases d <;> first | exact h | cases h) g5⟩
  | hp gs =>
    refine fun g hg => ?_
    obtain ⟨g2, g3, y, g4, g5⟩ := t g hg
    obtain ⟨k1, k2, k3⟩ := ho g.1 y (List.mem_map_of_mem (f := (·.1)) hg) g2 g3 g4
    exact ⟨k1, k2, y, k3, mat_noD hm (List.all_eq_true.mp h g hg) g5⟩
/-- what is known of the dict ahead of the def -/
theorem Rep.ahead (r : Rep K G B env σ R H) {a : Addr} {xs : List (Key × V)} (hR : R a = some (.dK xs)) : (∀ y, B.R a = some y → y = .dK xs) ∧ ∀ y, B.H a = some y → y = .dK xs ∧ B.R a = some (.dK xs) := by
  have h1 : ∀ y, B.R a = some y → y = .dK xs := fun y e => by
    have := r.step.same a y e
    rw [hR] at this
    exact (Option.some.inj this).symm
  have hH := r.sub.of hR rfl
  refine ⟨h1, fun y e => ?_⟩
  cases q : B.R a with
  | some z =>
    have ez := h1 z q
    subst ez
    have := r.sub0.of q rfl
    rw [e] at this
    exact ⟨Option.some.inj this, rfl⟩
  | none =>
    have k := r.step.kept a y e (no_mk q)
    rw [hH] at k
    cases k
    have := r.step.out a _ e rfl q
    rw [hR] at this
    cases this
theorem Rep.lockP (r : Rep K G B env σ R H) {i : Nat} {a : Addr} {o : Obj} {xs : List (Key × V)} {ds : List (Key × D)} (hd : env[i]? = some (.p (.dct ds))) (h1 : σ[i]? = some (some (.ref a))) (hR : R a = some (.dK xs)) (hA : AtD K R xs ds) (hds : (ds.all fun p => D.noD 9 p.2) = true) (hn : ∀ (j : Nat) s, j ≠ i → env[j]? = some s → s.noD = true) :
    Rep K G (B.less a) (env.set i (.p (.lkd a ds))) σ (upd R a (.frz o (.dK xs))) (upd H a (.frz o (.dK xs))) := by
  obtain ⟨hBR, hBH⟩ := r.ahead hR
  have hH := r.sub.of hR rfl
  have hi := (List.getElem?_eq_some_iff.mp hd).1
  have hm : ∀ b y, R b = some y → (∀ u, y ≠ .dK u) → (∀ o u, y ≠ .frz o (.dK u)) → (upd R a (.frz o (.dK xs))) b = some y := fun b y e n _ => by
    rw [upd_ne]
    · exact e
    · rintro rfl
      rw [hR] at e
      cases e
      exact n _ rfl
  have nea : ∀ {b : Addr}, R b = none → b ≠ a := fun e z => by rw [z, hR] at e; cases e
  have lessH : ∀ {b : Addr} {y : HO}, (B.less a).H b = some y → b ≠ a ∧ B.H b = some y := fun {b} {y} e => by
    have e : without B.H a b = some y := e
    by_cases q : b = a
    · rw [q, without_same] at e
      cases e
    · rw [without_ne q] at e
      exact ⟨q, e⟩
  have lessR : ∀ {b : Addr} {y : HO}, (B.less a).R b = some y → b ≠ a ∧ B.R b = some y := fun {b} {y} e => by
    have e : without B.R a b = some y := e
    by_cases q : b = a
    · rw [q, without_same] at e
      cases e
    · rw [without_ne q] at e
      exact ⟨q, e⟩
  have noown : ∀ (j : Nat) sl b, (env.set i (.p (.lkd a ds)))[j]? = some sl → Slot.owns σ[j]? b sl → j ≠ i ∧ env[j]? = some sl := fun j sl b hj ow => by
    by_cases e : i = j
    · subst e
      rw [List.getElem?_set_self hi] at hj
      cases hj
      exact ow.elim
    · rw [List.getElem?_set_ne e] at hj
      exact ⟨fun z => e z.symm, hj⟩
  exact {
    sub0 := fun b x e => by
      obtain ⟨n, e⟩ := lessR e
      refine subAt_go (r.sub0 b x e) (without_ne n) fun c u hc l => ?_
      have : c ≠ a := fun z => by
        subst z
        have := (hBH u hc).1
        subst this
        cases l
      show without B.H a c = some u
      rw [without_ne this]
      exact hc
    tab := fun P e => by
      obtain ⟨ps, h⟩ := r.tab P e
      refine ⟨ps, ?_⟩
      show without B.R a P = _
      rw [without_ne]
      · exact h
      · rintro rfl
        have := hBR _ h
        cases this
    step := {
      same := fun b x e => by
        obtain ⟨n, e⟩ := lessR e
        rw [upd_ne n]
        exact r.step.same b x e
      sub := fun b x e => by
        by_cases q : b = a
        · subst q
          rw [upd_same] at e
          cases e
          exact subAt_of upd_same rfl
        · rw [upd_ne q] at e
          exact subAt_go (r.step.sub b x e) (upd_ne q) (hard_upd fun u z => by rw [hH] at z; cases z; rfl)
      kept := fun b y e n => by
        obtain ⟨q, e⟩ := lessH e
        rw [upd_ne q]
        refine r.step.kept b y e fun m z => n m ?_
        show without B.R a b = _
        rw [without_ne q]
        exact z
      out := fun b y e hd n => by
        obtain ⟨q, e⟩ := lessH e
        rw [upd_ne q]
        refine r.step.out b y e hd ?_
        have n : without B.R a b = none := n
        rw [without_ne q] at n
        exact n }
    len := by rw [List.length_set]; exact r.len
    slots := fun j sl hj => by
      by_cases e : i = j
      · subst e
        rw [List.getElem?_set_self hi] at hj
        cases hj
        exact ⟨.ref a, h1, .lkd upd_same (atD_noD hm hds hA)⟩
      · rw [List.getElem?_set_ne e] at hj
        refine slot_noD hm (hn j sl (fun z => e z.symm) hj) (r.slots j sl hj) fun b y ow b1 b2 b3 => ?_
        have q := nea b2
        exact ⟨by show without B.H a b = none; rw [without_ne q]; exact b1, by rw [upd_ne q]; exact b2, by rw [upd_ne q]; exact b3⟩
    dist := fun j k sj sk b hjk hj hk o1 o2 => by
      obtain ⟨_, hj⟩ := noown j sj b hj o1
      obtain ⟨_, hk⟩ := noown k sk b hk o2
      exact r.dist j k sj sk b hjk hj hk o1 o2
    pr := fun q hq => by
      obtain ⟨g1, g2, g3, g4, g5⟩ := r.pr q hq
      have e := nea g2
      exact ⟨by show without B.H a q.1 = none; rw [without_ne e]; exact g1, by rw [upd_ne e]; exact g2, by rw [upd_ne e]; exact g3, g4, fun j sl hj ow => g5 j sl (noown j sl _ hj ow).2 ow⟩ }
theorem Rep.unlockP {e : Vn} {σ' : L2.St} (r : Rep K G (B.less a) e σ' R' H') (s0 : Sub K G B.R B.H) (tb : ∀ P, G.tab = some P → ∃ ps, B.R P = some (.tbl ps)) {i : Nat} {o : Obj} {xs : List (Key × V)} {ds : List (Key × D)} (hd : e[i]? = some (.p (.lkd a ds))) (hR : R' a = some (.frz o (.dK xs))) (hBR : ∀ y, B.R a = some y → y = .dK xs) (hBH : ∀ y, B.H a = some y → y = .dK xs ∧ B.R a = some (.dK xs))
    (hA : AtD K (upd R' a (.dK xs)) xs ds) (hn : ∀ (j : Nat) s, j ≠ i → e[j]? = some s → s.noD = true) : Rep K G B (e.set i (.p (.dct ds))) σ' (upd R' a (.dK xs)) (upd H' a (.dK xs)) := by
  have hH := r.sub.of hR rfl
  have hi := (List.getElem?_eq_some_iff.mp hd).1
  have h1 : σ'[i]? = some (some (.ref a)) := by
    obtain ⟨v, g1, g2⟩ := r.slots i _ hd
    cases g2
    exact g1
  have hm : ∀ b y, R' b = some y → (∀ u, y ≠ .dK u) → (∀ o u, y ≠ .frz o (.dK u)) → (upd R' a (.dK xs)) b = some y := fun b y e _ n => by
    rw [upd_ne]
    · exact e
    · rintro rfl
      rw [hR] at e
      cases e
      exact n _ _ rfl
  have nea : ∀ {b : Addr}, R' b = none → b ≠ a := fun e z => by rw [z, hR] at e; cases e
  have noown : ∀ (j : Nat) sl b, (e.set i (.p (.dct ds)))[j]? = some sl → Slot.owns σ'[j]? b sl → j ≠ i ∧ e[j]? = some sl := fun j sl b hj ow => by
    by_cases q : i = j
    · subst q
      rw [List.getElem?_set_self hi] at hj
      cases hj
      exact ow.elim
    · rw [List.getElem?_set_ne q] at hj
      exact ⟨fun z => q z.symm, hj⟩
  have backH : ∀ {b : Addr} {y : HO}, B.H b = some y → b ≠ a → (B.less a).H b = some y := fun e q => (without_ne q).trans e
  exact {
    sub0 := s0
    tab := tb
    step := {
      same := fun b x e => by
        by_cases q : b = a
        · subst q
          rw [hBR x e]
          exact upd_same
        · rw [upd_ne q]
          exact r.step.same b x ((without_ne q).trans e)
      sub := fun b x e => by
        by_cases q : b = a
        · subst q
          rw [upd_same] at e
          cases e
          exact subAt_of upd_same rfl
        · rw [upd_ne q] at e
          exact subAt_go (r.step.sub b x e) (upd_ne q) (hard_upd fun u z => by rw [hH] at z; cases z; rfl)
      kept := fun b y e n => by
        by_cases q : b = a
        · subst q
          rw [(hBH y e).1]
          exact upd_same
        · rw [upd_ne q]
          refine r.step.kept b y (backH e q) fun m z => n m ?_
          have z : without B.R a b = some m := z
          rw [without_ne q] at z
          exact z
      out := fun b y e hd n => by
        by_cases q : b = a
        · subst q
          rw [(hBH y e).2] at n
          cases n
        · rw [upd_ne q]
          exact r.step.out b y (backH e q) hd ((without_ne q).trans n) }
    len := by rw [List.length_set]; exact r.len
    slots := fun j sl hj => by
      by_cases q : i = j
      · subst q
        rw [List.getElem?_set_self hi] at hj
        cases hj
        exact ⟨.ref a, h1, .dct upd_same hA⟩
      · rw [List.getElem?_set_ne q] at hj
        refine slot_noD hm (hn j sl (fun z => q z.symm) hj) (r.slots j sl hj) fun b y ow b1 b2 b3 => ?_
        have w := nea b2
        have b1 : without B.H a b = none := b1
        rw [without_ne w] at b1
        exact ⟨b1, by rw [upd_ne w]; exact b2, by rw [upd_ne w]; exact b3⟩
    dist := fun j k sj sk b hjk hj hk o1 o2 => by
      obtain ⟨_, hj⟩ := noown j sj b hj o1
      obtain ⟨_, hk⟩ := noown k sk b hk o2
      exact r.dist j k sj sk b hjk hj hk o1 o2
    pr := fun q hq => by
      obtain ⟨g1, g2, g3, g4, g5⟩ := r.pr q hq
      have w := nea g2
      have g1 : without B.H a q.1 = none := g1
      rw [without_ne w] at g1
      exact ⟨g1, by rw [upd_ne w]; exact g2, by rw [upd_ne w]; exact g3, g4, fun j sl hj ow => g5 j sl (noown j sl _ hj ow).2 ow⟩ }
/-- a statement that walks a plain dict; nothing is returned from within -/
theorem vs_lockP {i : Nat} {t : TS} {ds : List (Key × D)} (hd : env[i]? = some (.p (.dct ds))) (hds : (ds.all fun p => D.noD 9 p.2) = true) (hn : ((env.set i .u).all Slot.noD) = true)
    (h : ∀ a, VS K G (B.less a) t (env.set i (.p (.lkd a ds))) (fun e => Unl i a ds e ∧ nx (e.set i (.p (.dct ds)))) (fun x => False) (fun e => Unl i a ds e ∧ bk (e.set i (.p (.dct ds)))) (fun e => Unl i a ds e ∧ ct (e.set i (.p (.dct ds))))) :
    VS K G B (tLock t) env nx rt bk ct := fun σ R H r Z kn kr kb kc => by
  obtain ⟨v, h1, hv⟩ := r.slots i _ hd
  cases hv with
  | @dct a xs _ hR hA =>
  have hH := r.sub.of hR rfl
  refine ⟨a, .dK xs, hH, trivial, fun o => ?_⟩
  obtain ⟨hBR, hBH⟩ := r.ahead hR
  have hi := (List.getElem?_eq_some_iff.mp hd).1
  have others : ∀ (j : Nat) s, j ≠ i → env[j]? = some s → s.noD = true := fun j s hj hs => List.all_eq_true.mp hn s (by
    refine List.mem_of_getElem? (i := j) ?_
    rw [List.getElem?_set_ne (Ne.symm hj)]
    exact hs)
  have r1 := r.lockP (o := o) hd h1 hR hA hds others
  have fin : ∀ {e : Vn} {σ' R' H'}, Rep K G (B.less a) e σ' R' H' → Same (upd R a (.frz o (.dK xs))) R' → Unl i a ds e → H' a = some (.frz o (.dK xs)) ∧ Rep K G B (e.set i (.p (.dct ds))) σ' (upd R' a (.dK xs)) (upd H' a (.dK xs)) ∧ Same R (upd R' a (.dK xs)) := fun {e} {σ'} {R'} {H'} r' s' u => by
    have k1 : R' a = some (.frz o (.dK xs)) := s' a _ upd_same
    have sm : Same R (upd R' a (.dK xs)) := fun b x e => by
      by_cases q : b = a
      · subst q
        rw [hR] at e
        cases e
        exact upd_same
      · rw [upd_ne q]
        exact s' b x (by rw [upd_ne q]; exact e)
    exact ⟨r'.sub.of k1 rfl, r'.unlockP r.sub0 r.tab u.1 k1 hBR hBH (hA.same sm) u.2, sm⟩
  refine h a σ _ _ r1 _ (fun e σ' R' H' r' s' ⟨u, q⟩ => ?_) (fun v e σ' R' H' x r' s' hv q => q.elim) (fun e σ' R' H' r' s' ⟨u, q⟩ => ?_) (fun e σ' R' H' r' s' ⟨u, q⟩ => ?_)
  · obtain ⟨f1, f2, f3⟩ := fin r' s' u
    exact ⟨f1, kn _ σ' _ _ f2 f3 q⟩
  · obtain ⟨f1, f2, f3⟩ := fin r' s' u
    exact ⟨f1, kb _ σ' _ _ f2 f3 q⟩
  · obtain ⟨f1, f2, f3⟩ := fin r' s' u
    exact ⟨f1, kc _ σ' _ _ f2 f3 q⟩
theorem seq_assoc (A C D : TS) : tSeq A (tSeq C D) = tSeq (tSeq A C) D := rfl
/-- as run_defM, the slot an own object -/
theorem run_defMo {α : Type} {args : α → List D} {own : α → List (Addr × D)} {pre : α → Prop} {post : α → List (Addr × D) → D → Prop} {vs : List V} {Q : VK} {E : XK} {t : TS} {i : Nat} {N : List Str} (hi : i ≠ N.length - 1)
    (hn : ∀ x, (args x).length + 1 ≤ N.length) {env0 : α → Vn} (he : ∀ x, ((args x).map Slot.p ++ List.replicate (N.length - (args x).length) Slot.u).set (N.length - 1) (.hp (own x)) = env0 x)
    (h : ∀ B x, pre x → VS K G B t (env0 x) (fun e => ∃ gs d, e[i]? = some (.mu d) ∧ e[N.length - 1]? = some (.hp gs) ∧ gs.map (·.1) = (own x).map (·.1) ∧ post x gs d) (fun _ => False) (fun _ => False) (fun _ => False))
    (hs : SpM K G args own pre post vs H Q E) : (tSeq t (tRet (tVar i))) { nx := fun _ H' => Q .non H', rt := Q } (L2.start N vs) H := by
  obtain ⟨R, x, ⟨s, tb⟩, ha, hp, hg, q⟩ := hs
  have h := h ⟨R, lessG H (own x), []⟩ x hp
  rw [← he x] at h
  refine h _ R H (repM_start s tb ha (hn x) hg) _ ?_ ?_ ?_ ?_
  · intro e σ' R' H' r s' ⟨gs, d, h1, h2, h3, h4⟩
    obtain ⟨a, y, g1, g2, g3, g4, g5⟩ := r.slots i _ h1
    have ow : Slot.owns σ'[i]? a (.mu d) := g1
    have r2 := (r.forget i).take g4 (mat_mk g5) g2 g3 (r.noown h1 ow) (r.nopr' h1 ow)
    have h2' : (e.set i .u)[N.length - 1]? = some (.hp gs) := by rw [List.getElem?_set_ne hi]; exact h2
    refine ⟨.ref a, g1, q (.ref a) (upd R' a y) H' d gs r2.step (At.of_mat g5 g3) h3 (fun p hp => ?_) h4⟩
    exact (r2.slots _ _ h2' p hp).2
  · intro v e σ' R' H' y r _ hv hq
    exact hq.elim
  · intro e σ' R' H' r _ hq
    exact hq.elim
  · intro e σ' R' H' r _ hq
    exact hq.elim
end
end VL

/-! Defs in local names: for deed in (f, g): deed(x). -/
namespace VL
open PySem PySem.Spec PyProof.Rows L2
/-- some defs, each with its promise -/
def Cals (P : Program) (w : World) (K : PySem.W.Frag) (mg : Str → Option Value) (base : Heap) (j : Nat) (l : List (Str × Sp)) : Prop := ∀ p ∈ l, ∃ k, k ≤ j ∧ Cal P w K mg base k p.1 p.2 []
theorem cals_nil {P : Program} {w : World} {K : PySem.W.Frag} {mg : Str → Option Value} {base : Heap} {j : Nat} : Cals P w K mg base j [] := fun p hp => by cases hp
theorem cals_cons {P : Program} {w : World} {K : PySem.W.Frag} {mg : Str → Option Value} {base : Heap} {j k : Nat} {x : Str} {sp : Sp} {l : List (Str × Sp)} (c : Cal P w K mg base k x sp []) (hk : k ≤ j) (r : Cals P w K mg base j l) :
    Cals P w K mg base j ((x, sp) :: l) := fun p hp => by
  rcases List.mem_cons.mp hp with rfl | hp
  · exact ⟨k, hk, c⟩
  · exact r p hp
def inDefs (mg : Str → Option Value) (l : List (Str × Sp)) (f : Addr) (sp : Sp) : Prop := ∃ p ∈ l, mg p.1 = some (.ref f) ∧ sp = p.2
/-- f(..), the i-th slot holds a def of some -/
def tCallR (i : Nat) (D : Addr → Sp → Prop) (t : TA) : TE := fun σ H Q => ∃ f sp, σ[i]? = some (some (.ref f)) ∧ D f sp ∧ tCall sp [] E0 t σ H Q
def tDef (mg : Str → Option Value) (x : Str) : TE := fun σ H Q => ∃ f, mg x = some (.ref f) ∧ Q (.ref f) H
section
variable {X : Cx} {i j : Nat} {x : Str} {p pos : Pos} {e : Expr} {es : List Expr} {t : TA} {l : List (Str × Sp)}
theorem pe_callR {mg' : Str → Option Value} (A : Cals X.prog X.w X.K mg' X.base j l) (hmg : X.mg = mg') (hr : Room j X.A) (hN : X.N[i]? = some x) (hv : Vis X.env.scope x) (ha : PA X (e :: es) t)
    (hdb : (x == ("__debug__" : Str)) = false := by decide) (hcd : (x == ("__classdict__" : Str)) = false := by decide)
    (he : starEach (e :: es) X.env = (false, eval e X.env) :: starEach es X.env := by rfl) (hpl : (backTo pos (starEach es X.env)).any (·.1) = false := by rfl) : PE X (.Call (.Name x p) (e :: es) [] pos) (tCallR i (inDefs mg' l) t) := by
  subst hmg
  refine ⟨fun pins s σ H Q I h => ?_⟩
  obtain ⟨f, sp, hs, ⟨q, hq, hm, rfl⟩, ht⟩ := h
  obtain ⟨k, hk, c⟩ := A q hq
  obtain ⟨f', fd, ps, ds, F, hm', kp, b, d⟩ := c.ex
  have ef : f' = f := by
    rw [hm] at hm'
    cases hm'
    rfl
  subst ef
  exact (pe_callL (i := i) (f := f') (sp := q.2) (dvs := []) (E := E0) F (hr.mono hk) hN hv kp b d pass0 ha hdb hcd he hpl).run pins s σ H Q I ⟨hs, ht⟩
theorem pe_def (hg : Gl X x) (hd : (x == ("__debug__" : Str)) = false := by decide) : PE X (.Name x p) (tDef X.mg x) := ⟨fun pins s σ H Q I ⟨f, hm, q⟩ => (pe_glob (v := .ref f) hg hm rfl hd).run pins s σ H Q I q⟩
end
section
variable {K : PySem.W.Frag} {G : Gs} {B : Bs} {env : Vn} {Q : XV → Prop} {mg : Str → Option Value}
theorem Cal.at' {P : Program} {w : World} {base : Heap} {k : Nat} {x : Str} {sp : Sp} {dvs : List V} (c : Cal P w K mg base k x sp dvs) {R : Addr → Prop} (h : ∀ f, mg x = some (.ref f) → R f) : ∃ f, mg x = some (.ref f) ∧ R f := by
  obtain ⟨f, _, _, _, _, hm, _⟩ := c.ex
  exact ⟨f, hm, h f hm⟩
theorem ve_def {x : Str} (h : ∃ f, mg x = some (.ref f) ∧ Q (.p (.ptr f))) : VE K G B (tDef mg x) env Q := fun σ R H r Qh k => by
  obtain ⟨f, hm, q⟩ := h
  exact ⟨f, hm, k _ R H (.p (.ptr f)) r (Same.refl R) (.ptr f) q⟩
theorem ve_callR {i : Nat} {l : List (Str × Sp)} {f : Addr} {x : Str} {sp : Sp} {t : TA} (hd : env[i]? = some (.p (.ptr f))) (hl : (x, sp) ∈ l) (hm : mg x = some (.ref f)) (h : VE K G B (tCall sp [] E0 t) env Q) : VE K G B (tCallR i (inDefs mg l) t) env Q := fun σ R H r Qh k => by
  obtain ⟨v, h1, h2⟩ := r.slots i _ hd
  rw [ptr_at h2] at h1
  exact ⟨f, sp, h1, ⟨_, hl, hm, rfl⟩, h σ R H r Qh k⟩
variable {nx : Vn → Prop} {rt : XV → Prop} {bk ct : Vn → Prop} {σ : L2.St} {R H : Hp}
theorem Rep.redo (r : Rep K G B env σ R H) {i : Nat} {d : D} {v : V} (hi : i < env.length) (h1 : σ[i]? = some (some v)) (h2 : At K R v d) : Rep K G B (env.set i (.p d)) σ R H := by
  have e : σ.set i (some v) = σ := by
    have hs := (List.getElem?_eq_some_iff.mp h1).1
    refine List.ext_getElem? fun j => ?_
    by_cases q : i = j
    · subst q
      rw [List.getElem?_set_self hs, h1]
    · rw [List.getElem?_set_ne q]
  have := r.set (i := i) (sl := .p d) (v := v) hi ⟨v, by rw [e]; exact h1, h2⟩ (fun a o => o.elim)
  rw [e] at this
  exact this
/-- what a slot holds is not looked at in a statement -/
theorem vs_hide (i : Nat) {t : TS} {ds : List (Key × D)} (hd : env[i]? = some (.p (.dct ds))) (h : ∀ a, VS K G B t (env.set i (.p (.ptr a))) (fun e => e[i]? = some (.p (.ptr a)) ∧ nx (e.set i (.p (.dct ds)))) rt (fun e => e[i]? = some (.p (.ptr a)) ∧ bk (e.set i (.p (.dct ds)))) (fun e => e[i]? = some (.p (.ptr a)) ∧ ct (e.set i (.p (.dct ds))))) :
    VS K G B t env nx rt bk ct := fun σ R H r Z kn kr kb kc => by
  obtain ⟨v, h1, h2⟩ := r.slots i _ hd
  have hi := (List.getElem?_eq_some_iff.mp hd).1
  cases h2 with
  | @dct a xs _ hR hA =>
  have back : ∀ {e : Vn} {σ' : L2.St} {R' H' : Hp}, Rep K G B e σ' R' H' → Same R R' → e[i]? = some (.p (.ptr a)) → Rep K G B (e.set i (.p (.dct ds))) σ' R' H' := fun {e} {σ'} {R'} {H'} r' s' he => by
    obtain ⟨w, w1, w2⟩ := r'.slots i _ he
    rw [ptr_at w2] at w1
    exact r'.redo (List.getElem?_eq_some_iff.mp he).1 w1 ((At.dct hR hA).same s')
  exact h a σ R H (r.redo hi h1 (.ptr a)) Z (fun e σ' R' H' r' s' ⟨u, q⟩ => kn _ σ' R' H' (back r' s' u) s' q) kr (fun e σ' R' H' r' s' ⟨u, q⟩ => kb _ σ' R' H' (back r' s' u) s' q) (fun e σ' R' H' r' s' ⟨u, q⟩ => kc _ σ' R' H' (back r' s' u) s' q)
end
end VL

/-! Defs that raise own errors, try/except, isinstance of what was caught. -/
namespace VL
open PySem PySem.Spec PyProof.Rows L2
/-- a def that may let an exception out -/
structure CalX (P : Program) (w : World) (K : PySem.W.Frag) (mg : Str → Option Value) (base : Heap) (k : Nat) (x : Str) (sp : Sp) : Prop where
  ex : ∃ (f : Addr) (fd : FuncData) (ps : List Str), FnOk P w K mg base (L2.CX P w) k f fd ps sp ∧ mg x = some (.ref f) ∧ PySem.W.keepIn K (.ref f) = true ∧ Binds K fd ps []
section
variable {X : Cx} {k j : Nat} {x : Str} {p pos : Pos} {e : Expr} {es : List Expr} {sp : Sp} {t : TA} {E : XK} {W : WX}
theorem pe_cX (c : CalX X.prog X.w X.K X.mg X.base k x sp) (hr : Room j X.A) (hk : k ≤ j) (hg : Gl X x) (hx : Passes (L2.CX X.prog X.w) X E) (ha : PA X (e :: es) t)
    (hdb : (x == ("__debug__" : Str)) = false := by decide) (he : starEach (e :: es) X.env = (false, eval e X.env) :: starEach es X.env := by rfl) (hpl : (backTo pos (starEach es X.env)).any (·.1) = false := by rfl) :
    PE X (.Call (.Name x p) (e :: es) [] pos) (tCall sp [] E t) := by
  obtain ⟨f, fd, ps, F, hm, kp, b⟩ := c.ex
  exact pe_call F (hr.mono hk) hg hm kp b .nil hx ha hdb he hpl
theorem pe_cT (c : CalX X.prog X.w X.K X.mg X.base k x sp) (hr : Room j X.A) (hk : k ≤ j) (hg : Gl X x) (tk : Takes X W) (ha : PA X (e :: es) t)
    (hdb : (x == ("__debug__" : Str)) = false := by decide) (he : starEach (e :: es) X.env = (false, eval e X.env) :: starEach es X.env := by rfl) (hpl : (backTo pos (starEach es X.env)).any (·.1) = false := by rfl) :
    PE X (.Call (.Name x p) (e :: es) [] pos) (tCallS sp (WE W) t) := by
  obtain ⟨f, fd, ps, F, hm, kp, b⟩ := c.ex
  exact pe_callS F (hr.mono hk) hg hm kp b (passAt tk) ha hdb he hpl
/-- isinstance of the caught exception: of a class or of one of a tuple's -/
def rIsX (K : PySem.W.Frag) (cls : Value) (d : Option Addr) (a : Addr) : List V → Hp → VK → Prop := fun xs H Q => ∃ D, cls = .ref D ∧ d = none ∧ ExcC K D ∧
  ((∃ c u b, xs = [.ref a, c] ∧ ClsV c u ∧ PySem.W.kitOne K (.ref D) u = some b ∧ Q (.bl b) H) ∨ (∃ tp cs us b, xs = [.ref a, .ref tp] ∧ SqT K H tp cs ∧ Paired ClsV cs us ∧ PySem.W.kitAny K (.ref D) us = some b ∧ Q (.bl b) H))
theorem call_isX {a : Addr} {oe : Obj} {pn : List (Addr × Obj)} {cls : Value} {d : Option Addr} (hz : Zc cls d oe) (hf : ∃ vs, oe.data = .fields vs) : CallR (X.suite a ((a, oe) :: pn)) (.builtin "isinstance") (rIsX X.K cls d a) := by
  intro pins s σ H xs us Q I r h
  obtain ⟨D, rfl, rfl, C, h⟩ := h
  obtain ⟨hget, _⟩ := I.pin (a, oe) (List.mem_append.mpr (.inl List.mem_cons_self))
  obtain ⟨vs, hv⟩ := hf
  have J : PySem.W.InstAt s.heap a oe D none := by
    obtain ⟨oc, od, oda, osl⟩ := oe
    obtain ⟨h1, h2⟩ := hz
    dsimp only at h1 h2 hv
    subst h1 h2 hv
    exact ⟨hget, rfl, rfl, trivial⟩
  have Z := PySem.W.handS_kitx_exc (x := a) (ox := oe) C.hg C.hk C.hs C.hd C.ha C.hn C.ht C.hm
  rcases h with ⟨c, u, b, rfl, k, e, q⟩ | ⟨tp, cs, ws, b, rfl, hT, k, e, q⟩
  · cases r with
    | cons rx rr =>
      cases rr with
      | cons rt rr =>
        cases rr
        cases rx
        have ec := k.eq rt
        subst ec
        exact PySem.W.kia_one Z I.kIn J e (fun z => nomatch z) fun tk => ⟨.bl b, H, I.kept (t' := tk) fun _ _ z => z, rfl, q⟩
  · cases r with
    | cons rx rr =>
      cases rr with
      | cons rt rr =>
        cases rr
        cases rx
        cases rt
        obtain ⟨its, rv, ⟨o, h1, h2, n, h3⟩, _⟩ := I.tuple hT
        have e3 := ClsV.all k rv
        subst e3
        obtain ⟨oc, od, dt, sl⟩ := o
        simp only at h2 h3
        subst h2 h3
        exact PySem.W.kia_tup Z I.kIn J h1 e (fun z => nomatch z) fun tk => ⟨.bl b, H, I.kept (t' := tk) fun _ _ z => z, rfl, q⟩
end
section
variable {K : PySem.W.Frag} {G : Gs} {B : Bs} {env : Vn} {σ : L2.St} {R R' H H' : Hp} {Q : XV → Prop} {nx : Vn → Prop} {rt : XV → Prop} {bk ct : Vn → Prop}
/-- a slot that nothing is told of is emptied -/
theorem Rep.unset (r : Rep K G B env σ R H) (i : Nat) : Rep K G B (env.set i .u) (σ.set i none) R H := by
  have r0 := r.forget i
  have at_ : ∀ (j : Nat) s, (env.set i .u)[j]? = some s → s = .u ∨ (σ.set i none)[j]? = σ[j]? := fun j s hj => by
    by_cases e : i = j
    · subst e
      have hi := (List.getElem?_eq_some_iff.mp hj).1
      rw [List.length_set] at hi
      rw [List.getElem?_set_self hi] at hj
      exact .inl (Option.some.inj hj).symm
    · exact .inr (List.getElem?_set_ne e)
  exact {
    sub0 := r0.sub0
    tab := r0.tab
    step := r0.step
    len := by rw [List.length_set]; exact r0.len
    slots := fun j s hj => by
      rcases at_ j s hj with rfl | e
      · trivial
      · have := r0.slots j s hj
        cases s with
        | u => trivial
        | p d => obtain ⟨v, h1, h2⟩ := this; exact ⟨v, by rw [e]; exact h1, h2⟩
        | mu d => obtain ⟨a, y, h1, h2⟩ := this; exact ⟨a, y, by rw [e]; exact h1, h2⟩
        | hp gs => exact this
    dist := fun j k sj sk a hjk hj hk o1 o2 => by
      rcases at_ j sj hj with rfl | e1
      · exact o1
      · rcases at_ k sk hk with rfl | e2
        · exact o2
        · rw [e1] at o1
          rw [e2] at o2
          exact r0.dist j k sj sk a hjk hj hk o1 o2
    pr := fun q hq => by
      obtain ⟨g1, g2, g3, g0, g4⟩ := r0.pr q hq
      refine ⟨g1, g2, g3, g0, fun j e hj o => ?_⟩
      rcases at_ j e hj with rfl | e1
      · exact o
      · rw [e1] at o
        exact g4 j e hj o }
/-- statements of a try's body: xq: what is so where a class's exception comes -/
def VSX (K : PySem.W.Frag) (G : Gs) (B : Bs) (tb : WX → TS) (env : Vn) (nx : Vn → Prop) (rt : XV → Prop) (bk ct : Vn → Prop) (xq : Addr → Vn → Prop) : Prop := ∀ σ R H, Rep K G B env σ R H → ∀ (Z : Ends) (W : WX),
  (∀ env' σ' R' H', Rep K G B env' σ' R' H' → Same R R' → nx env' → Z.nx σ' H') →
  (∀ v env' σ' R' H' x, Rep K G B env' σ' R' H' → Same R R' → VAt K B env' σ' R' H' v x → rt x → Z.rt v H') →
  (∀ env' σ' R' H', Rep K G B env' σ' R' H' → Same R R' → bk env' → Z.bk σ' H') →
  (∀ env' σ' R' H', Rep K G B env' σ' R' H' → Same R R' → ct env' → Z.ct σ' H') →
  (∀ C env' σ' R' H', Rep K G B env' σ' R' H' → Same R R' → xq C env' → W (.ref C) none σ' H') → tb W Z σ H
variable {xq : Addr → Vn → Prop}
theorem vsx_plain {t : TS} (h : VS K G B t env nx rt bk ct) : VSX K G B (fun _ => t) env nx rt bk ct xq := fun σ R H r Z _ kn kr kb kc _ => h σ R H r Z kn kr kb kc
theorem vsx_seq {t u : WX → TS} (h : VSX K G B t env (fun e => VSX K G B u e nx rt bk ct xq) rt bk ct xq) : VSX K G B (fun W => tSeq (t W) (u W)) env nx rt bk ct xq := fun σ R H r Z W kn kr kb kc kx =>
  h σ R H r { Z with nx := u W Z } W (fun e' σ' R' H' r' s' q => q σ' R' H' r' Z W (fun e2 σ2 R2 H2 r2 s2 q2 => kn e2 σ2 R2 H2 r2 (s'.trans s2) q2) (fun v e2 σ2 R2 H2 x r2 s2 hv q2 => kr v e2 σ2 R2 H2 x r2 (s'.trans s2) hv q2)
    (fun e2 σ2 R2 H2 r2 s2 q2 => kb e2 σ2 R2 H2 r2 (s'.trans s2) q2) (fun e2 σ2 R2 H2 r2 s2 q2 => kc e2 σ2 R2 H2 r2 (s'.trans s2) q2) (fun C e2 σ2 R2 H2 r2 s2 q2 => kx C e2 σ2 R2 H2 r2 (s'.trans s2) q2)) kr kb kc kx
/-- f(..) as a statement -/
theorem vsx_call {α : Type} {fr : Bool} {args : α → List D} {pre : α → Prop} {post : α → D → Prop} {rs : α → Addr → Prop} {t : TA}
    (h : VA K G B t env fun xs => ∃ x, xs = (args x).map XV.p ∧ pre x ∧ (∀ C, rs x C → xq C env) ∧ ∀ d, post x d → nx env) : VSX K G B (fun W => tDrop (tCallS (SpA K G fr args pre post rs) (WE W) t)) env nx rt bk ct xq := fun σ R H rp Z W kn kr kb kc kx =>
  h σ R H rp _ fun vs R1 H1 xs r1 s1 hv _ ⟨x, e, hp, hr, q⟩ => by
    subst e
    exact ⟨R1, x, ⟨r1.sub, r1.tab'⟩, atL_of hv, hp, fun v R' H' d s ha _ hd => kn env σ R' H' (r1.go s) (s1.trans s.same) (q d hd), fun C R' H' s hc => kx C env σ R' H' (r1.go s) (s1.trans s.same) (hr C hc)⟩
/-- x = f(..) -/
theorem vsx_asg {α : Type} {fr : Bool} {args : α → List D} {pre : α → Prop} {post : α → D → Prop} {rs : α → Addr → Prop} {t : TA} {g : TG}
    (h : VA K G B t env fun xs => ∃ x, xs = (args x).map XV.p ∧ pre x ∧ (∀ C, rs x C → xq C env) ∧ ∀ d, post x d → VG K G B g (.p d) env nx) : VSX K G B (fun W => tAsg (tCallS (SpA K G fr args pre post rs) (WE W) t) g) env nx rt bk ct xq := fun σ R H rp Z W kn kr kb kc kx =>
  h σ R H rp _ fun vs R1 H1 xs r1 s1 hv _ ⟨x, e, hp, hr, q⟩ => by
    subst e
    exact ⟨R1, x, ⟨r1.sub, r1.tab'⟩, atL_of hv, hp, fun v R' H' d s ha _ hd => q d hd σ R' H' (r1.go s) v ha _ fun e2 σ2 R2 H2 r2 s2 q2 => kn e2 σ2 R2 H2 r2 ((s1.trans s.same).trans s2) q2, fun C R' H' s hc => kx C env σ R' H' (r1.go s) (s1.trans s.same) (hr C hc)⟩
/-- try: body / except c as n: suite (n's slot is i); every exception that comes is taken -/
def tTry (K : PySem.W.Frag) (c : Value) (i : Nat) (tb : WX → TS) (ts : Addr → Value → Option Addr → TS) (Wout : WX) : TS := fun D σ H => tb (wAs K c i ts Wout D) D σ H
theorem vs_try {c : Value} {i : Nat} {tb : WX → TS} {ts : Addr → Value → Option Addr → TS} {Wout : WX} (hi : i < env.length)
    (h : VSX K G B tb env nx rt bk ct fun C e => PySem.W.exmOne K (.ref C) c = some true ∧ i < e.length ∧ ∀ a, VS K G B (ts a (.ref C) none) (e.set i (.p (.ptr a))) (fun e' => nx (e'.set i .u)) rt (fun e' => bk (e'.set i .u)) (fun e' => ct (e'.set i .u))) :
    VS K G B (tTry K c i tb ts Wout) env nx rt bk ct := fun σ R H r Z kn kr kb kc =>
  h σ R H r Z _ kn kr kb kc fun C e σ' R' H' r' s' ⟨hb, hi', q⟩ => ⟨true, hb, fun _ a ha => q a _ R' H' (r'.set (sl := .p (.ptr a)) hi' ⟨.ref a, List.getElem?_set_self (by rw [r'.len]; exact hi'), .ptr a⟩ fun _ o => o.elim) _
    (fun e2 σ2 R2 H2 r2 s2 q2 => kn _ _ R2 H2 (r2.unset i) (s'.trans s2) q2) (fun v e2 σ2 R2 H2 x r2 s2 hv q2 => kr v e2 σ2 R2 H2 x r2 (s'.trans s2) hv q2)
    (fun e2 σ2 R2 H2 r2 s2 q2 => kb _ _ R2 H2 (r2.unset i) (s'.trans s2) q2) (fun e2 σ2 R2 H2 r2 s2 q2 => kc _ _ R2 H2 (r2.unset i) (s'.trans s2) q2), fun z => by cases z⟩
/-- isinstance of what was caught -/
def D.cls : D → Option Value
  | .ptr C => some (.ref C)
  | .ty n => some (.type n)
  | _ => none
theorem cls_at {v : V} {d : D} {u : Value} (h : At K R v d) (e : d.cls = some u) : ClsV v u := by
  cases h <;> first | (cases e; constructor; done) | cases e
theorem vc_isX {C a : Addr} {c : D} {u : Value} {b : Bool} (hc : ExcC K C) (hu : c.cls = some u) (hk : PySem.W.kitOne K (.ref C) u = some b) (q : Q (.p (.bl b))) : VC K G B (rIsX K (.ref C) none a) env [.p (.ptr a), .p c] Q := vc2 fun σ R H r v w hv hw Qh k => by
  rw [ptr_at hv]
  exact ⟨C, rfl, rfl, hc, .inl ⟨w, u, b, rfl, cls_at hw hu, hk, k _ R H (.p (.bl b)) r (Same.refl R) (.bl b) q⟩⟩
theorem clss_at : ∀ {vs : List V} {ds : List D} {us : List Value}, AtL K R vs ds → ds.map D.cls = us.map some → Paired ClsV vs us
  | _, _, [], .nil, _ => .nil
  | _, _, u :: us, .cons h t, e => by
    rw [List.map_cons, List.map_cons] at e
    obtain ⟨e1, e2⟩ := List.cons.inj e
    exact .cons (cls_at h e1) (clss_at t e2)
  | _, _, _ :: _, .nil, e => by cases e
  | _, _, [], .cons _ _, e => by cases e
theorem vc_isXT {C a : Addr} {cs : List D} {us : List Value} {b : Bool} (hc : ExcC K C) (hu : cs.map D.cls = us.map some) (hk : PySem.W.kitAny K (.ref C) us = some b) (q : Q (.p (.bl b))) : VC K G B (rIsX K (.ref C) none a) env [.p (.ptr a), .p (.tup cs)] Q := vc2 fun σ R H r v w hv hw Qh k => by
  obtain ⟨tp, xs, rfl, h1, _, h2⟩ := tup_at r hw
  rw [ptr_at hv]
  exact ⟨C, rfl, rfl, hc, .inr ⟨tp, xs, us, b, rfl, h1, clss_at h2 hu, hk, k _ R H (.p (.bl b)) r (Same.refl R) (.bl b) q⟩⟩
/-- raise X(..), X an own class at C -/
theorem vs_raise {E : XK} {Xc : Addr → Prop} {C : Addr} (L : Lets K G B E Xc) (h : Xc C) : VS K G B (fun _ _ H => E (.ref C) none H) env nx rt bk ct := fun σ R H r Z _ _ _ _ => L C R H r.step h
theorem ve_ref {C : Addr} (q : Q (.p (.ptr C))) : VE K G B (tC (.ref C)) env Q := fun σ R H r Qh k => k _ R H (.p (.ptr C)) r (Same.refl R) (.ptr C) q
end
/-- an own exception class over ValueError -/
structure Xc (K : PySem.W.Frag) (mg : Str → Option Value) (x : Str) : Prop where
  ex : ∃ C : Addr, PySem.W.nsIn K mainGlobals x = some (some (.ref C)) ∧ mg x = some (.ref C) ∧ PySem.W.keepIn K (.ref C) = true ∧
    PySem.W.excIn K C [.type "ValueError", .type "Exception", .type "BaseException", .type "object"] "ValueError.__new__" = true ∧
    PySem.W.subIn K (.ref C) (.type "BaseException") = some true ∧ PySem.W.typeIn K (.ref C) = some (.type "type") ∧ ExcC K C
/-- the class C is what the text's name x stands for -/
abbrev Is (K : PySem.W.Frag) (x : Str) (C : Addr) : Prop := PySem.W.nsIn K mainGlobals x = some (some (.ref C))
theorem Is.uniq {K : PySem.W.Frag} {x : Str} {C D : Addr} (h : Is K x C) (q : Is K x D) : C = D := by
  exact Value.ref.inj (Option.some.inj (Option.some.inj (h.symm.trans q)))
/-- a def that lets nothing out is one that may -/
theorem Cal.toX {P : Program} {w : World} {K : PySem.W.Frag} {mg : Str → Option Value} {base : Heap} {k : Nat} {x : Str} {sp : Sp} (c : Cal P w K mg base k x sp []) : CalX P w K mg base k x sp := by
  obtain ⟨f, fd, ps, ds, F, hm, kp, b, d⟩ := c.ex
  cases d
  refine ⟨f, fd, ps, ⟨F.len, fun A outer s H args us vs Q E hr he hb hv hs => ?_⟩, hm, kp, b⟩
  refine codeAny_mono (F.run A outer s H args us vs Q E hr he hb hv hs) fun r s' q => ?_
  cases r with
  | error e => exact q.elim
  | ok fl => cases fl <;> exact q
def CalsX (P : Program) (w : World) (K : PySem.W.Frag) (mg : Str → Option Value) (base : Heap) (j : Nat) (l : List (Str × Sp)) : Prop := ∀ p ∈ l, ∃ k, k ≤ j ∧ CalX P w K mg base k p.1 p.2
theorem calsX_nil {P : Program} {w : World} {K : PySem.W.Frag} {mg : Str → Option Value} {base : Heap} {j : Nat} : CalsX P w K mg base j [] := fun p hp => by cases hp
theorem calsX_cons {P : Program} {w : World} {K : PySem.W.Frag} {mg : Str → Option Value} {base : Heap} {j k : Nat} {x : Str} {sp : Sp} {l : List (Str × Sp)} (c : CalX P w K mg base k x sp) (hk : k ≤ j) (r : CalsX P w K mg base j l) :
    CalsX P w K mg base j ((x, sp) :: l) := fun p hp => by
  rcases List.mem_cons.mp hp with rfl | hp
  · exact ⟨k, hk, c⟩
  · exact r p hp
def tCallRT (i : Nat) (D : Addr → Sp → Prop) (W : WX) (t : TA) : TE := fun σ H Q => ∃ f sp, σ[i]? = some (some (.ref f)) ∧ D f sp ∧ tCallS sp (WE W) t σ H Q
section
variable {X : Cx} {i j : Nat} {x n : Str} {p pos pos' np : Pos} {e : Expr} {es : List Expr} {t : TA} {l : List (Str × Sp)} {W : WX} {E : XK}
theorem pe_callRT {mg' : Str → Option Value} (A : CalsX X.prog X.w X.K mg' X.base j l) (hmg : X.mg = mg') (hr : Room j X.A) (hN : X.N[i]? = some x) (hv : Vis X.env.scope x) (tk : Takes X W) (ha : PA X (e :: es) t)
    (hdb : (x == ("__debug__" : Str)) = false := by decide) (hcd : (x == ("__classdict__" : Str)) = false := by decide)
    (he : starEach (e :: es) X.env = (false, eval e X.env) :: starEach es X.env := by rfl) (hpl : (backTo pos (starEach es X.env)).any (·.1) = false := by rfl) : PE X (.Call (.Name x p) (e :: es) [] pos) (tCallRT i (inDefs mg' l) W t) := by
  subst hmg
  refine ⟨fun pins s σ H Q I h => ?_⟩
  obtain ⟨f, sp, hs, ⟨q, hq, hm, rfl⟩, ht⟩ := h
  obtain ⟨k, hk, c⟩ := A q hq
  obtain ⟨f', fd, ps, F, hm', kp, b⟩ := c.ex
  have ef : f' = f := by
    rw [hm] at hm'
    cases hm'
    rfl
  subst ef
  refine wpAny_Call_Name_kw (thn ((pe_var (pos := p) hN hv hdb hcd).run pins s σ H (fun v H1 => v = .ref f' ∧ H1 = H) I ⟨.ref f', hs, rfl, rfl⟩) fun u s1 ⟨v, H1, I1, r1, q1⟩ => ?_)
  obtain ⟨rfl, rfl⟩ := q1
  cases r1
  refine PySem.W.callWith_K (h₀ := X.base) I.ok.mod.kin kp (thn (ha.run pos pins s1 σ _ _ I1 ht) fun us s2 ⟨vs, H2, I2, r, q⟩ => ⟨I2.kIn, ?_⟩) he hpl
  exact run_fnS (F.mono hk) hr b (passAt tk σ) I2 r q
/-- what a callee lets out leaves this def, too -/
theorem passC {E₁ : Value → Shared → Prop} (hs : X.stack = X.env :: X.outer) (hf : X.env.frame = some X.env.locals) (hex : X.ex = [])
    (hx : X.xe = fun e s' => wpAny (model X.prog X.w) X.A (leaving X.env e) (fun _ s'' => L2.CX X.prog X.w X.outer X.H_0 X.s_0 E e s'') E₁ s') : Passes (L2.CX X.prog X.w) X E := passes_call (takes_of hs hf hex hx) fun _ _ _ _ h => h
theorem ps_try {c : Value} {i : Nat} {body suite : List Stmt} {b₀ : Stmt} {tb : WX → TS} {ts : Addr → Value → Option Addr → TS} {Wout : WX} (hs : X.stack = X.env :: X.outer) (hf : X.env.frame = some X.env.locals) (hN : X.N.Nodup) (hi : X.N[i]? = some n) (hln : X.env.kindOf n = some .local) (hc : Names X x c) (tk : Takes X Wout)
    (hb : ∀ (W : WX) (pn : List (Addr × Obj)) (xe : Value → Shared → Prop), Takes (X.tr pn xe) W → PassesOwn (model X.prog X.w) X.A X.env xe → PSs (X.tr pn xe) body (tb W))
    (hsu : ∀ (a : Addr) (oe : Obj) (cls : Value) (d : Option Addr) (pn : List (Addr × Obj)), Zc cls d oe → (∃ vs, oe.data = .fields vs) → PSs (X.suite a ((a, oe) :: pn)) (b₀ :: suite) (ts a cls d)) :
    PS X (.Try body [.ExceptHandler (some (.Name x np)) (some n) (b₀ :: suite) pos'] [] [] pos) (tTry X.K c i tb ts Wout) := ps_try_as hs hf hN hi hln hc tk hb hsu
end
section
variable {K : PySem.W.Frag} {G : Gs} {B : Bs} {env : Vn} {nx : Vn → Prop} {rt : XV → Prop} {bk ct : Vn → Prop} {xq : Addr → Vn → Prop} {mg : Str → Option Value}
theorem vsx_callR {α : Type} {i : Nat} {l : List (Str × Sp)} {f : Addr} {x : Str} {fr : Bool} {args : α → List D} {pre : α → Prop} {post : α → D → Prop} {rs : α → Addr → Prop} {t : TA} (hd : env[i]? = some (.p (.ptr f))) (hl : (x, SpA K G fr args pre post rs) ∈ l) (hm : mg x = some (.ref f))
    (h : VA K G B t env fun xs => ∃ x, xs = (args x).map XV.p ∧ pre x ∧ (∀ C, rs x C → xq C env) ∧ ∀ d, post x d → nx env) : VSX K G B (fun W => tDrop (tCallRT i (inDefs mg l) W t)) env nx rt bk ct xq := fun σ R H r Z W kn kr kb kc kx => by
  obtain ⟨v, h1, h2⟩ := r.slots i _ hd
  rw [ptr_at h2] at h1
  exact ⟨f, _, h1, ⟨_, hl, hm, rfl⟩, vsx_call (xq := xq) h σ R H r Z W kn kr kb kc kx⟩
end
/-- one of two readings -/
def tEither (t1 t2 : TE) : TE := fun σ H Q => t1 σ H Q ∨ t2 σ H Q
theorem pe_or {X : Cx} {e : Expr} {t1 t2 : TE} (h1 : PE X e t1) (h2 : PE X e t2) : PE X e (tEither t1 t2) := ⟨fun pins s σ H Q I h => h.elim (h1.run pins s σ H Q I) (h2.run pins s σ H Q I)⟩
section
variable {K : PySem.W.Frag} {G : Gs} {B : Bs} {env : Vn} {Q : XV → Prop} {t1 t2 : TE}
theorem ve_inl (h : VE K G B t1 env Q) : VE K G B (tEither t1 t2) env Q := fun σ R H r Qh k => .inl (h σ R H r Qh k)
theorem ve_inr (h : VE K G B t2 env Q) : VE K G B (tEither t1 t2) env Q := fun σ R H r Qh k => .inr (h σ R H r Qh k)
end
section
variable {K : PySem.W.Frag} {G : Gs} {B : Bs} {env : Vn} {Q : XV → Prop}
/-- an own list or dict is not None -/
theorem vo_isNm {i : Nat} {d : D} (q : Q (.p (.bl false))) : VO K G B (fun x y H Q => y = .non ∧ Q (.bl (decide (x = .non))) H) env (.m i d) (.p .non) Q := fun σ R H r v w hv hw Qh k => by
  obtain ⟨h1, h2⟩ := hv
  obtain ⟨a, y, g1, _⟩ := r.slots i _ h1
  rw [h2] at g1
  cases g1
  cases hw
  exact ⟨rfl, k _ R H (.p (.bl false)) r (Same.refl R) (.bl false) q⟩
end
open LamX in
/-- as FunC.ok, for a def that may raise -/
theorem FunC.okX {P : Program} {w : World} {K : PySem.W.Frag} {mg : Str → Option Value} {base : Heap} {x qual : Str} {st : Stmt} {f c : Addr} {fd : FuncData} {N ps : List Str} {k : Nat} {sp : Sp} (F : FunC K x qual st f fd c) (S : FnScope N ps (defScope st)) (len : ∀ vs H Q E, sp vs H Q E → vs.length = ps.length)
    (body : ∀ (A : Around) (outer : List Env) (s : Shared) (H : Hp) (vs : List V) (Q : VK) (E : XK), Room k (A.deeper (envOfC qual (defScope st) s.heap.objs.size f (.ref c))) → sp vs H Q E →
      ∃ t, PSs (cxOf (L2.CX P w) P w K mg base N qual (defScope st) f (.ref c) A outer s H E) (defBody st) t ∧ t { nx := fun _ H' => Q .non H', rt := Q } (L2.start N vs) H) : FnOk P w K mg base (L2.CX P w) (k + 1) f fd ps sp := by
  obtain ⟨o1, o2, kV, doc, pm, an, ct, sl, rfl, hk, hc⟩ := F.ex
  exact fn_of hk hc S len fun A outer s H vs Q E hr hs => body A outer s H vs Q E hr hs
end VL

/-! len(set(xs)), xs a list of unlike texts. -/
namespace VL
open PySem PySem.Spec PyProof.Rows L2
/-- how many unlike texts stand in the first n -/
def dc (xs : List Str) : Nat → Nat
  | 0 => 0
  | i + 1 => if ((xs.take i).any (· == xs.getD i Str.empty)) = true then dc xs i else dc xs i + 1
theorem dc_le (xs : List Str) : ∀ n, dc xs n ≤ n
  | 0 => Nat.le_refl _
  | i + 1 => by
    have := dc_le xs i
    unfold dc
    split <;> omega
theorem any_take {xs : List Str} {i : Nat} (hi : i < xs.length) : ((xs.take i).any (· == xs.getD i Str.empty)) = decide (xs[i] ∈ xs.take i) := by
  have e1 : xs.getD i Str.empty = xs[i] := by rw [List.getD_eq_getElem?_getD, List.getElem?_eq_getElem hi]; rfl
  rw [e1]
  refine Bool.eq_iff_iff.mpr ?_
  rw [List.any_eq_true, decide_eq_true_iff]
  exact ⟨fun ⟨y, hy, e⟩ => (eq_of_beq e) ▸ hy, fun h => ⟨_, h, beq_self_eq_true _⟩⟩
theorem dc_iff {xs : List Str} : ∀ n, n ≤ xs.length → (dc xs n = n ↔ (xs.take n).Nodup)
  | 0, _ => by simp [dc]
  | i + 1, h => by
    have ih := dc_iff (xs := xs) i (by omega)
    have le := dc_le xs i
    have e2 : xs.take (i + 1) = xs.take i ++ [xs[i]] := by rw [List.take_add_one, List.getElem?_eq_getElem (by omega)]; rfl
    unfold dc
    rw [any_take (by omega), e2]
    by_cases q : xs[i] ∈ xs.take i
    · rw [if_pos (decide_eq_true q)]
      refine ⟨fun e => by omega, fun nd => ?_⟩
      exact absurd rfl ((List.nodup_append.mp nd).2.2 _ q _ (List.mem_singleton.mpr rfl))
    · rw [if_neg (by rw [decide_eq_false q]; exact Bool.false_ne_true)]
      refine ⟨fun e => List.nodup_append.mpr ⟨ih.mp (by omega), by simp, fun a ha b hb e => ?_⟩, fun nd => ?_⟩
      · rw [List.mem_singleton.mp hb] at e
        exact q (e ▸ ha)
      · have := ih.mpr (List.nodup_append.mp nd).1
        omega
theorem dc_nodup {xs : List Str} (nd : xs.Nodup) : dc xs xs.length = xs.length := (dc_iff xs.length (Nat.le_refl _)).mpr (by rw [List.take_length]; exact nd)
theorem dc_dec (xs : List Str) : decide (((dc xs xs.length : Nat) : Int) = ((xs.length : Nat) : Int)) = decide xs.Nodup := decide_eq_decide.mpr (by
  have := dc_iff (xs := xs) xs.length (Nat.le_refl _)
  rw [List.take_length] at this
  exact ⟨fun h => this.mp (by omega), fun h => by rw [this.mpr h]⟩)
theorem seen_next {xs : List Str} {i : Nat} (hi : i < xs.length) (k : Str) : ((xs.take i).any (· == k) || decide (k = xs.getD i Str.empty)) = (xs.take (i + 1)).any (· == k) := by
  have e1 : xs.getD i Str.empty = xs[i] := by rw [List.getD_eq_getElem?_getD, List.getElem?_eq_getElem hi]; rfl
  have e2 : xs.take (i + 1) = xs.take i ++ [xs[i]] := by rw [List.take_add_one, List.getElem?_eq_getElem hi]; rfl
  rw [e1, e2, List.any_append]
  congr 1
  by_cases e : k = xs[i]
  · subst e
    simp
  · have hb : (xs[i] == k) = false := by simpa [beq_iff_eq] using (fun h' : xs[i] = k => e h'.symm)
    simp [hb, e]
section
variable {prog : Program} {w : World} {A : Around} {R : Result → Shared → Prop} {I : Addr} {fp wr : List Addr} {G : Array GenState → Array GenState → Prop} {n : Nat} {P : Nat → Value → Prop} {St : Nat → Shared → Prop}
/-- the texts go in, each a new one -/
theorem loopU (W : WalksS prog w A.in1 I fp wr G n P St) (S : Addr) (hSf : S ∉ fp) (xs : List Str) (hsz : xs.length = n) (hb : n + 1 < scanBound) (hval : ∀ i v, P i v → ∃ t, v = .str (xs.getD i Str.empty) t) :
    ∀ (k i : Nat) (s : Shared), n - i = k → i ≤ n → St i s → s.heap.SetOf (PySem.strKind prog w) S (fun k' => (xs.take i).any (· == k')) (dc xs i) →
      (∀ s', Moved (S :: wr) G s s' → s'.heap.SetOf (PySem.strKind prog w) S (fun k' => (xs.take n).any (· == k')) (dc xs n) → R (.ok (.ret .none)) s') →
      codeAny (model prog w) A (.builtin "set.update.loop" ⟨[.ref S, .ref I], []⟩) R s := by
  have hSw : S ∉ wr := fun h => hSf (W.sub _ h)
  have hsub : ∀ b ∈ wr, b ∈ S :: wr := fun b hb => List.mem_cons_of_mem _ hb
  have stay : ∀ {h h' : Heap} {S' : Str → Bool} {m : Nat}, h.SetOf (PySem.strKind prog w) S S' m → (∀ o, h.get? S = some o → h'.get? S = some o) → h'.SetOf (PySem.strKind prog w) S S' m := fun ⟨o, es, ep, t, ho, rest⟩ k => ⟨o, es, ep, t, k o ho, rest⟩
  intro k
  induction k with
  | zero =>
    intro i s hk hi hst hS hR
    have hin : i = n := by omega
    subst hin
    refine codeAny_builtin PyProof.Rows.F.entry_set_update_loop ?_
    rw [Around.under_plainId PyProof.Rows.F.plain_set_update_loop _]
    show wpAny _ A.in1 (pyNext (.ref I) >>= _) _ _ s
    refine wpAny_bind (W.done s _ _ hst fun s' hm => ?_)
    show wpAny _ A.in1 (ret Value.none) _ _ s'
    exact wpAny_pure (hR s' (hm.mono hsub) (stay hS fun o ho => hm.heap S _ hSw ho))
  | succ k ih =>
    intro i s hk hi hst hS hR
    have hlt : i < n := by omega
    have hnx := seen_next (xs := xs) (show i < xs.length by omega)
    have hdl := dc_le xs i
    refine codeAny_builtin PyProof.Rows.F.entry_set_update_loop ?_
    rw [Around.under_plainId PyProof.Rows.F.plain_set_update_loop _]
    show wpAny _ A.in1 (pyNext (.ref I) >>= _) _ _ s
    refine wpAny_bind (W.item i s _ _ hlt hst fun v s' hP hst' hm => ?_)
    obtain ⟨t, rfl⟩ := hval i v hP
    have hS' := stay hS fun o ho => hm.heap S _ hSw ho
    show wpAny _ A.in1 (holding [Value.str (xs.getD i Str.empty) t] (setAdd S (.str (xs.getD i Str.empty) t)) >>= _) _ _ s'
    refine wpAny_bind (wpAny_holding ?_)
    unfold setAdd
    refine wpAny_holding ?_
    refine wpAny_bind ((PySem.strKind prog w).pyHash (k := xs.getD i Str.empty) (strKind_is _ _ _ _) ?_)
    refine wpAny_setAddHashed_of (knd := PySem.strKind prog w) (s := { s' with toks := s'.toks + 1 }) (strKind_is _ _ _ _) rfl hS' (by omega) fun h' hsb hS2 => ?_
    have hSi : h'.SetOf (PySem.strKind prog w) S (fun k' => (xs.take (i + 1)).any (· == k')) (dc xs (i + 1)) := SetOf_congr hS2 hnx rfl
    refine wpAny_pure ⟨plainId_quiet PyProof.Rows.F.plain_set_update_loop _, ih (i + 1) _ (by omega) hlt (W.frame _ s' _ _ hst' (Nat.le_succ _) fun b hb o e => ?_) hSi fun s'' hm'' hS'' => ?_⟩
    · rw [hsb.2 b (fun h : b = S => hSf (by rw [← h]; exact hb))]; exact e
    · refine hR s'' (Moved.trans W.gtrans ((hm.mono hsub).then_heap (Nat.le_succ _) fun b o hb e => ?_) hm'') hS''
      rw [hsb.2 b (fun h : b = S => hb (by rw [h]; exact List.mem_cons_self))]; exact e
end
section
variable {prog : Program} {w : World} {A : Around} {E : Value → Shared → Prop} {s : Shared}
theorem call_setU {l : Addr} {items : Array Value} {xs : List Str} {Q : Value → Shared → Prop}
    (hh : A.handled = none) (hl : s.heap.IsList l items) (hi : PyProof.Rows.StrsAre items.toList xs) (hb : xs.length + 1 < scanBound)
    (h : ∀ (h' : Heap) (tk : Nat), h'.SetOf (PySem.strKind prog w) s.heap.objs.size (fun k' => (xs.take items.size).any (· == k')) (dc xs items.size) →
      (∀ b o, b < s.heap.objs.size → s.heap.get? b = some o → h'.get? b = some o) → Q (.ref s.heap.objs.size) { s with heap := h', toks := tk }) :
    wpAny (model prog w) A (call (.type "set") [.ref l]) Q E s := by
  obtain ⟨c, tl, hmro⟩ := PySem.F.called_set.mro
  have hmade := PySem.F.called_set.made
  have hsub := PySem.F.called_set.sub
  refine wpAny_call (codeAny_of_tree ?_)
  show wpAny _ _ (callAny (.type "set") _) _ _ _
  refine wpAny_pure ⟨Code.quiet_builtin _ (by decide +kernel), codeAny_builtin PySem.F.entry_type_call ?_⟩
  rw [Around.under_plain (weight_type_call_type "set" [.ref l] []) rfl]
  have h1 := PySem.F.called_set.notType
  have h2 := PySem.F.called_set.canCreate
  have hct := PySem.F.typeCall_set_1 (.ref l)
  repeat (any_goals (first | assumption | wp_step))
  refine codeAny_mono (code_set_new_1 (.ref l) (E := E) (Q₁ := fun obj s₁ => ∃ led : Bool, obj = .ref s.heap.objs.size ∧ s₁ = { s with heap := s.heap.push { cls := .type "set", dict := none, data := .set #[] 0 (.fresh 0 0 led) } }) fun led => ⟨led, rfl, rfl⟩) fun r s₁ hr => ?_
  cases r with
  | error e => exact hr
  | ok fl =>
    cases fl with
    | ret obj =>
      obtain ⟨led, rfl, rfl⟩ := hr
      have hS : (s.heap.push { cls := .type "set", dict := none, data := .set #[] 0 (.fresh 0 0 led) }).get? s.heap.objs.size = some { cls := .type "set", dict := none, data := .set #[] 0 (.fresh 0 0 led) } := Heap.get?_push_size _ rfl
      have hT : Shared.TypeIs { s with heap := s.heap.push { cls := .type "set", dict := none, data := .set #[] 0 (.fresh 0 0 led) } } (.ref s.heap.objs.size) "set" := ⟨_, hS, rfl⟩
      have hli := PySem.F.called_set.init.lookup
      have hbi := PySem.F.called_set.init.bind (.ref s.heap.objs.size)
      repeat (any_goals (first | assumption | wp_step))
      refine codeAny_mono (codeAny_call_builtin (R := wants (fun r s₂ => r = .none ∧ ∃ h' tk, s₂ = { s with heap := h', toks := tk } ∧
          h'.SetOf (PySem.strKind prog w) s.heap.objs.size (fun k' => (xs.take items.size).any (· == k')) (dc xs items.size) ∧
          (∀ b o, b < s.heap.objs.size → s.heap.get? b = some o → h'.get? b = some o)) E) PySem.F.called_set.init.plain PySem.F.entry_set_init (check_set_init_1 hT ?_)) fun r₂ s₂ hr₂ => ?_
      · obtain ⟨ol, hol, hcl, nl, hdl⟩ := hl
        obtain ⟨ocls, odict, odata, oslots⟩ := ol
        simp only at hcl hdl
        subst hcl; subst hdl
        have hol' : (s.heap.push { cls := .type "set", dict := none, data := .set #[] 0 (.fresh 0 0 led) }).get? l = some { cls := .type "list", dict := odict, data := .seq items nl, slots := oslots } := Heap.get?_push_of_some _ hol
        have hsls := PySem.F.sub_list_set
        have hslf := PySem.F.sub_list_frozenset
        have hne : (Value.type "list" == Value.type "dict") = false := by decide
        have hl1 : (s.heap.push { cls := .type "set", dict := none, data := .set #[] 0 (.fresh 0 0 led) }).IsList l items := ⟨_, hol', rfl, nl, rfl⟩
        unfold Builtin.«set.__init__» noKeywords Builtin.Frozenset.updateFrom
        generalize hPI : pyIter = PI
        wp_walk
        subst hPI
        refine wpAny_pyIter_list hl1 ?_
        refine wpAny_bind (wpAny_runValue ?_)
        have hlS : l < s.heap.objs.size := Heap.lt_size hol
        have hh3 : A.in1.in1.in1.handled = none := by simp [hh]
        have hneI : l ≠ (s.heap.push { cls := .type "set", dict := none, data := .set #[] 0 (.fresh 0 0 led) }).objs.size := by
          rw [Heap.size_push]; exact Nat.ne_of_lt (Nat.lt_succ_of_lt hlS)
        have hSf : s.heap.objs.size ∉ [(s.heap.push { cls := .type "set", dict := none, data := .set #[] 0 (.fresh 0 0 led) }).objs.size, l] := by
          rw [Heap.size_push]; simp only [List.mem_cons, List.mem_singleton, List.not_mem_nil, or_false, not_or]
          exact ⟨Nat.ne_of_lt (Nat.lt_succ_self _), Nat.ne_of_gt hlS⟩
        have hsz : xs.length = items.size := by rw [← PyProof.Rows.StrsAre.len_eq hi, Array.length_toList]
        have hval : ∀ (i : Nat) (v : Value), items[i]? = some v → ∃ t, v = .str (xs.getD i Str.empty) t := fun i v hv => SS.strs_at hi i v (by rw [Array.getElem?_toList]; exact hv)
        refine loopU ((Walks.list hh3 _ l hneI items).toS) s.heap.objs.size hSf xs hsz (by omega) hval (items.size - 0) 0 _ (by omega) (Nat.zero_le _) ⟨⟨_, Heap.get?_push_size _ rfl, rfl, rfl⟩, (hl1.push _)⟩ ?hS0 ?hR
        case hS0 =>
          have hget : ((s.heap.push { cls := .type "set", dict := none, data := .set #[] 0 (.fresh 0 0 led) }).push { cls := .type "list_iterator", data := .fields #[.ref l, .int 0 0] }).get? s.heap.objs.size
              = some { cls := .type "set", dict := none, data := .set #[] 0 (.fresh 0 0 led) } := Heap.get?_push_of_some _ hS
          exact PyProof.Rows.SetOf_congr ((PyProof.Rows.setObjOf_fresh (knd := PySem.strKind prog w) led).setOf hget (by unfold scanBound; omega)) (fun _ => rfl) rfl
        case hR =>
          intro s' hm hS'
          obtain ⟨h', g', d', tk', os'⟩ := s'
          have eg : g' = s.gens := hm.gens
          have ed : d' = s.drawn := hm.drawn
          have eo : os' = s.os := hm.os
          subst eg; subst ed; subst eo
          show wpAny _ _ _ _ _ _
          refine wpAny_pure ?_
          show wpAny _ _ (ret Value.none) _ _ _
          refine wpAny_pure ⟨rfl, h', tk', rfl, hS', fun b o hb e => ?_⟩
          have hb1 : b ≠ s.heap.objs.size := Nat.ne_of_lt hb
          have hb2 : b ≠ (s.heap.push { cls := .type "set", dict := none, data := .set #[] 0 (.fresh 0 0 led) }).objs.size := by
            rw [Heap.size_push]; exact Nat.ne_of_lt (Nat.lt_succ_of_lt hb)
          exact hm.heap b o (by simp only [List.mem_cons, List.mem_singleton, List.not_mem_nil, or_false, not_or]; exact ⟨hb1, hb2⟩) (Heap.get?_push_of_some _ (Heap.get?_push_of_some _ e))
      · cases r₂ with
        | error e => exact hr₂
        | ok fl₂ =>
          cases fl₂ with
          | ret r =>
            obtain ⟨rfl, h', tk, rfl, hS', hk'⟩ := hr₂
            repeat (any_goals (first | assumption | wp_step))
            exact h _ _ hS' hk'
          | _ => exact hr₂.elim
    | _ => exact hr.elim
end
def tLenSetS (K : PySem.W.Frag) (ta : TE) : TE := fun σ H Q => ta σ H fun x H1 => ∃ l, ∃ xs : List Str, x = .ref l ∧ SqL K H1 l (xs.map V.str) ∧ xs.length ≤ 4000 ∧ Q (.int (dc xs xs.length)) H1
theorem pe_lenSetS {X : Cx} {a : Expr} {ta : TE} {p p2 q pos : Pos} (hc : X.calm = true) (hg : Gl X "len") (hm : X.mg "len" = none) (hg2 : Gl X "set") (hm2 : X.mg "set" = none) (ha : PE X a ta)
    (na : starEach [a] X.env = (false, eval a X.env) :: starEach [] X.env := by rfl) : PE X (.Call (.Name "len" p) [.Call (.Name "set" p2) [a] [] q] [] pos) (tLenSetS X.K ta) := by
  refine ⟨fun pins s σ H Q I h => ?_⟩
  refine Call_ (ld_blt I hg hm boot_len ?_)
  refine PyProof.Rows.callWith_builtin1 (PyProof.Rows.args_cons ?_ rfl) rfl rfl
  refine Call_ (ld_blt I hg2 hm2 boot_set ?_)
  refine PyProof.Rows.callWith_type1 (PyProof.Rows.args_cons (thn (ha.run pins s σ H _ I h) fun v s1 ⟨x, H1, I1, r1, q1⟩ => PyProof.Rows.args_nil ?_) na) na rfl
  obtain ⟨l, xs, rfl, hq, h1, q1⟩ := q1
  cases r1
  obtain ⟨its, r, pl, hz⟩ := I1.list hq
  refine call_setU (I1.ok.hd hc) pl.isList (by simpa using strsAre_of r) (by unfold scanBound; omega) fun h' tk hS hk => ?_
  refine PyProof.Rows.args_nil ?_
  have hl : its.toArray.size = xs.length := by rw [List.size_toArray, ← r.length, List.length_map]
  rw [hl] at hS
  obtain ⟨o, es, ep, t, ho, hex, hd, _, _, _, hf, hn⟩ := hS
  have I2 : Inv X pins σ H1 { s1 with heap := h', toks := tk } := I1.kept fun b o e => hk b o (Heap.lt_size e) e
  have hdl := dc_le xs xs.length
  exact call_len_set ho hex hd hf (by rw [hn] <;> omega) ⟨.int (dc xs xs.length), H1, I2.tok _, ⟨_, by rw [hn]⟩, q1⟩
section
variable {K : PySem.W.Frag} {G : Gs} {B : Bs} {env : Vn} {Q : XV → Prop}
theorem ve_lenSetS {ta : TE} (h : VE K G B ta env fun x => x.fz fun x => ∃ zs : List Str, x.seqL = some (zs.map D.str) ∧ zs.Nodup ∧ zs.length ≤ 4000 ∧ Q (.p (.int zs.length))) : VE K G B (tLenSetS K ta) env Q := fun σ R H rp Qh k =>
  h σ R H rp _ fun v R1 H1 x r1 s1 hv q => by
    obtain ⟨R2, x', r2, s2, hv2, ho, zs, hx, nd, hl, q2⟩ := hv.fz r1 q
    obtain ⟨a, xs, rfl, h1, h2⟩ := seqL_at r2 hv2 hx
    rw [AtL.strs_inv h2] at h1
    exact ⟨a, zs, rfl, h1, hl, by rw [dc_nodup nd]; exact k _ R2 H1 (.p (.int _)) r2 (s1.trans s2) (.int _) q2⟩
theorem ve_lenSetD {ta : TE} (h : VE K G B ta env fun x => x.fz fun x => ∃ zs : List Str, x.seqL = some (zs.map D.str) ∧ zs.length ≤ 4000 ∧ Q (.p (.int (dc zs zs.length)))) : VE K G B (tLenSetS K ta) env Q := fun σ R H rp Qh k =>
  h σ R H rp _ fun v R1 H1 x r1 s1 hv q => by
    obtain ⟨R2, x', r2, s2, hv2, ho, zs, hx, hl, q2⟩ := hv.fz r1 q
    obtain ⟨a, xs, rfl, h1, h2⟩ := seqL_at r2 hv2 hx
    rw [AtL.strs_inv h2] at h1
    exact ⟨a, zs, rfl, h1, hl, k _ R2 H1 (.p (.int _)) r2 (s1.trans s2) (.int _) q2⟩
end
end VL

/-! Texts: signs, numbers written, a text so many times. -/
namespace VL
open PySem PySem.Spec PyProof.Rows L2
/-- a name of the module that holds a number or a text -/
theorem pe_gc {X : Cx} {x : Str} {v : V} {p : Pos} (hg : Gl X x) (h : ∃ u, X.mg x = some u ∧ RelV v u) (hd : (x == ("__debug__" : Str)) = false := by decide) : PE X (.Name x p) (tC v) := by
  obtain ⟨u, hm, r⟩ := h
  exact pe_glob hg hm r hd
def rRepS : R2 := fun x y H Q => ∃ (z : Str) (i : Int), x = .str z ∧ y = .int i ∧ MulOk z i ∧ Q (.str (Txt.mul z i)) H
theorem op_repS {X : Cx} : OpR X (binaryOp .Mult) rRepS := by
  intro pins s σ H x y v u Q I rx ry h
  obtain ⟨z, i, rfl, rfl, ok, q⟩ := h
  obtain ⟨t, rfl⟩ := rx
  obtain ⟨t', rfl⟩ := ry
  exact SB.mul ok fun t2 k => ⟨.str (Txt.mul z i), H, I.tok k, ⟨_, rfl⟩, q⟩
theorem foldl_app {α : Type} : ∀ (l : List (Array α)) (a : Array α), (l.foldl (· ++ ·) a).toList = a.toList ++ (l.map Array.toList).flatten
  | [], a => by simp
  | x :: r, a => by
    rw [List.foldl_cons, foldl_app r, Array.toList_append, List.map_cons, List.flatten_cons, List.append_assoc]
theorem mul_list (c : Nat) {n : Int} : (Txt.mul ⟨#[c]⟩ n).cps.toList = List.replicate n.toNat c := by
  unfold Txt.mul
  by_cases h : n < 1
  · rw [if_pos h, show n.toNat = 0 by omega]
    rfl
  · rw [if_neg h]
    by_cases h1 : n = 1
    · subst h1
      rfl
    · have e : (n == 1 || (⟨#[c]⟩ : Str).length == 0) = false := by
        have : (n == 1) = false := beq_eq_false_iff_ne.mpr h1
        rw [this]
        rfl
      rw [e, if_neg Bool.false_ne_true]
      show (List.foldl (· ++ ·) #[] (List.replicate n.toNat #[c])).toList = _
      rw [foldl_app]
      show [] ++ (List.map Array.toList (List.replicate n.toNat #[c])).flatten = _
      rw [List.nil_append, List.map_replicate]
      exact rep_one c n.toNat
theorem mul_ok {c : Nat} {n : Int} (h0 : -1000 ≤ n) (h : n ≤ 1000) : MulOk ⟨#[c]⟩ n := by
  have el : (⟨#[c]⟩ : Str).length = 1 := rfl
  refine ⟨?_, fun h1 _ => ?_, fun h1 _ => ?_⟩
  · rw [Bool.or_eq_false_iff]
    exact ⟨decide_eq_false (by omega), decide_eq_false (by omega)⟩
  · rw [el]
    have : (1000 : Int) ≤ (2 ^ 63 - 1) / n := by
      refine (Int.le_ediv_iff_mul_le (by omega)).mpr ?_
      have : (1000 : Int) * n ≤ 1000 * 1000 := by omega
      exact Int.le_trans this (by decide)
    omega
  · rw [el]
    show PySem.Builtin.Str.tooLong _ = false
    have hs : sizeLine ≥ 100000 := by decide
    exact decide_eq_false (by omega)
section
variable {K : PySem.W.Frag} {G : Gs} {B : Bs} {env : Vn} {Q : XV → Prop}
theorem vo_repS {c : Nat} {n : Int} (h0 : -1000 ≤ n) (h : n ≤ 1000) (q : ∀ z : Str, z.cps.toList = List.replicate n.toNat c → Q (.p (.str z))) : VO K G B rRepS env (.p (.str ⟨#[c]⟩)) (.p (.int n)) Q := fun σ R H r v w hv hw Qh k =>
  ⟨⟨#[c]⟩, n, str_at hv, int_at hw, mul_ok h0 h, k _ R H (.p (.str _)) r (Same.refl R) (.str _) (q _ (mul_list c))⟩
theorem vo_inSign {c : Nat} {z : Str} (q : Q (.p (.bl (decide (c ∈ z.cps.toList))))) : VO K G B (fun x y H Q => ∃ (c : Nat) (z : Str), x = .str ⟨#[c]⟩ ∧ y = .str z ∧ Q (.bl (decide (c ∈ z.cps.toList))) H) env (.p (.str ⟨#[c]⟩)) (.p (.str z)) Q := fun σ R H r v w hv hw Qh k =>
  ⟨c, z, str_at hv, str_at hw, k _ R H (.p (.bl _)) r (Same.refl R) (.bl _) q⟩
theorem vc_strI {i : Int} (hl : i.natAbs.log2 < 1920) (q : Q (.p (.str (toString i)))) : VC K G B (fun xs H Q => ∃ i, xs = [.int i] ∧ i.natAbs.log2 < 1920 ∧ Q (.str (toString i)) H) env [.p (.int i)] Q := vc1 fun σ R H r v hv Qh k =>
  ⟨i, by rw [int_at hv], hl, k _ R H (.p (.str _)) r (Same.refl R) (.str _) q⟩
theorem vc_intS {z : Str} {n : Int} (hn : PySem.intText? z = some n) (hl : z.length ≤ 640) (q : Q (.p (.int n))) : VC K G B (fun xs H Q => ∃ a n, xs = [.str a] ∧ PySem.intText? a = some n ∧ a.length ≤ 640 ∧ Q (.int n) H) env [.p (.str z)] Q := vc1 fun σ R H r v hv Qh k =>
  ⟨z, n, by rw [str_at hv], hn, hl, k _ R H (.p (.int _)) r (Same.refl R) (.int _) q⟩
theorem ve_starts {to tz : TE} (h : VE K G B to env fun x => ∃ a, x = .p (.str a) ∧ VE K G B tz env fun y => ∃ b, y = .p (.str b) ∧ Q (.p (.bl (Txt.startswith a b)))) : VE K G B (tBM K "str" (fun x xs H Q => ∃ a b, x = .str a ∧ xs = [.str b] ∧ Q (.bl (Txt.startswith a b)) H) to (tCons tz tNil)) env Q := fun σ R H rp Qh k =>
  h σ R H rp _ fun v R1 H1 x r1 s1 hv ⟨a, e, q⟩ => by
    subst e
    have ev := str_at hv
    subst ev
    refine ⟨?_, q σ R1 H1 r1 _ fun w R2 H2 y r2 s2 hw ⟨b, e2, q2⟩ => ?_⟩
    · exact rfl
    · subst e2
      exact ⟨a, b, rfl, by rw [str_at hw], k _ R2 H2 (.p (.bl _)) r2 (s1.trans s2) (.bl _) q2⟩
theorem vo_isB {a b : Bool} (q : Q (.p (.bl (decide (a = b))))) : VO K G B rIsB env (.p (.bl a)) (.p (.bl b)) Q := fun σ R H r v w hv hw Qh k => ⟨a, b, bl_at hv, bl_at hw, k _ R H (.p (.bl _)) r (Same.refl R) (.bl _) q⟩
theorem vo_notB {a b : Bool} (q : Q (.p (.bl (!decide (a = b))))) : VO K G B rNotB env (.p (.bl a)) (.p (.bl b)) Q := fun σ R H r v w hv hw Qh k => ⟨a, b, bl_at hv, bl_at hw, k _ R H (.p (.bl _)) r (Same.refl R) (.bl _) q⟩
theorem vo_repT {ds : List D} {n : Int} (hne : ds ≠ []) (h1 : 2 ≤ n) (h2 : n ≤ 1000) (hl : ds.length ≤ 1000) (q : Q (.p (.tup (List.replicate n.toNat ds).flatten))) : VO K G B (rRepT K) env (.p (.tup ds)) (.p (.int n)) Q := fun σ R H r v w hv hw Qh k => by
  obtain ⟨a, xs, rfl, g1, _, g2⟩ := tup_at r hv
  have rep : ∀ m : Nat, AtL K R (List.replicate m xs).flatten (List.replicate m ds).flatten := fun m => by
    induction m with
    | zero => exact .nil
    | succ m ih =>
      rw [List.replicate_succ, List.replicate_succ, List.flatten_cons, List.flatten_cons]
      exact g2.app ih
  refine ⟨a, n, xs, rfl, int_at hw, g1, fun e => hne ?_, h1, h2, by rw [g2.len]; exact hl, fun p hp => ?_⟩
  · subst e
    cases g2
    rfl
  · have hn := r.sub.none hp
    exact k _ _ _ (.p (.tup _)) (r.newP hp rfl) (same_take hn) (.tup (.inl (.inl upd_same)) ((rep _).same (same_take hn))) q
end
end VL

/-! try/except whose caught exception is kept at hand by the statements behind it. -/
namespace VL
open PySem PySem.Spec PyProof.Rows L2
/-- what the clause wishes where all that comes is taken, and what stands behind is walked with it at hand -/
def wKeep (K : PySem.W.Frag) (c : Value) (i : Nat) (ts tr : Addr → Value → Option Addr → TS) (D : Ends) : WX := fun C d τ H =>
  PySem.W.exmOne K C c = some true ∧ ∀ a, H a = none → ts a C d ⟨fun τ' H' => tr a C d D (τ'.set i none) H', fun _ _ => False, fun _ _ => False, fun _ _ => False⟩ (τ.set i (some (.ref a))) H
def tKeep (K : PySem.W.Frag) (c : Value) (i : Nat) (tb : WX → TS) (u : TS) (ts tr : Addr → Value → Option Addr → TS) : TS := fun D τ H => tb (wKeep K c i ts tr D) { D with nx := u D } τ H
section
variable {X : Cx} {x n : Str} {c : Value} {i : Nat} {body suite rest : List Stmt} {b₀ : Stmt} {np pos pos' : Pos} {tb : WX → TS} {u : TS} {ts tr : Addr → Value → Option Addr → TS}
/-- the context behind the suite, what was caught at hand -/
theorem Inv.hold {X : Cx} {pins pn' : List (Addr × Obj)} {τ : L2.St} {H : Hp} {s : Shared} {a : Addr} {q : Addr × Obj} (I : L2.Inv (X.suite a (q :: (X.pn ++ pins))) pn' τ H s) (ok : X.Ok) : L2.Inv (X.tr (q :: (X.pn ++ pins)) X.xe) [] τ H s where
  ok := ok.toTry _ _
  os := I.os
  bare := I.bare
  base := I.base
  loc := I.loc
  cell := I.cell
  free := I.free
  freeC := I.freeC
  pin := fun p hp => I.pin p (by
    rw [List.append_nil] at hp
    exact List.mem_append_left _ hp)
  hok := I.hok
  len := I.len
theorem Inv.loose {X : Cx} {pins : List (Addr × Obj)} {τ : L2.St} {H : Hp} {s : Shared} {q : Addr × Obj} (I : L2.Inv (X.tr (q :: (X.pn ++ pins)) X.xe) [] τ H s) (ok : X.Ok) : L2.Inv X pins τ H s where
  ok := ok
  os := I.os
  bare := I.bare
  base := I.base
  loc := I.loc
  cell := I.cell
  free := I.free
  freeC := I.freeC
  pin := fun p hp => I.pin p (List.mem_append_left _ (List.mem_cons_of_mem _ hp))
  hok := I.hok
  len := I.len
theorem SP.loose {X : Cx} {pins : List (Addr × Obj)} {D : Ends} {f : Flow} {s : Shared} {q : Addr × Obj} (ok : X.Ok) (h : L2.SP (X.tr (q :: (X.pn ++ pins)) X.xe) [] D f s) : L2.SP X pins D f s := by
  cases f with
  | next =>
    obtain ⟨τ, H, I, q⟩ := h
    exact ⟨τ, H, Inv.loose I ok, q⟩
  | brk =>
    obtain ⟨τ, H, I, q⟩ := h
    exact ⟨τ, H, Inv.loose I ok, q⟩
  | cont =>
    obtain ⟨τ, H, I, q⟩ := h
    exact ⟨τ, H, Inv.loose I ok, q⟩
  | ret v =>
    obtain ⟨w, τ, H, I, r, q⟩ := h
    exact ⟨w, τ, H, Inv.loose I ok, r, q⟩
theorem body_run {E' : Value → Shared → Prop} {W : WX} {pins : List (Addr × Obj)} {s : Shared} {τ : L2.St} {H : Hp} {D : Ends} (I : L2.Inv X pins τ H s)
    (hb : PSs (X.tr (X.pn ++ pins) E') body (tb W)) (h : tb W D τ H) : wpAny (model X.prog X.w) X.A (execs body X.env) (L2.SP (X.tr (X.pn ++ pins) E') [] D) E' s := hb.run [] s τ H D (I.toTry _) h
theorem pss_keep (hs : X.stack = X.env :: X.outer) (hf : X.env.frame = some X.env.locals) (hN : X.N.Nodup) (hi : X.N[i]? = some n) (hln : X.env.kindOf n = some .local) (hc : Names X x c)
    (hb : ∀ (W : WX) (pn : List (Addr × Obj)) (xe : Value → Shared → Prop), Takes (X.tr pn xe) W → PassesOwn (model X.prog X.w) X.A X.env xe → PSs (X.tr pn xe) body (tb W)) (h0 : PSs X rest u)
    (hsu : ∀ (a : Addr) (oe : Obj) (C : Value) (d : Option Addr) (pn : List (Addr × Obj)), Zc C d oe → (∃ vs, oe.data = .fields vs) → PSs (X.suite a ((a, oe) :: pn)) (b₀ :: suite) (ts a C d))
    (hr : ∀ (a : Addr) (oe : Obj) (C : Value) (d : Option Addr) (pn : List (Addr × Obj)), Zc C d oe → (∃ vs, oe.data = .fields vs) → PSs (X.tr ((a, oe) :: pn) X.xe) rest (tr a C d)) :
    PSs X (.Try body [.ExceptHandler (some (.Name x np)) (some n) (b₀ :: suite) pos'] [] [] pos :: rest) (tKeep X.K c i tb u ts tr) := by
  constructor
  intro pins s τ H D I h
  have ok := I.ok
  have frs_ : X.A.frames = some (X.env :: X.outer) := hs ▸ ok.frames
  have lc : Loc X.env.scope n := Or.inl hln
  refine wpAny_execs_cons (wpAny_Try_except (thn (body_run (tb := tb) (W := wKeep X.K c i ts tr D) (D := { D with nx := u D }) I (hb _ _ _ ?tk PassesOwn.looking) h) ?ok))
  case ok =>
    intro f s1 e
    cases f with
    | next =>
      obtain ⟨τ', H', J, q⟩ := e
      exact wpAny_execs_nil (h0.run pins _ τ' H' D (J.ofTry ok) q)
    | brk =>
      obtain ⟨τ', H', J, q⟩ := e
      exact ⟨τ', H', J.ofTry ok, q⟩
    | cont =>
      obtain ⟨τ', H', J, q⟩ := e
      exact ⟨τ', H', J.ofTry ok, q⟩
    | ret v =>
      obtain ⟨w, τ', H', J, r, q⟩ := e
      exact ⟨w, τ', H', J.ofTry ok, r, q⟩
  case tk =>
    intro e s' hx
    obtain ⟨a, B, s0, pins0, τ', H', C, d, rfl, J0, nb, up, sky, na, os, ag, hm, hy⟩ := hx
    have J : L2.Inv X pins τ' H' s0 := J0.ofTry ok
    rw [show (X.tr (X.pn ++ pins) _).stack = X.env :: X.outer from hs] at sky
    refine Sky.land Zc.steady frs_ hf sky fun hB flB upB => ?_
    have Jland : L2.Inv X pins τ' H' { s' with heap := hB } := J.landed nb flB.1 (up.trans upB) os ag
    obtain ⟨oB, vB, gB, zB, dB⟩ := flB.there
    have notIn : a ∉ frs (X.env :: X.outer) := fun hm => by
      obtain ⟨_, o, g, hn⟩ := flB.2.2.1.mem hm
      rw [gB] at g
      cases g
      exact hn _ dB
    have nL : a ≠ X.env.locals := fun z => notIn (List.mem_filterMap.mpr ⟨X.env, .head _, by rw [hf, z]⟩)
    have nF : a ∉ X.fs := fun hm => by
      obtain ⟨v, hv, g⟩ := List.mem_filterMap.mp hm
      exact notIn (List.mem_filterMap.mpr ⟨v, .tail _ hv, g⟩)
    refine PX.clause_asZ (Z := Zc C d) (c := c) Jland.kIn (fun o z => z.1) flB hm (fun {Q' E'} q => ?_) (fun hC flC upC => ?_)
    · obtain ⟨g1, g2, g3 | ⟨g3, g4, g5⟩⟩ := hc
      · exact ld_glob (X := X.suite a ((a, oB) :: (X.pn ++ pins))) (Jland.suite gB dB na nL nF) g1 g3 q g2
      · exact ld_blt (X := X.suite a ((a, oB) :: (X.pn ++ pins))) (Jland.suite gB dB na nL nF) g1 g3 g4 q g5 g2
    · have K4 : L2.Inv X pins τ' H' { s' with heap := hC } := J.landed nb flC.1 ((up.trans upB).trans upC) os ag
      obtain ⟨oC, vC, gC, zC, dC⟩ := flC.there
      refine store_ok (X := X.suite a ((a, oC) :: (X.pn ++ pins))) (v := .ref a) (K4.suite gC dC na nL nF) hN hi lc rfl (fun s5 S5 => ?_) (.inr hln)
      refine wpAny_mono ((hsu a oC C d (X.pn ++ pins) zC ⟨_, dC⟩).run [] s5 _ H' _ S5 (hy a na)) (fun f s6 e => ?_) (fun _ _ z => z)
      cases f with
      | next =>
        obtain ⟨τ6, H6, S6, q6⟩ := e
        refine gone_ok (X := X.tr ((a, oC) :: (X.pn ++ pins)) X.xe) (Inv.hold S6 ok) hN hi hln fun s7 J7 => ?_
        exact thn ((hr a oC C d (X.pn ++ pins) zC ⟨_, dC⟩).run [] s7 _ H6 D J7 q6) fun f s8 e => SP.loose ok e
      | brk =>
        obtain ⟨τ6, H6, S6, q6⟩ := e
        exact q6.elim
      | cont =>
        obtain ⟨τ6, H6, S6, q6⟩ := e
        exact q6.elim
      | ret v =>
        obtain ⟨w6, τ6, H6, S6, r6, q6⟩ := e
        exact q6.elim
end
section
variable {X : Cx}
/-- isinstance of an exception that the context holds -/
theorem call_isXp {a : Addr} {oe : Obj} {cls : Value} {d : Option Addr} (hm : (a, oe) ∈ X.pn) (hz : Zc cls d oe) (hf : ∃ vs, oe.data = .fields vs) : CallR X (.builtin "isinstance") (rIsX X.K cls d a) := by
  intro pins s σ H xs us Q I r h
  obtain ⟨D, rfl, rfl, C, h⟩ := h
  obtain ⟨hget, _⟩ := I.pin (a, oe) (List.mem_append.mpr (.inl hm))
  obtain ⟨vs, hv⟩ := hf
  have J : PySem.W.InstAt s.heap a oe D none := by
    obtain ⟨oc, od, oda, osl⟩ := oe
    obtain ⟨h1, h2⟩ := hz
    dsimp only at h1 h2 hv
    subst h1 h2 hv
    exact ⟨hget, rfl, rfl, trivial⟩
  have Z := PySem.W.handS_kitx_exc (x := a) (ox := oe) C.hg C.hk C.hs C.hd C.ha C.hn C.ht C.hm
  rcases h with ⟨c, u, b, rfl, k, e, q⟩ | ⟨tp, cs, ws, b, rfl, hT, k, e, q⟩
  · cases r with
    | cons rx rr =>
      cases rr with
      | cons rt rr =>
        cases rr
        cases rx
        have ec := k.eq rt
        subst ec
        exact PySem.W.kia_one Z I.kIn J e (fun z => nomatch z) fun tk => ⟨.bl b, H, I.kept (t' := tk) fun _ _ z => z, rfl, q⟩
  · cases r with
    | cons rx rr =>
      cases rr with
      | cons rt rr =>
        cases rr
        cases rx
        cases rt
        obtain ⟨its, rv, ⟨o, h1, h2, n, h3⟩, _⟩ := I.tuple hT
        have e3 := ClsV.all k rv
        subst e3
        obtain ⟨oc, od, dt, sl⟩ := o
        simp only at h2 h3
        subst h2 h3
        exact PySem.W.kia_tup Z I.kIn J h1 e (fun z => nomatch z) fun tk => ⟨.bl b, H, I.kept (t' := tk) fun _ _ z => z, rfl, q⟩
end
section
variable {K : PySem.W.Frag} {G : Gs} {B : Bs} {env : Vn} {nx : Vn → Prop} {rt : XV → Prop} {bk ct : Vn → Prop}
theorem vs_keep {c : Value} {i : Nat} {tb : WX → TS} {u : TS} {ts tr : Addr → Value → Option Addr → TS}
    (h : VSX K G B tb env (fun e => VS K G B u e nx rt bk ct) rt bk ct fun C e => PySem.W.exmOne K (.ref C) c = some true ∧ i < e.length ∧ ∀ a, VS K G B (ts a (.ref C) none) (e.set i (.p (.ptr a)))
      (fun e' => VS K G B (tr a (.ref C) none) (e'.set i .u) nx rt bk ct) (fun _ => False) (fun _ => False) (fun _ => False)) :
    VS K G B (tKeep K c i tb u ts tr) env nx rt bk ct := fun σ R H r Z kn kr kb kc =>
  h σ R H r { Z with nx := u Z } (wKeep K c i ts tr Z)
    (fun e σ' R' H' r' s' q => q σ' R' H' r' Z (fun e2 σ2 R2 H2 r2 s2 q2 => kn e2 σ2 R2 H2 r2 (s'.trans s2) q2) (fun v e2 σ2 R2 H2 x r2 s2 hv q2 => kr v e2 σ2 R2 H2 x r2 (s'.trans s2) hv q2)
      (fun e2 σ2 R2 H2 r2 s2 q2 => kb e2 σ2 R2 H2 r2 (s'.trans s2) q2) (fun e2 σ2 R2 H2 r2 s2 q2 => kc e2 σ2 R2 H2 r2 (s'.trans s2) q2)) kr kb kc
    (fun C e σ' R' H' r' s' ⟨hb, hi', q⟩ => ⟨hb, fun a ha => q a _ R' H' (r'.set (sl := .p (.ptr a)) hi' ⟨.ref a, List.getElem?_set_self (by rw [r'.len]; exact hi'), .ptr a⟩ fun _ o => o.elim) _
      (fun e1 σ1 R1 H1 r1 s1 q1 => q1 _ R1 H1 (r1.unset i) Z (fun e2 σ2 R2 H2 r2 s2 q2 => kn e2 σ2 R2 H2 r2 ((s'.trans s1).trans s2) q2) (fun v e2 σ2 R2 H2 x r2 s2 hv q2 => kr v e2 σ2 R2 H2 x r2 ((s'.trans s1).trans s2) hv q2)
        (fun e2 σ2 R2 H2 r2 s2 q2 => kb e2 σ2 R2 H2 r2 ((s'.trans s1).trans s2) q2) (fun e2 σ2 R2 H2 r2 s2 q2 => kc e2 σ2 R2 H2 r2 ((s'.trans s1).trans s2) q2))
      (fun v e1 σ1 R1 H1 x r1 s1 hv q1 => q1.elim) (fun e1 σ1 R1 H1 r1 s1 q1 => q1.elim) (fun e1 σ1 R1 H1 r1 s1 q1 => q1.elim)⟩)
end
end VL

/-! A def whose result holds new lists: SpG (the lists are the caller's own, behind pointers). -/
namespace VL
open PySem L2
/-- gs: the new lists that the result d points at -/
def SpG (K : PySem.W.Frag) (G : Gs) {α : Type} (args : α → List D) (pre : α → Prop) (post : α → List (Addr × D) → D → Prop) : Sp := fun vs H Q E =>
  ∃ R x, (Sub K G R H ∧ TabIn G R) ∧ AtL K R vs (args x) ∧ pre x ∧
    ∀ v R' H' d gs, Step K G R H R' H' → At K R' v d → (∀ q ∈ gs, H q.1 = none ∧ R' q.1 = none ∧ ∃ y, H' q.1 = some y ∧ MAt K R' y q.2) → post x gs d → Q v H'
section
variable {K : PySem.W.Frag} {G : Gs} {B : Bs} {env : Vn} {σ : L2.St} {R R' R1 H H' H1 : Hp} {Q : XV → Prop} {nx : Vn → Prop} {rt : XV → Prop} {bk ct : Vn → Prop}
theorem spG_len {α : Type} {args : α → List D} {pre : α → Prop} {post : α → List (Addr × D) → D → Prop} {E : XK} {n : Nat} (hn : ∀ x, (args x).length = n) {vs : List V} {Q : VK} (h : SpG K G args pre post vs H Q E) : vs.length = n := by
  obtain ⟨R, x, _, ha, _⟩ := h
  rw [ha.len, hn]
/-- a body that ends with its only return -/
def VSR (K : PySem.W.Frag) (G : Gs) (B : Bs) (t : TS) (env : Vn) (post : List (Addr × D) → D → Prop) : Prop := ∀ σ R H, Rep K G B env σ R H → ∀ Q : VK,
  (∀ v R' H' d gs, Step K G B.R B.H R' H' → At K R' v d → (∀ q ∈ gs, B.H q.1 = none ∧ R' q.1 = none ∧ ∃ y, H' q.1 = some y ∧ MAt K R' y q.2) → post gs d → Q v H') → t { nx := fun _ H' => Q .non H', rt := Q } σ H
theorem vsr_seq {t u : TS} {post : List (Addr × D) → D → Prop} (h : VS K G B t env (fun e => VSR K G B u e post) (fun _ => False) (fun _ => False) (fun _ => False)) : VSR K G B (tSeq t u) env post := fun σ R H r Q q =>
  h σ R H r _ (fun e σ' R' H' r' _ g => g σ' R' H' r' Q q) (fun v e σ' R' H' y r' _ hv g => g.elim) (fun e σ' R' H' r' _ g => g.elim) (fun e σ' R' H' r' _ g => g.elim)
theorem vsr_ret {j : Nat} {gs : List (Addr × D)} {te : TE} {post : List (Addr × D) → D → Prop} (hj : env[j]? = some (.hp gs)) (h : VE K G B te env fun y => ∃ d, y = .p d ∧ post gs d) : VSR K G B (tRet te) env post := fun σ R H r Q q =>
  h σ R H r _ fun v R2 H2 y r2 s2 hv ⟨d, ed, hq⟩ => by
    subst ed
    exact q v R2 H2 d gs r2.step hv (fun p hp => r2.slots j _ hj p hp) hq
theorem run_defG {α : Type} {args : α → List D} {pre : α → Prop} {post : α → List (Addr × D) → D → Prop} {vs : List V} {Q : VK} {E : XK} {t : TS} {N : List Str}
    (hn : ∀ x, (args x).length ≤ N.length) {env0 : α → Vn} (he : ∀ x, (args x).map Slot.p ++ List.replicate (N.length - (args x).length) .u = env0 x)
    (h : ∀ B x, pre x → VSR K G B t (env0 x) (post x))
    (hs : SpG K G args pre post vs H Q E) : t { nx := fun _ H' => Q .non H', rt := Q } (L2.start N vs) H := by
  obtain ⟨R, x, ⟨s, tb⟩, ha, hp, q⟩ := hs
  have h := h ⟨R, H, []⟩ x hp
  rw [← he x] at h
  exact h _ R H (rep_start s tb ha (hn x)) Q q
/-- x = f(..): the new lists stand behind pointers -/
theorem vs_asgG {j : Nat} {g : TG} {α : Type} {args : α → List D} {pre : α → Prop} {post : α → List (Addr × D) → D → Prop} {E : XK} {t : TA} (hj : env[j]? = some .u)
    (h : VA K G B t env fun xs => ∃ x, xs = (args x).map XV.p ∧ pre x ∧ ∀ d gs, post x gs d → VG K G B g (.p d) (env.set j (.hp gs)) nx) :
    VS K G B (tAsg (tCall (SpG K G args pre post) [] E t) g) env nx rt bk ct := fun σ R H rp Z kn _ _ _ =>
  h σ R H rp _ fun vs R1 H1 xs r1 s1 hv _ ⟨x, e, hp, q⟩ => by
    subst e
    rw [List.append_nil]
    refine ⟨R1, x, ⟨r1.sub, r1.tab'⟩, atL_of hv, hp, fun v R' H' d gs s ha hg hpost => ?_⟩
    have rg := r1.go s
    have r2 := rg.toHp hj (gs := gs) (fun p hp => ⟨r1.fresh (hg p hp).1, (hg p hp).2⟩) (fun p hp => ⟨r1.noslot (hg p hp).1, r1.nopr (hg p hp).1⟩)
    exact q d gs hpost σ R' H' r2 v ha _ fun e2 σ2 R2 H2 r3 s3 q3 => kn e2 σ2 R2 H2 r3 ((s1.trans s.same).trans s3) q3
theorem vs_asgR {t1 t2 : TE} {g : TG} (h : VS K G B (tAsg t2 g) env nx rt bk ct) : VS K G B (tAsg (tEither t1 t2) g) env nx rt bk ct := fun σ R H r Z kn kr kb kc => .inr (h σ R H r Z kn kr kb kc)
/-- a free slot holds no lists yet -/
theorem vs_hp0 (j : Nat) {t : TS} (hj : env[j]? = some .u) (h : VS K G B t (env.set j (.hp [])) nx rt bk ct) : VS K G B t env nx rt bk ct := fun σ R H r =>
  h σ R H (r.toHp hj (gs := []) (fun q hq => by cases hq) (fun q hq => by cases hq))
/-- an own list or dict goes behind a pointer -/
theorem Rep.toPtr (r : Rep K G B env σ R H) {i j : Nat} {d : D} {gs : List (Addr × D)} (hi : env[i]? = some (.mu d)) (hj : env[j]? = some (.hp gs)) : ∃ a, Rep K G B ((env.set i (.p (.ptr a))).set j (.hp ((a, d) :: gs))) σ R H := by
  have hij : i ≠ j := fun z => by
    rw [z, hj] at hi
    cases hi
  obtain ⟨a, y, g1, g2, g3, g4, g5⟩ := r.slots i _ hi
  have hil := (List.getElem?_eq_some_iff.mp hi).1
  have hjl := (List.getElem?_eq_some_iff.mp hj).1
  have r1 := (r.redo (d := .ptr a) hil g1 (.ptr a)).forget j
  have ow : Slot.owns σ[i]? a (.mu d) := g1
  have hj1 : ((env.set i (.p (.ptr a))).set j .u)[j]? = some .u := List.getElem?_set_self (by rw [List.length_set]; exact hjl)
  have back : ∀ (k : Nat) sk, ((env.set i (.p (.ptr a))).set j .u)[k]? = some sk → (∀ b, ¬ Slot.owns σ[k]? b sk) ∨ (env[k]? = some sk ∧ k ≠ i ∧ k ≠ j) := fun k sk hk => by
    by_cases ej : j = k
    · subst ej
      rw [hj1] at hk
      cases hk
      exact .inl fun b o => o
    · rw [List.getElem?_set_ne ej] at hk
      by_cases ei : i = k
      · subst ei
        rw [List.getElem?_set_self hil] at hk
        cases hk
        exact .inl fun b o => o
      · rw [List.getElem?_set_ne ei] at hk
        exact .inr ⟨hk, fun z => ei z.symm, fun z => ej z.symm⟩
  have r2 := r1.toHp hj1 (gs := (a, d) :: gs) (fun q hq => by
    rcases List.mem_cons.mp hq with rfl | hq
    · exact ⟨g2, g3, y, g4, g5⟩
    · exact r.slots j _ hj q hq) (fun q hq => ⟨fun k sk hk o => by
    rcases back k sk hk with n | ⟨hk', n1, n2⟩
    · exact n _ o
    · rcases List.mem_cons.mp hq with rfl | hq
      · exact r.dist i k _ sk a (fun z => n1 z.symm) hi hk' ow o
      · exact r.dist j k _ sk q.1 (fun z => n2 z.symm) hj hk' (List.mem_map_of_mem (f := (·.1)) hq) o, by
    rcases List.mem_cons.mp hq with rfl | hq
    · exact r.nopr' hi ow
    · exact r.nopr' hj (show Slot.owns σ[j]? q.1 (.hp gs) from List.mem_map_of_mem (f := (·.1)) hq)⟩)
  rw [List.set_set] at r2
  exact ⟨a, r2⟩
theorem vs_hp (i j : Nat) {t : TS} {d : D} {gs : List (Addr × D)} (hi : env[i]? = some (.mu d)) (hj : env[j]? = some (.hp gs))
    (h : ∀ a, VS K G B t ((env.set i (.p (.ptr a))).set j (.hp ((a, d) :: gs))) nx rt bk ct) : VS K G B t env nx rt bk ct := fun σ R H r => by
  obtain ⟨a, r2⟩ := r.toPtr hi hj
  exact h a σ R H r2
theorem vsr_hp (i j : Nat) {t : TS} {d : D} {gs : List (Addr × D)} {post : List (Addr × D) → D → Prop} (hi : env[i]? = some (.mu d)) (hj : env[j]? = some (.hp gs))
    (h : ∀ a, VSR K G B t ((env.set i (.p (.ptr a))).set j (.hp ((a, d) :: gs))) post) : VSR K G B t env post := fun σ R H r Q q => by
  obtain ⟨a, r2⟩ := r.toPtr hi hj
  exact h a σ R H r2 Q q
theorem vsr_hp0 (j : Nat) {t : TS} {post : List (Addr × D) → D → Prop} (hj : env[j]? = some .u) (h : VSR K G B t (env.set j (.hp [])) post) : VSR K G B t env post := fun σ R H r Q q =>
  h σ R H (r.toHp hj (gs := []) (fun q hq => by cases hq) (fun q hq => by cases hq)) Q q
theorem vc_sumP {j : Nat} {gs : List (Addr × D)} {a : Addr} {ns : List Int} (hj : env[j]? = some (.hp gs)) (hm : (a, .lst (ns.map D.int)) ∈ gs) (q : Q (.p (.int ns.sum))) : VC K G B (rSum K) env [.p (.ptr a)] Q := vc1 fun σ R H r v hv Qh k => by
  obtain ⟨ys, _, _, h3, h4⟩ := hp_at r hj hm
  rw [AtL.ints_inv h4] at h3
  exact ⟨a, ns, by rw [ptr_at hv], .inl (.inl h3), k _ R H (.p (.int _)) r (Same.refl R) (.int _) q⟩
end
end VL

/-! Dicts of the module (texts to tuples), split, join, str of a text, extend. -/
namespace VL
open PySem PySem.Spec PyProof.Rows L2
/-- the module's dict x: texts to tuples -/
structure KDs (K : PySem.W.Frag) (w : World) (mg : Str → Option Value) (x : Str) (tab : List (Str × List V)) : Prop where
  ex : ∃ (d : Addr) (es : Array DictEntry) (n : Nat), mg x = some (.ref d) ∧ KDict K w d es n ∧ (∀ z, z ∉ tab.map (·.1) → PySem.W.nsIn K d z = some none) ∧ ∀ p ∈ tab, ∃ t, PySem.W.nsIn K d p.1 = some (some (.ref t)) ∧ ∀ H, SqT K H t p.2
theorem nsIn_miss {K : PySem.W.Frag} {w : World} {d : Addr} {ks : List Str} (h : He.dicW K d = some (He.keysIn w.params ks)) {z : Str} (hz : z ∉ ks) : PySem.W.nsIn K d z = some none := by
  have key : ∀ (l : List DictEntry) (ks : List Str), l.map He.keyOf = He.keysIn w.params ks → z ∉ ks → (l.find? fun e => e.key.isStr z) = none ∧ (l.any fun e => e.refKey) = false := by
    intro l
    induction l with
    | nil => intro ks _ _; exact ⟨rfl, rfl⟩
    | cons e r ih =>
      intro ks h hz
      cases ks with
      | nil => cases h
      | cons k ks =>
        have h1 : He.keyOf e :: r.map He.keyOf = some (k, PyData.keyHash w.params k) :: He.keysIn w.params ks := h
        injection h1 with h2 h3
        obtain ⟨i1, i2⟩ := ih ks h3 (fun q => hz (List.mem_cons_of_mem _ q))
        unfold He.keyOf at h2
        split at h2
        · rename_i x t q
          have h5 := (Prod.mk.inj (Option.some.inj h2)).1
          have hx : ¬ z = x := fun e => hz (by rw [e, h5]; exact List.mem_cons_self)
          have n1 : e.key.isStr z = false := by
            rw [q, PySem.W.isStr_of]
            show decide _ = false
            first | exact decide_eq_false hx | exact decide_eq_false (fun e => hx e.symm)
          refine ⟨?_, ?_⟩
          · rw [List.find?_cons_of_neg (by rw [n1]; exact Bool.false_ne_true)]
            exact i1
          · rw [List.any_cons, i2, Bool.or_false]
            unfold DictEntry.refKey
            rw [q]
        · cases h2
  obtain ⟨es, n, D⟩ := He.dicW_ok h
  unfold He.dicW at h
  rw [D.at_] at h
  have low := D.low
  dsimp only at h
  rw [low] at h
  have h2 : es.toList.map He.keyOf = He.keysIn w.params ks := Option.some.inj h
  obtain ⟨k1, k2⟩ := key _ _ h2 hz
  unfold PySem.W.nsIn
  rw [D.at_]
  dsimp only
  rw [k1]
  dsimp only
  rw [k2]
  rfl
theorem kds_of {K : PySem.W.Frag} {w : World} {mg : Str → Option Value} {x : Str} {d : Addr} {tab : List (Str × List V)} (hm : mg x = some (.ref d)) (h : He.dicW K d = some (He.keysIn w.params (tab.map (·.1)))) (hv : ∀ p ∈ tab, ∃ t, PySem.W.nsIn K d p.1 = some (some (.ref t)) ∧ ∀ H, SqT K H t p.2) : KDs K w mg x tab := by
  obtain ⟨es, n, D⟩ := He.dicW_ok h
  exact ⟨d, es, n, hm, D, fun z hz => nsIn_miss h hz, hv⟩
/-- a tuple that the module knows -/
theorem sqt_k {K : PySem.W.Frag} {t : Addr} {od : Option Addr} {its : Array Value} {n : Nat} {sl : Array (Option Value)} {vs : List V} (h : K.lookup t = some ⟨.type "tuple", od, .seq its n, sl⟩) (hz : its.size ≤ sizeLine) (hv : Vals vs its.toList) : ∀ H, SqT K H t vs :=
  fun H => .inr ⟨_, its, n, h, rfl, rfl, hz, hv⟩
section
variable {X : Cx} {d : Addr} {es : Array DictEntry} {n : Nat}
def rKd (K : PySem.W.Frag) (d : Addr) : R2 := fun x y H Q => ∃ (z : Str) (u0 : Value) (v0 : V), x = .ref d ∧ y = .str z ∧ PySem.W.nsIn K d z = some (some u0) ∧ RelV v0 u0 ∧ Q v0 H
theorem ix_kd (D : KDict X.K X.w d es n) : IxR X (rKd X.K d) := by
  intro value slice pins s σ H x y v u Q I rx ry h hs
  have hi := op_item_kd D pins s σ H x y v u Q I rx ry h
  obtain ⟨z, u0, v0, rfl, rfl, e, r, q⟩ := h
  cases rx
  exact tail_any (kd_type D I) slot_dict_getitem.lookup hi hs
end
section
variable {K : PySem.W.Frag} {G : Gs} {B : Bs} {env : Vn} {Q : XV → Prop} {nx : Vn → Prop} {rt : XV → Prop} {bk ct : Vn → Prop}
theorem vo_inKd {d : Addr} {z : Str} {r : Option Value} (h : PySem.W.nsIn K d z = some r) (q : Q (.p (.bl r.isSome))) : VO K G B (fun x y H Q => ∃ (z : Str) (r : Option Value), x = .str z ∧ y = .ref d ∧ PySem.W.nsIn K d z = some r ∧ Q (.bl r.isSome) H) env (.p (.str z)) (.p (.ptr d)) Q := fun σ R H rp v w hv hw Qh k =>
  ⟨z, r, str_at hv, ptr_at hw, h, k _ R H (.p (.bl _)) rp (Same.refl R) (.bl _) q⟩
theorem vo_notInKd {d : Addr} {z : Str} {r : Option Value} (h : PySem.W.nsIn K d z = some r) (q : Q (.p (.bl (!r.isSome)))) : VO K G B (fun x y H Q => ∃ (z : Str) (r : Option Value), x = .str z ∧ y = .ref d ∧ PySem.W.nsIn K d z = some r ∧ Q (.bl (!r.isSome)) H) env (.p (.str z)) (.p (.ptr d)) Q := fun σ R H rp v w hv hw Qh k =>
  ⟨z, r, str_at hv, ptr_at hw, h, k _ R H (.p (.bl _)) rp (Same.refl R) (.bl _) q⟩
theorem vo_itKd {d t : Addr} {z : Str} {vs : List V} {ds : List D} (h : PySem.W.nsIn K d z = some (some (.ref t))) (ht : ∀ H, SqT K H t vs) (ha : ∀ R, AtL K R vs ds) (q : Q (.p (.tup ds))) : VO K G B (rKd K d) env (.p (.ptr d)) (.p (.str z)) Q := fun σ R H rp v w hv hw Qh k =>
  ⟨z, .ref t, .ref t, ptr_at hv, str_at hw, h, rfl, k _ R H (.p (.tup ds)) rp (Same.refl R) (.tup (ht R) (ha R)) q⟩
theorem vc_strS {z : Str} (q : Q (.p (.str z))) : VC K G B (fun xs H Q => ∃ a, xs = [.str a] ∧ Q (.str a) H) env [.p (.str z)] Q := vc1 fun σ R H r v hv Qh k =>
  ⟨z, by rw [str_at hv], k _ R H (.p (.str z)) r (Same.refl R) (.str z) q⟩
/-- x.split(y) -/
theorem ve_split {to te : TE} (h : VE K G B to env fun x => ∃ a, x = .p (.str a) ∧ VE K G B te env fun y => ∃ b, y = .p (.str b) ∧ b.length ≠ 0 ∧ a.length ≤ 100000 ∧ Q (.o (.lst ((Txt.split a b).map D.str)))) :
    VE K G B (tM1 (fun x xs H Q => ∃ a b, x = .str a ∧ xs = [.str b] ∧ (b.length == 0) = false ∧ a.length + 2 ≤ sizeLine ∧ rNewStrs (Txt.split a b) H Q) to te) env Q := fun σ R H rp Qh k =>
  h σ R H rp _ fun v R1 H1 x r1 s1 hv ⟨a, e, q⟩ => by
    subst e
    have ev := str_at hv
    subst ev
    refine ⟨⟨a, rfl⟩, q σ R1 H1 r1 _ fun w R2 H2 y r2 s2 hw ⟨b, e2, hb, hl, q2⟩ => ?_⟩
    subst e2
    refine ⟨a, b, rfl, by rw [str_at hw], beq_eq_false_iff_ne.mpr hb, Nat.le_trans (Nat.add_le_add_right hl 2) (by decide), fun p hp => ?_⟩
    obtain ⟨r3, v3⟩ := own_lst r2 hp (atl_strs (K := K) (R := R2) (Txt.split a b))
    exact k _ R2 _ _ r3 (s1.trans s2) v3 q2
abbrev rJoin (K : PySem.W.Frag) : V → List V → Hp → VK → Prop := fun x xs H Q => ∃ a p, ∃ ys : List Str, x = .str a ∧ xs = [.ref p] ∧ (SqL K H p (ys.map V.str) ∨ SqT K H p (ys.map V.str)) ∧ (ys.map (·.length)).sum + ys.length * a.length ≤ 16777216 ∧ Q (.str (Txt.join a ys)) H
/-- x.join(y) -/
theorem ve_join {to te : TE} (h : VE K G B to env fun x => ∃ a, x = .p (.str a) ∧ VE K G B te env fun y => y.fz fun y => ∃ ys : List Str, (y.seqL = some (ys.map D.str) ∨ y = .p (.tup (ys.map D.str))) ∧ (ys.map (·.length)).sum + ys.length * a.length ≤ 1000000 ∧ Q (.p (.str (Txt.join a ys)))) :
    VE K G B (tM1 (rJoin K) to te) env Q := fun σ R H rp Qh k =>
  h σ R H rp _ fun v R1 H1 x r1 s1 hv ⟨a, e, q⟩ => by
    subst e
    have ev := str_at hv
    subst ev
    refine ⟨⟨a, rfl⟩, q σ R1 H1 r1 _ fun w R2 H2 y0 r2 s2 hw q2 => ?_⟩
    obtain ⟨R3, y, r3, s3, hw3, ho, ys, hy, hl, q3⟩ := hw.fz r2 q2
    rcases hy with hy | rfl
    · obtain ⟨p, xs, rfl, h1, h2⟩ := seqL_at r3 hw3 hy
      rw [AtL.strs_inv h2] at h1
      exact ⟨a, p, ys, rfl, rfl, .inl h1, Nat.le_trans hl (by decide), k _ R3 H2 (.p (.str _)) r3 ((s1.trans s2).trans s3) (.str _) q3⟩
    · obtain ⟨p, xs, rfl, h1, _, h2⟩ := tup_at r3 hw3
      rw [AtL.strs_inv h2] at h1
      exact ⟨a, p, ys, rfl, rfl, .inr h1, Nat.le_trans hl (by decide), k _ R3 H2 (.p (.str _)) r3 ((s1.trans s2).trans s3) (.str _) q3⟩
/-- xs.extend(e) -/
theorem vs_extend {i : Nat} {te : TE} {ds : List D} (hd : env[i]? = some (.mu (.lst ds))) (h : VE K G B te env fun x => x.fz fun x => ∃ es, x = .p (.lst es) ∧ ds.length + es.length ≤ 100000 ∧ nx (env.set i (.mu (.lst (ds ++ es))))) :
    VS K G B (tDrop (tBM K "list" rExtend (tVar i) (tCons te tNil))) env nx rt bk ct := fun σ R H r Z kn _ _ _ => by
  obtain ⟨a, y, h1, h2, h3, h4, h5⟩ := r.slots i _ hd
  obtain ⟨xs, rfl⟩ : ∃ xs, y = .lst xs := by cases y <;> first | exact ⟨_, rfl⟩ | exact h5.elim
  refine ⟨.ref a, h1, .inl ⟨rfl, xs, .inl (.inl h4)⟩, h σ R H r _ fun v R1 H1 x r1 s1 hv q => ?_⟩
  obtain ⟨R2, x', r2, s2, hv2, ho, es, rfl, hl, q2⟩ := hv.fz r1 q
  obtain ⟨b, y, g1, g2, g3, g4, g5⟩ := r2.slots i _ hd
  rw [h1] at g1
  cases g1
  obtain ⟨ys, rfl⟩ : ∃ xs, y = .lst xs := by cases y <;> first | exact ⟨_, rfl⟩ | exact g5.elim
  have g6 : AtL K R2 ys ds := g5
  cases hv2 with
  | @lst c zs _ e1 e2 =>
    refine ⟨a, c, ys, zs, rfl, rfl, g4, r2.sub.of e1 rfl, by rw [g6.len, e2.len]; exact Nat.le_trans hl (by decide), ?_⟩
    exact kn _ σ R2 _ (r2.mut hd h1 (y := .lst (ys ++ zs)) (d' := .lst (ds ++ es)) (g6.app e2)) (s1.trans s2) q2
end
end VL

/-! An own dict is walked while other slots hold dicts (none of them locked). -/
namespace VL
open PySem L2
/-- no locked dict within -/
def D.noL : Nat → D → Bool
  | 0, _ => false
  | n + 1, d => match d with
    | .tup ds => ds.all (D.noL n)
    | .lst ds => ds.all (D.noL n)
    | .ro ds => ds.all (D.noL n)
    | .dct kvs => kvs.all fun p => D.noL n p.2
    | .lkd _ _ => false
    | .ins _ _ _ => false
    | _ => true
def Slot.noL0 : D → Bool
  | .lst ds => ds.all (D.noL 9)
  | .dct kvs => kvs.all fun p => D.noL 9 p.2
  | _ => false
def Slot.noL : Slot → Bool
  | .u => true
  | .p d => D.noL 9 d
  | .mu (.lst ds) => ds.all (D.noL 9)
  | .mu (.dct kvs) => kvs.all fun p => D.noL 9 p.2
  | .mu _ => false
  | .hp gs => gs.all fun p => Slot.noL0 p.2
section
variable {K : PySem.W.Frag} {G : Gs} {B : Bs} {env : Vn} {σ : L2.St} {R R' R1 H H' H1 : Hp} {Q : XV → Prop} {nx : Vn → Prop} {rt : XV → Prop} {bk ct : Vn → Prop} {Qe : Vn → Prop} {Qb : Bool → Prop} {Ql : List D → Prop}
theorem at_unlL {a : Addr} {o : Obj} {zs : List (Key × V)} (ha : R a = some (.frz o (.dK zs))) : ∀ (n : Nat) {v : V} {d : D}, D.noL n d = true → At K R v d → At K (without R a) v d := by
  have ne : ∀ {b : Addr} {y : HO}, R b = some y → (∀ o u, y ≠ .frz o (.dK u)) → without R a b = some y := fun {b y} e hn => by
    rw [without_ne]
    · exact e
    · rintro rfl
      rw [ha] at e
      cases e
      exact hn _ _ rfl
  intro n
  induction n with
  | zero => intro v d h _; cases h
  | succ n ih =>
    intro v d h t
    cases t with
    | non => exact .non
    | bl b => exact .bl b
    | int i => exact .int i
    | str x => exact .str x
    | @tup b xs ds hs ht =>
      refine .tup (xs := xs) ?_ ?_
      · rcases hs with (hs | ⟨o, hs⟩) | hs
        · exact .inl (.inl (ne hs fun _ _ z => by cases z))
        · exact .inl (.inr ⟨o, ne hs fun _ _ z => by cases z⟩)
        · exact .inr hs
      · have hd : ∀ d ∈ ds, D.noL n d = true := List.all_eq_true.mp h
        exact ht.imp fun v d hm => ih (hd d hm)
    | @lst b xs ds hs ht =>
      refine .lst (xs := xs) (ne hs fun _ _ z => by cases z) ?_
      have hd : ∀ d ∈ ds, D.noL n d = true := List.all_eq_true.mp h
      exact ht.imp fun v d hm => ih (hd d hm)
    | @ro b xs ds hs ht =>
      refine .ro (xs := xs) ?_ ?_
      · rcases hs with (hs | ⟨o, hs⟩) | hs
        · exact .inl (.inl (ne hs fun _ _ z => by cases z))
        · exact .inl (.inr ⟨o, ne hs fun _ _ z => by cases z⟩)
        · exact .inr hs
      · have hd : ∀ d ∈ ds, D.noL n d = true := List.all_eq_true.mp h
        exact ht.imp fun v d hm => ih (hd d hm)
    | @dct b xs ds hs ht =>
      refine .dct (xs := xs) (ne hs fun _ _ z => by cases z) ?_
      exact ht.imp fun v d hm => ih (by
        obtain ⟨p, hp, rfl⟩ := List.mem_map.mp hm
        exact List.all_eq_true.mp h p hp)
    | lkd _ _ => cases h
    | ins _ _ _ => cases h
    | dtt hs => exact .dtt (ne hs fun _ _ z => by cases z)
    | key hs => exact .key (ne hs fun _ _ z => by cases z)
    | ty n => exact .ty n
    | @st b φ hs => exact .st (φ := φ) (ne hs fun _ _ z => by cases z)
    | ptr b => exact .ptr b
    | @cm b i j hs => exact .cm (i := i) (j := j) (ne hs fun _ _ z => by cases z)
theorem mat_unlL {a : Addr} {o : Obj} {zs : List (Key × V)} (ha : R a = some (.frz o (.dK zs))) {y : HO} {d : D} (h : Slot.noL (.mu d) = true) (t : MAt K R y d) : MAt K (without R a) y d := by
  cases y <;> cases d <;> first
    | exact t.elim
    | cases h
    | exact AtL.imp t fun v d hm => at_unlL ha 9 (List.all_eq_true.mp h d hm)
    | exact AtD.imp t fun v d hm => at_unlL ha 9 (by
        obtain ⟨p, hp, rfl⟩ := List.mem_map.mp hm
        exact List.all_eq_true.mp h p hp)
theorem slot_unlL {a : Addr} {o : Obj} {zs : List (Key × V)} (ha : R a = some (.frz o (.dK zs))) {i : Nat} {sl : Slot} (h : sl.noL = true) (t : SlotAt K B R H σ i sl) : SlotAt K B (without R a) H σ i sl := by
  have wn : ∀ {b : Addr}, R b = none → without R a b = none := fun {b} e => by
    by_cases q : b = a
    · rw [q]
      exact without_same
    · rw [without_ne q]
      exact e
  cases sl with
  | u => trivial
  | p d =>
    obtain ⟨v, g1, g2⟩ := t
    exact ⟨v, g1, at_unlL ha 9 h g2⟩
  | mu d =>
    obtain ⟨b, y, g1, g2, g3, g4, g5⟩ := t
    exact ⟨b, y, g1, g2, wn g3, g4, mat_unlL ha h g5⟩
  | hp gs =>
    refine fun g hg => ?_
    obtain ⟨g2, g3, y, g4, g5⟩ := t g hg
    have hd : Slot.noL0 g.2 = true := List.all_eq_true.mp h g hg
    exact ⟨g2, wn g3, y, g4, mat_unlL ha (by
      cases e : g.2 <;> rw [e] at hd <;> first | exact hd | cases hd) g5⟩
/-- .. and unlocked, the slots but i known to hold no dict -/
theorem Rep.unlockL (r : Rep K G B env σ R H) {i : Nat} {a : Addr} {o : Obj} {xs : List (Key × V)} {ds : List (Key × D)} (hd : env[i]? = some (.p (.lkd a ds))) (hB : B.H a = none) (hR : R a = some (.frz o (.dK xs))) (hn : ∀ (j : Nat) s, j ≠ i → env[j]? = some s → s.noL = true) (hA : AtD K (without R a) xs ds) :
    Rep K G B (env.set i (.mu (.dct ds))) σ (without R a) (upd H a (.dK xs)) := by
  have h1 : σ[i]? = some (some (.ref a)) := by
    obtain ⟨v, g1, g2⟩ := r.slots i _ hd
    cases g2
    exact g1
  have hi := (List.getElem?_eq_some_iff.mp hd).1
  have hH := r.sub.of hR rfl
  have r1 := r.forget i
  obtain ⟨no, np⟩ := r1.known hR
  have r2 := r1.drop hB fun j sl hj t => by
    by_cases q : j = i
    · subst q
      rw [List.getElem?_set_self hi] at hj
      cases hj
      trivial
    · rw [List.getElem?_set_ne (Ne.symm q)] at hj
      exact slot_unlL hR (hn j sl q hj) t
  have r3 := r2.mutA (y := .dK xs) hH rfl hB without_same no np
  have r4 := r3.set (i := i) (sl := .mu (.dct ds)) (v := .ref a) (by rw [List.length_set]; exact hi) ⟨a, .dK xs, List.getElem?_set_self (r.ilt hi), hB, without_same, upd_same, hA⟩ fun b z => by
    have z' : (some (some (V.ref a)) : Option (Option V)) = some (some (.ref b)) := z
    cases z'
    exact ⟨no, np⟩
  rw [set_same h1, List.set_set] at r4
  exact r4
/-- the slot i holds the locked dict, and the others hold none -/
def UnlL (i : Nat) (a : Addr) (ds : List (Key × D)) (e : Vn) : Prop := e[i]? = some (.p (.lkd a ds)) ∧ ∀ (j : Nat) s, j ≠ i → e[j]? = some s → s.noL = true
theorem unlL_of {i : Nat} {a : Addr} {ds : List (Key × D)} {e : Vn} (h1 : e[i]? = some (.p (.lkd a ds))) (h2 : (e.set i .u).all Slot.noL = true) : UnlL i a ds e := ⟨h1, fun j s hj hs => List.all_eq_true.mp h2 s (by
  refine List.mem_of_getElem? (i := j) ?_
  rw [List.getElem?_set_ne (Ne.symm hj)]
  exact hs)⟩
def XV.noL : XV → Bool
  | .p d => D.noL 9 d
  | _ => false
/-- a statement that walks a slot's own dict -/
theorem vs_lockML {i : Nat} {t : TS} {ds : List (Key × D)} (hd : env[i]? = some (.mu (.dct ds)))
    (h : ∀ a, VS K G B t (env.set i (.p (.lkd a ds))) (fun e => UnlL i a ds e ∧ nx (e.set i (.mu (.dct ds)))) (fun x => x.noL = true ∧ rt x) (fun e => UnlL i a ds e ∧ bk (e.set i (.mu (.dct ds)))) (fun e => UnlL i a ds e ∧ ct (e.set i (.mu (.dct ds))))) :
    VS K G B (tLock t) env nx rt bk ct := fun σ R H r Z kn kr kb kc => by
  obtain ⟨a, y, h1, hB, hR, hH, hm⟩ := r.slots i _ hd
  obtain ⟨xs, rfl⟩ : ∃ xs, y = .dK xs := by cases y <;> first | exact ⟨_, rfl⟩ | exact hm.elim
  have hA : AtD K R xs ds := hm
  refine ⟨a, .dK xs, hH, trivial, fun o => ?_⟩
  have r1 := r.lock (o := o) hd h1 hB hR hH hA
  have key : ∀ {R' : Hp}, Same (upd R a (.frz o (.dK xs))) R' → R' a = some (.frz o (.dK xs)) ∧ Same R (without R' a) := fun {R'} s => ⟨s a _ upd_same, fun b x e => by
    have hb : b ≠ a := fun z => by rw [z, hR] at e; cases e
    rw [without_ne hb]
    exact s b x (by rw [upd_ne hb]; exact e)⟩
  have fin : ∀ {e : Vn} {σ' R' H'}, Rep K G B e σ' R' H' → Same (upd R a (.frz o (.dK xs))) R' → UnlL i a ds e → H' a = some (.frz o (.dK xs)) ∧ Rep K G B (e.set i (.mu (.dct ds))) σ' (without R' a) (upd H' a (.dK xs)) := fun r' s' u => by
    obtain ⟨k1, k2⟩ := key s'
    exact ⟨r'.sub.of k1 (rfl), r'.unlockL u.1 hB k1 u.2 (hA.same k2)⟩
  refine h a σ _ _ r1 _ (fun e σ' R' H' r' s' ⟨u, q⟩ => ?_) (fun v e σ' R' H' x r' s' hv ⟨hn, q⟩ => ?_) (fun e σ' R' H' r' s' ⟨u, q⟩ => ?_) (fun e σ' R' H' r' s' ⟨u, q⟩ => ?_)
  · obtain ⟨f1, f2⟩ := fin r' s' u
    exact ⟨f1, kn _ σ' _ _ f2 (key s').2 q⟩
  · obtain ⟨k1, k2⟩ := key s'
    cases x with
    | p d =>
      have rb := r'.blank
      have hH' := rb.sub.of k1 rfl
      obtain ⟨no, np⟩ := rb.known k1
      -- the slots are forgotten, the dict is unlocked
      have r2 := (rb.drop hB fun j sl hj t => by
        rw [List.getElem?_replicate] at hj
        split at hj
        · cases hj
          trivial
        · cases hj).mutA (y := .dK xs) hH' rfl hB without_same no np
      exact ⟨rb.sub.of k1 (rfl), kr v _ σ' _ _ (.p d) r2 k2 (at_unlL k1 9 hn hv) q⟩
    | _ => cases hn
  · obtain ⟨f1, f2⟩ := fin r' s' u
    exact ⟨f1, kb _ σ' _ _ f2 (key s').2 q⟩
  · obtain ⟨f1, f2⟩ := fin r' s' u
    exact ⟨f1, kc _ σ' _ _ f2 (key s').2 q⟩
end
end VL

/-! xs.index(b), a row of truths -/
namespace VL
open PySem L2
section
variable {K : PySem.W.Frag} {G : Gs} {B : Bs} {env : Vn} {σ : L2.St} {R R1 : Hp} {H H1 : Hp} {Q : XV → Prop}
theorem eqV_bl (y z : Bool) : eqV (.bl y) (.bl z) = decide (y = z) := by
  cases y <;> cases z <;> decide
theorem flat_bls (zs : List Bool) : (zs.map V.bl).all flatV = true := by
  rw [List.all_map]
  exact List.all_eq_true.mpr fun _ _ => rfl
theorem idx_getB {zs : List Bool} {z : Bool} (h : z ∈ zs) : zs[zs.idxOf z]? = some z ∧ ∀ m, m < zs.idxOf z → zs[m]? ≠ some z := by
  induction zs with
  | nil => cases h
  | cons a r ih =>
    rw [List.idxOf_cons]
    by_cases e : a = z
    · subst e
      simp
    · have hb : (a == z) = false := beq_eq_false_iff_ne.mpr e
      rw [hb]
      obtain ⟨h1, h2⟩ := ih ((List.mem_cons.mp h).resolve_left fun q => e q.symm)
      refine ⟨by simpa using h1, fun m hm => ?_⟩
      cases m with
      | zero => simpa using e
      | succ m =>
        have hm' : m < r.idxOf z := by
          have : m + 1 < r.idxOf z + 1 := hm
          omega
        simpa using h2 m hm'
theorem ve_indexB {to tz : TE} (h : VE K G B to env fun x => x.fz fun x => ∃ zs : List Bool, x.seqL = some (zs.map D.bl) ∧ VE K G B tz env fun y => ∃ z : Bool, y = .p (.bl z) ∧ z ∈ zs ∧ Q (.p (.int (zs.idxOf z : Nat)))) : VE K G B (tBM K "list" (rIndex K) to (tCons tz tNil)) env Q := fun σ R H r Qh k =>
  h σ R H r _ fun v R1 H1 x r1 s1 hv q => by
    obtain ⟨R2, x', r2, s2, hv2, ho, zs, hx, q2⟩ := hv.fz r1 q
    obtain ⟨a, xs, rfl, h1, h2⟩ := seqL_at r2 hv2 hx
    refine ⟨.inl ⟨rfl, xs, h1⟩, q2 σ R2 H1 r2 _ fun w R3 H3 y r3 s3 hw ⟨z, e, hz, q3⟩ => ?_⟩
    subst e
    cases hw
    obtain ⟨b, ys, e, g1, g2⟩ := seqL_at r3 (VAt.go (H' := H3) hv2 ho s3) hx
    cases e
    rw [AtL.bls_inv g2] at g1
    obtain ⟨i1, i2⟩ := idx_getB hz
    refine ⟨a, _, .bl z, zs.idxOf z, .bl z, rfl, rfl, g1, rfl, flat_bls zs, by rw [List.getElem?_map, i1]; rfl, by rw [eqV_bl, decide_eq_true rfl], fun m z' hm hz' => ?_, k _ R3 H3 (.p (.int _)) r3 ((s1.trans s2).trans s3) (.int _) q3⟩
    rw [List.getElem?_map] at hz'
    cases hzm : zs[m]? with
    | none => rw [hzm] at hz'; cases hz'
    | some u =>
      rw [hzm] at hz'
      cases hz'
      rw [eqV_bl]
      exact decide_eq_false fun e => i2 m hm (by rw [hzm, e])
end
end VL

/-! enumerate(tuple) -/
namespace VLE
open PySem
open PySem.Sem (wp)
theorem meets_enum1 {v : Value} {o : Obj} {H : Heap → Prop} (B : Begins v o H) :
    Meets (Builtin.«enumerate.__new__» ⟨[.type "enumerate", v], []⟩) (fun _ R s => H s.heap ∧
      R (.ok (.ret (.ref (s.heap.push o).objs.size))) { s with heap := (s.heap.push o).push { cls := .type "enumerate", data := .fields #[.none, .bool false, .ref s.heap.objs.size, rawInt 0, .none, .none] } }) :=
  .of_wp fun prog w A R s h => by
    obtain ⟨hp, g, d, tk, os⟩ := s; obtain ⟨h1, h⟩ := h
    have hsub := sub_enumerate
    have q1 : ∀ {A' : Around} {E : Value → Shared → Prop} {Q : Value → Shared → Prop}, Q (.ref hp.objs.size) ⟨hp.push o, g, d, tk, os⟩ → wpAny (model prog w) A' (pyIter v) Q E ⟨hp, g, d, tk, os⟩ :=
      fun q => B.iter prog w _ _ ⟨hp, g, d, tk, os⟩ _ h1 q
    wp_walk using q1
    refine wpAny_stack_any fun st => wpAny_pure ?_
    split
    · rename_i c _ _ _ _ _
      cases (c == Value.type "enumerate")
      · wp_walk using q1
        exact ⟨_, rfl, h⟩
      · wp_walk using q1
        exact ⟨_, rfl, h⟩
    · wp_walk using q1
      exact ⟨_, rfl, h⟩
theorem enum_one {prog : Program} {w : World} {A : Around} {E : Value → Shared → Prop} {s : Shared} {v : Value} {o : Obj} {H : Heap → Prop} {Q : Value → Shared → Prop} (B : Begins v o H) (h1 : H s.heap)
    (h : ∀ h', IsEnum h' (s.heap.objs.size + 1) s.heap.objs.size 0 .none → h'.get? s.heap.objs.size = some o → h'.objs.size = s.heap.objs.size + 2 →
      (∀ b o, s.heap.get? b = some o → h'.get? b = some o) → Q (.ref (s.heap.objs.size + 1)) { s with heap := h' }) :
    wpAny (model prog w) A (call (.type "enumerate") [v]) Q E s := by
  refine callType_new F.called_enumerate (by decide) (F.typeCall_enumerate_1 _) (F.newCall_enumerate_1 _) (fun obj => F.args_object_init_2 obj _) F.entry_enumerate_new
    (meets_enum1 B) ⟨h1, ?_⟩
  have hz : (s.heap.push o).objs.size = s.heap.objs.size + 1 := Heap.size_push ..
  show _ ∧ _
  rw [hz]
  have he : IsEnum ((s.heap.push o).push { cls := .type "enumerate", data := .fields #[.none, .bool false, .ref s.heap.objs.size, rawInt 0, .none, .none] }) (s.heap.objs.size + 1) s.heap.objs.size 0 .none := by
    have := Heap.get?_push_size (s.heap.push o) (o := { cls := .type "enumerate", data := .fields #[.none, .bool false, .ref s.heap.objs.size, rawInt 0, .none, .none] }) rfl
    rw [hz] at this; exact this
  exact ⟨⟨_, he, rfl⟩, h _ he (Heap.get?_push_of_some _ (Heap.get?_push_size _ B.free)) (by rw [Heap.size_push, hz]) fun b o x => Heap.get?_push_of_some _ (Heap.get?_push_of_some _ x)⟩
end VLE
namespace VL
open PySem PySem.Spec PyProof.Rows L2
/-- the tuple at a, each item in a new pair -/
def IteT (K : PySem.W.Frag) (a : Addr) : It :=
  ⟨fun i H => ∃ (xs : List V) (x : V), SqT K H a xs ∧ xs[i]? = some x, fun i H v H' => ∃ T x, v = .ref T ∧ H T = none ∧ H' = upd H T (.tup [.int (i : Nat), x]) ∧ ∀ xs, SqT K H a xs → xs[i]? = some x, fun i H => ∃ xs : List V, SqT K H a xs ∧ xs.length ≤ i⟩
theorem turn_enumT {P : Program} {w : World} {K : PySem.W.Frag} {elts : List Expr} {kk : Nat} {tpos : Pos} (a e it : Addr) :
    Turn P w K (.Tuple elts kk tpos) (IteT K a) [e, it] e (fun i h => (∃ old, IsEnum h e it ((i : Nat) : Int) old) ∧ h.IsTupleIter it a i ∧ e ≠ it) where
  mem := by simp
  obj := fun i h st b hb => by
    obtain ⟨⟨old, he⟩, ⟨o, ho, hc, hd⟩, _⟩ := st
    have e' : b = e ∨ b = it := by simpa using hb
    rcases e' with z | z
    · rw [z]; exact ⟨_, he, fun v q => nomatch q⟩
    · rw [z]; exact ⟨o, ho, fun v q => by rw [hd] at q; cases q⟩
  keep := fun i h h' st k => let ⟨⟨old, he⟩, hi, hne⟩ := st; ⟨⟨old, k e (by simp) _ he⟩, hi.at fun o q => k it (by simp) o q, hne⟩
  item := by
    intro X hP hw hK hc i pins s σ H E I hf st hg
    subst hP hw hK
    obtain ⟨⟨old, he⟩, hit, hne⟩ := st
    obtain ⟨xs, x, hq, hx⟩ := hg
    obtain ⟨its, rv, p, hz⟩ := I.tuple hq
    obtain ⟨u, hu, ru⟩ := rv.get hx
    have p' : s.heap.IsTuple a its.toArray := p
    have hai : a ≠ it := fun z => by
      subst z
      obtain ⟨o1, h1, c1, _⟩ := p'
      obtain ⟨o2, h2, c2, _⟩ := hit
      rw [h1] at h2
      cases h2
      rw [c1] at c2
      exact absurd c2 (by decide)
    have hae : e ≠ a := fun z => by
      subst z
      obtain ⟨o1, h1, c1, _⟩ := p'
      have he' : s.heap.get? e = some _ := he
      rw [h1] at he'
      cases he'
      exact absurd (show Value.type "enumerate" = Value.type "tuple" from c1) (by decide)
    have hel : e < s.heap.objs.size := Heap.lt_size he
    have hil : it < s.heap.objs.size := by obtain ⟨_, q, _⟩ := hit; exact Heap.lt_size q
    have hil2 : i < its.toArray.size := by
      have := (List.getElem?_eq_some_iff.mp hu).1
      simpa using this
    refine wpAny_pyNext_enum_itemD (Draws.tuple (A := X.A.in1) (show X.A.in1.handled = none from I.ok.hd hc) it a hai its.toArray) he ⟨hit, p'⟩ hil2 hne (by simp [hne, hae]) fun y h' tk hy ho hst' hT hsz hk => ?_
    have hyu : y = u := by
      have h1 : its[i]? = some y := by simpa using hy
      rw [hu] at h1
      exact (Option.some.inj h1).symm
    subst hyu
    have hit' := hst'.1
    refine ⟨_, rfl, wpAny_letOwnedTupleGo_enum (s := { s with heap := h', toks := tk + 1 }) ho fun h'' he' sb => ?_⟩
    have hT2 : h''.get? s.heap.objs.size = some { cls := .type "tuple", data := .seq #[.int i tk, y] } := (sb.2 _ (Nat.ne_of_gt hel)).trans hT
    have new : ObjOk X.prog X.w (upd H s.heap.objs.size (.tup [.int (i : Nat), x])) h'' s.heap.objs.size (.tup [.int (i : Nat), x]) :=
      ⟨by show 2 ≤ sizeLine; decide, [.int i tk, y], .cons ⟨_, rfl⟩ (.cons ru .nil), ⟨_, hT2, rfl, _, rfl⟩⟩
    have I1 : L2.Inv X pins σ (upd H s.heap.objs.size (.tup [.int (i : Nat), x])) { s with heap := h'', toks := tk + 1 } :=
      I.turnedNew (ch := [e, it]) (fun b ob hb q => (sb.2 b (fun z => hb (by simp [z]))).trans (hk b ob (fun z => hb (by simp [z])) (fun z => hb (by simp [z])) q)) hf (Nat.le_refl _) new
    refine ⟨.ref s.heap.objs.size, _, I1, rfl, ⟨_, x, rfl, I.hok.fresh (Nat.le_refl _), rfl, fun ys hy => by rw [I.tuple_inj hy hq]; exact hx⟩, ⟨⟨y, ?_⟩, hit'.at fun o q => (sb.2 it (Ne.symm hne)).trans q, hne⟩, fun b hb => ?_⟩
    · have e1 : ((i + 1 : Nat) : Int) = (i : Int) + 1 := by omega
      rw [e1]; exact he'
    · have hb' : b < s.heap.objs.size := by
        have e' : b = e ∨ b = it := by simpa using hb
        rcases e' with z | z
        · rw [z]; exact hel
        · rw [z]; exact hil
      rw [upd_ne (Nat.ne_of_lt hb')]
      exact (hf b hb).1
  done := by
    intro X hP hw hK hc i pins s σ H E I hf st hg
    subst hP hw hK
    obtain ⟨⟨old, he⟩, hit, hne⟩ := st
    obtain ⟨xs, hq, hx⟩ := hg
    obtain ⟨its, rv, p, hz⟩ := I.tuple hq
    obtain ⟨f0, f1, f2, f3, f4, f5⟩ := hf it (by simp)
    have hl := rv.length
    have p' : s.heap.IsTuple a its.toArray := p
    have hT : s.TypeIs (.ref e) "enumerate" := ⟨_, he, rfl⟩
    unfold pyNext
    refine wpAny_bind (wpAny_attempt (wpAny_callSpecial?_slot (name := Str.ofString "__next__") hT F.slot_enumerate_next
      (wpAny_call_entry F.slot_enumerate_next hT F.entry_enumerate_next ?_ (F.args_enumerate_next_1 _))))
    show wpAny _ _ (field (.ref e) 2 >>= _) _ _ _
    refine wpAny_bind (wpAny_field he rfl (x := .ref it) rfl ?_)
    refine wpAny_bind (wpAny_nextOf_tuple_end (I.ok.hd hc) hit p' (by simp; omega) fun h' x eb hx' => ?_)
    obtain ⟨o, ho, hcl⟩ := hx'
    refine wpAny_bind (wpAny_isInstance (T := "StopIteration") (b := true) ⟨o, ho, hcl⟩ isSubtype_stop ?_)
    exact wpAny_pure ⟨rfl, I.turned (t' := s.toks) (fun b o hb q => eb b o hb q) f0 f1 f3 f4 f5⟩
  self := fun A i s Q E st h => let ⟨⟨_, he⟩, _⟩ := st; wpAny_pyIter_enum he h
def iEnumT (K : PySem.W.Frag) (ta : TA) : TI := fun σ H R => ta σ H fun vs H1 => ∃ a xs, vs = [.ref a] ∧ SqT K H1 a xs ∧ R (IteT K a) H1
theorem pi_enumT {X : Cx} {e : Expr} {ta : TA} {p pos tpos : Pos} {elts : List Expr} {kk : Nat} (hg : Gl X "enumerate") (hm : X.mg "enumerate" = none) (ha : PA X [e] ta) (hs : starEach [e] X.env = [(false, eval e X.env)] := by rfl) :
    PI X (.Tuple elts kk tpos) (.Call (.Name "enumerate" p) [e] [] pos) (iEnumT X.K ta) := by
  refine ⟨fun pins s σ H R I h => ?_⟩
  refine Call_ (ld_blt I hg hm boot_enumerate (PyProof.Rows.callWith_type1 (thn (ha.run pos pins s σ H _ I h) fun us s1 ⟨vs, H1, I1, r1, q1⟩ => ?_) hs rfl))
  obtain ⟨a, xs, ex, hq, q⟩ := q1
  subst ex
  cases r1 with
  | cons r rr =>
    cases rr
    cases r
    obtain ⟨its, rv, p', hz⟩ := I1.tuple hq
    refine VLE.enum_one (begins_tuple a its.toArray) (show s1.heap.IsTuple a its.toArray from p') fun h' he hit hsz hk => wpAny_pyIter_enum he ?_
    have I2 : L2.Inv X pins σ H1 { s1 with heap := h' } := I1.kept (t' := s1.toks) hk
    refine ⟨s1.heap.objs.size + 1, [s1.heap.objs.size + 1, s1.heap.objs.size], _, _, H1, rfl, I2, turn_enumT a (s1.heap.objs.size + 1) s1.heap.objs.size, ⟨⟨.none, he⟩, ⟨_, hit, rfl, rfl⟩, Nat.succ_ne_self _⟩, fun b hb => ?_, q⟩
    have e' : b = s1.heap.objs.size + 1 ∨ b = s1.heap.objs.size := by simpa using hb
    have hle : s1.heap.objs.size ≤ b := by
      rcases e' with z | z
      · rw [z]; exact Nat.le_add_right _ _
      · rw [z]; exact Nat.le_refl _
    exact I1.fpOk hle (I1.hok.fresh hle)
section
variable {K : PySem.W.Frag} {G : Gs} {B : Bs} {env : Vn} {R : Hp}
theorem wk_enumT {a : Addr} {xs : List V} {ds : List D} (hl : SqT K R a xs) (ha : AtL K R xs ds) : Wk K G B R (IteT K a) (enumD ds) where
  go := fun B e σ R' H' r s i d hi => by
    obtain ⟨d1, h1, rfl⟩ := enumD_get hi
    obtain ⟨v, hv, hd⟩ := ha.get h1
    have hL := r.sub.t (same_t s hl)
    refine ⟨⟨xs, v, hL, hv⟩, ?_⟩
    rintro w H2 ⟨T, x, rfl, hT, rfl, hx⟩
    have e := hx xs hL
    rw [hv] at e
    cases e
    have hn := r.sub.none hT
    exact ⟨_, r.newP hT (rfl), same_take hn, .tup (.inl (.inl upd_same)) (.cons (.int _) (.cons ((hd.same s).same (same_take hn)) .nil))⟩
  stop := fun B e σ R' H' r s => ⟨xs, r.sub.t (same_t s hl), by rw [enumD_len, ha.len]; exact Nat.le_refl _⟩
theorem vi_enumT {ta : TA} {Ql : List D → Prop} (h : VA K G B ta env fun xs => ∃ ds, xs = [.p (.tup ds)] ∧ Ql (enumD ds)) : VI K G B (iEnumT K ta) env Ql := fun σ R H r Qh k =>
  h σ R H r _ fun vs R1 H1 xs r1 s1 hv _ ⟨ds, e, q⟩ => by
    subst e
    match vs, hv with
    | [v], hv =>
      obtain ⟨a, ys, rfl, h0, h1, h2⟩ := tup_at r1 hv.1
      exact ⟨a, ys, rfl, h0, k _ R1 H1 _ r1 s1 (wk_enumT h1 h2) q⟩
end
end VL

/-! .. = f(..), the told lists kept as one's own, any target -/
namespace VL
open PySem PySem.Spec PyProof.Rows L2
theorem own_deep {gs : List (Addr × D)} : ∀ (n : Nat) {d e : D}, D.deepT n d = true → OwnR gs d e → e = d := fun n => by
  induction n with
  | zero => intro d e h _; cases h
  | succ n ih =>
    intro d e h ho
    have key : ∀ {ds es : List D}, (∀ d ∈ ds, D.deepT n d = true) → OwnL gs ds es → es = ds := fun {ds} => by
      induction ds with
      | nil => intro es _ h; cases h; rfl
      | cons a r ih2 =>
        intro es hd h
        cases h with
        | cons h1 h2 => rw [ih (hd _ List.mem_cons_self) h1, ih2 (fun x hx => hd x (List.mem_cons_of_mem _ hx)) h2]
    cases ho with
    | flat _ => rfl
    | lst _ => cases h
    | tup hl => rw [key (List.all_eq_true.mp h) hl]
    | dct _ => cases h
section
variable {K : PySem.W.Frag} {G : Gs} {B : Bs} {env : Vn} {nx : Vn → Prop} {rt : XV → Prop} {bk ct : Vn → Prop}
theorem vs_asgFg {j : Nat} {g : TG} {α : Type} {fr : Bool} {args : α → List D} {pre : α → Prop} {post : α → D → Prop} {rs : α → Addr → Prop} {E : XK} {X : Addr → Prop} {t : TA} (hj : env[j]? = some .u) (L : Lets K G B E X)
    (h : VA K G B t env fun xs => ∃ x, xs = (args x).map XV.p ∧ (args x).all (D.deepT 50) = true ∧ pre x ∧ (∀ C, rs x C → X C) ∧ ∀ d, post x d → D.ownT 9 d = true ∧ ∀ gs e, OwnR gs d e → (∀ q ∈ gs, D.leaf q.2 = true) → VG K G B g (.p e) (env.set j (.hp gs)) nx) :
    VS K G B (tAsg (tCall (SpA K G fr args pre post rs) [] E t) g) env nx rt bk ct := fun σ R H rp Z kn _ _ _ =>
  h σ R H rp _ fun vs R1 H1 xs r1 s1 hv _ ⟨x, e, hd, hp, hr, q⟩ => by
    subst e
    rw [List.append_nil]
    refine ⟨softOf R1, x, ⟨fun b o e => r1.sub b o (soft_some e).1, fun P e => (by
      obtain ⟨ps, h⟩ := r1.tab' P e
      exact ⟨ps, soft_of h rfl⟩)⟩, atL_soft (fun b o e l => soft_of e l) hd (atL_of hv), hp, fun v R' H' d s ha _ hpost => ?_, fun C R' H' s hc => ?_⟩
    · obtain ⟨ho, q⟩ := q d hpost
      obtain ⟨gs, d', o1, o2, o3⟩ := own_ex 9 d v ho ha
      have hat := o3 _ (own_keeps r1.sub s o2)
      have r2 := r1.goOwn s (goodG_own r1.sub s o2) hj
      refine q gs d' o1 (fun g hg => by
        obtain ⟨_, ds, e1, _, _, e4⟩ := o2 g hg
        rw [e1]
        exact e4) σ _ _ r2 v hat _ fun e2 σ2 R2 H2 r3 s3 q3 => kn e2 σ2 R2 H2 r3 ((s1.trans (step_own r1.sub s gs).same).trans s3) q3
    · exact L C _ H' (r1.step.trans (step_own r1.sub s [])) (hr C hc)
end
end VL

/-! Dicts keyed by tuples, tuples as keys; a call of what an expression tells. -/
namespace VL
open PySem PySem.Spec PyProof.Rows L2
section
variable {K : PySem.W.Frag} {G : Gs} {B : Bs} {env : Vn} {σ : L2.St} {R R' R1 H H' H1 : Hp} {Q : XV → Prop} {nx : Vn → Prop} {rt : XV → Prop} {bk ct : Vn → Prop} {Qe : Vn → Prop} {Qb : Bool → Prop} {Ql : List D → Prop}
theorem keys_at (R : Hp) : ∀ ks : List Key, AtL K R (ks.map kV) (ks.map keyD)
  | [] => .nil
  | .inl i :: r => .cons (.int i) (keys_at R r)
  | .inr x :: r => .cons (.str x) (keys_at R r)
theorem keys_inv : ∀ {ks : List Key} {vs : List V}, AtL K R vs (ks.map keyD) → vs = ks.map kV
  | [], _, h => by cases h; rfl
  | k :: r, _, h => by
    cases h with
    | cons h t => rw [key_at h, keys_inv t]; rfl
/-- what a key tells is a tuple -/
theorem At.weak {v : V} {ks : List Key} (h : At K R v (.key ks)) : At K R v (.tup (ks.map keyD)) := by
  cases h with
  | key h => exact .tup (.inl (.inl h)) (keys_at R ks)
theorem tkey_at {v : V} {ks : List Key} (h : At K R v (.key ks)) : ∃ a, v = .ref a ∧ R a = some (.tup (ks.map kV)) := by
  cases h with
  | key h => exact ⟨_, rfl, h⟩
theorem ve_weak {t : TE} {ks : List Key} (h : VE K G B t env fun x => x = .p (.key ks)) (q : Q (.p (.tup (ks.map keyD)))) : VE K G B t env Q := fun σ R H r Qh k =>
  h σ R H r Qh fun v R' H' x r' s' hv e => by
    subst e
    exact k v R' H' (.p (.tup (ks.map keyD))) r' s' (At.weak hv) q
theorem pys_keys : ∀ ks : List Key, D.pys (ks.map keyD) = ks.map keyPy
  | [] => rfl
  | .inl i :: r => by rw [List.map_cons, D.pys, pys_keys r]; rfl
  | .inr i :: r => by rw [List.map_cons, D.pys, pys_keys r]; rfl
theorem py_key (ks : List Key) : D.py (.key ks) = D.py (.tup (ks.map keyD)) := by
  simp only [D.py]
  rw [pys_keys]
/-- a new tuple of numbers and texts -/
theorem ve_tupK {ta : TA} (h : VA K G B ta env fun xs => ∃ ks, XV.plains xs = some (ks.map keyD) ∧ ks.length ≤ 100000 ∧ Q (.p (.key ks))) : VE K G B (tTup ta) env Q := fun σ R H r Qh k =>
  h σ R H r _ fun vs R1 H1 xs r1 s1 hv _ ⟨ks, e, hl, q⟩ => by
    have ha := plains_at e hv
    have ev := keys_inv ha
    subst ev
    refine ⟨by rw [List.length_map]; exact Nat.le_trans hl (by decide), fun p hp => ?_⟩
    have hn := r1.sub.none hp
    exact k (.ref p) _ _ (.p (.key ks)) (r1.newP hp rfl) (s1.trans (same_take hn)) (.key upd_same) q
def XV.keys : List XV → Option (List Key)
  | [] => some []
  | .p (.int i) :: r => match XV.keys r with
    | some ks => some (.inl i :: ks)
    | none => none
  | .p (.str x) :: r => match XV.keys r with
    | some ks => some (.inr x :: ks)
    | none => none
  | _ :: _ => none
theorem keys_plains : ∀ {xs : List XV} {ks : List Key}, XV.keys xs = some ks → XV.plains xs = some (ks.map keyD)
  | [], _, e => by cases e; rfl
  | .p (.int i) :: r, ks, e => by
    unfold XV.keys at e
    cases q : XV.keys r with
    | none => rw [q] at e; cases e
    | some l =>
      rw [q] at e
      cases e
      unfold XV.plains
      rw [keys_plains q]
      rfl
  | .p (.str i) :: r, ks, e => by
    unfold XV.keys at e
    cases q : XV.keys r with
    | none => rw [q] at e; cases e
    | some l =>
      rw [q] at e
      cases e
      unfold XV.plains
      rw [keys_plains q]
      rfl
  | .p .non :: _, _, e => by cases e
  | .p (.bl _) :: _, _, e => by cases e
  | .p (.tup _) :: _, _, e => by cases e
  | .p (.lst _) :: _, _, e => by cases e
  | .p (.ro _) :: _, _, e => by cases e
  | .p (.dct _) :: _, _, e => by cases e
  | .p (.lkd _ _) :: _, _, e => by cases e
  | .p .st :: _, _, e => by cases e
  | .p .cm :: _, _, e => by cases e
  | .p (.ptr _) :: _, _, e => by cases e
  | .p (.ty _) :: _, _, e => by cases e
  | .p (.dtt _) :: _, _, e => by cases e
  | .p (.ins _ _ _) :: _, _, e => by cases e
  | .p (.key _) :: _, _, e => by cases e
  | .o _ :: _, _, e => by cases e
  | .m _ _ :: _, _, e => by cases e
/-- a tuple that is to be a key -/
def tTupK (t : TA) : TE := tTup t
theorem pe_tupK {X : Cx} {es : List Expr} {k : Nat} {pos : Pos} {t : TA} (h : PE X (.Tuple es k pos) (tTup t)) : PE X (.Tuple es k pos) (tTupK t) := h
theorem ve_tupKq {ta : TA} (h : VA K G B ta env fun xs => ∃ ks, XV.keys xs = some ks ∧ ks.length ≤ 100000 ∧ Q (.p (.key ks))) : VE K G B (tTupK ta) env Q :=
  ve_tupK fun σ R H r Qh k => h σ R H r Qh fun vs R' H' xs r' s' hv ho ⟨ks, e, hl, q⟩ => k vs R' H' xs r' s' hv ho ⟨ks, keys_plains e, hl, q⟩
theorem ex_keys {P : List Key → Prop} {xs : List XV} {ks : List Key} (h : XV.keys xs = some ks) (hl : Nat.ble ks.length 100000 = true) (q : P ks) : ∃ ks, XV.keys xs = some ks ∧ ks.length ≤ 100000 ∧ P ks := ⟨ks, h, Nat.le_of_ble_eq_true hl, q⟩
theorem vo_ixK {ks : List Key} {i : Int} {k : Key} (hi : atI ks i = some k) (q : Q (.p (keyD k))) : VO K G B (rIxT K) env (.p (.key ks)) (.p (.int i)) Q := fun σ R H r v w hv hw Qh c =>
  vo_ixT (ds := ks.map keyD) (d := keyD k) (by
    unfold atI at hi ⊢
    rw [List.length_map]
    obtain ⟨j, h1, h2⟩ := Option.bind_eq_some_iff.mp hi
    rw [h1]
    show (ks.map keyD)[j]? = some (keyD k)
    rw [List.getElem?_map, h2]
    rfl) q σ R H r v w (At.weak hv) hw Qh c
theorem vg_tupK {n : Nat} {t : TGs} {ks : List Key} (hn : ks.length = n) (h : VGs K G B t (ks.map keyD) env Qe) : VG K G B (gTup K n t) (.p (.key ks)) env Qe := fun σ R H r v hv Qh k =>
  vg_tup (by rw [List.length_map]; exact hn) h σ R H r v (At.weak hv) Qh k
def XV.dttD : XV → Option (List (List Key × V))
  | .p (.dtt ds) => some ds
  | .m _ (.dtt ds) => some ds
  | _ => none
theorem dttD_at (r : Rep K G B env σ R H) {v : V} {x : XV} {ds : List (List Key × V)} (h : VAt K B env σ R H v x) (e : x.dttD = some ds) : ∃ a, v = .ref a ∧ Rd H a (.dT ds) := by
  cases x with
  | p d =>
    cases d <;> try cases e
    cases h with
    | dtt h => exact ⟨_, rfl, .inl (r.sub.of h rfl)⟩
  | o d => cases e
  | m i d =>
    cases d <;> try cases e
    obtain ⟨h1, h2⟩ := h
    obtain ⟨a, y, g1, g2, g3, g4, g5⟩ := r.slots i _ h1
    rw [g1] at h2
    cases h2
    obtain ⟨xs, rfl⟩ : ∃ xs, y = .dT xs := by cases y <;> first | exact ⟨_, rfl⟩ | exact g5.elim
    have g5 : xs = ds := g5
    subst g5
    exact ⟨a, rfl, .inl g4⟩
theorem ve_dnewT (q : Q (.o (.dtt []))) : VE K G B tDNewT env Q := fun σ R H r Qh k p hp =>
  k (.ref p) R _ (.o (.dtt [])) (r.new hp) (Same.refl R) ⟨p, _, rfl, r.fresh hp, r.sub.none hp, upd_same, rfl, r.noslot hp, r.nopr hp⟩ q
theorem at_sc {d : D} {u : V} (e : d.sc = some u) : At K R u d := by
  cases d <;> cases e <;> constructor
theorem ve_dgetT {td ty : TE} (h : VE K G B td env fun x => x.fz fun x => VE K G B ty env fun y => ∃ ds ks u d, x.dttD = some ds ∧ y = .p (.key ks) ∧ valV ds ks = some u ∧ d.sc = some u ∧ Q (.p d)) : VE K G B (tDGet td ty) env Q := fun σ R H r Qh k =>
  h σ R H r _ fun v R1 H1 x r1 s1 hv q => by
    obtain ⟨R2, x', r2, s2, hv2, ho, q2⟩ := hv.fz r1 q
    refine q2 σ R2 H1 r2 _ fun w R3 H3 y r3 s3 hw ⟨ds, ks, u, d, hx, e, hd, hu, q4⟩ => ?_
    subst e
    obtain ⟨a, rfl, h1⟩ := dttD_at r3 (hv2.go ho s3) hx
    obtain ⟨b, rfl, h2⟩ := tkey_at hw
    exact ⟨a, u, rfl, .inr ⟨ds, ks, b, h1, rfl, r3.sub.of h2 rfl, hd.symm⟩, k u R3 H3 (.p d) r3 ((s1.trans s2).trans s3) (at_sc hu) q4⟩
theorem ve_dinT {ty td : TE} (h : VE K G B ty env fun y => ∃ ks, y = .p (.key ks) ∧ VE K G B td env fun x => ∃ ds, x.dttD = some ds ∧ Q (.p (.bl (valV ds ks).isSome))) : VE K G B (tDIn ty td) env Q := fun σ R H r Qh k =>
  h σ R H r _ fun v R1 H1 x r1 s1 hv ⟨ks, e, q⟩ => by
    subst e
    refine q σ R1 H1 r1 _ fun w R3 H3 y r3 s3 hw ⟨ds, hx, q4⟩ => ?_
    obtain ⟨a, rfl, h1⟩ := dttD_at r3 hw hx
    obtain ⟨b, rfl, h2⟩ := tkey_at (At.same s3 hv)
    exact ⟨a, _, rfl, .inr ⟨ds, ks, b, h1, rfl, r3.sub.of h2 rfl, rfl⟩, k _ R3 H3 (.p (.bl _)) r3 (s1.trans s3) (.bl _) q4⟩
theorem ve_dnotinT {ty td : TE} (h : VE K G B ty env fun y => ∃ ks, y = .p (.key ks) ∧ VE K G B td env fun x => ∃ ds, x.dttD = some ds ∧ Q (.p (.bl (!(valV ds ks).isSome)))) : VE K G B (tDNotIn ty td) env Q := fun σ R H r Qh k =>
  h σ R H r _ fun v R1 H1 x r1 s1 hv ⟨ks, e, q⟩ => by
    subst e
    refine q σ R1 H1 r1 _ fun w R3 H3 y r3 s3 hw ⟨ds, hx, q4⟩ => ?_
    obtain ⟨a, rfl, h1⟩ := dttD_at r3 hw hx
    obtain ⟨b, rfl, h2⟩ := tkey_at (At.same s3 hv)
    exact ⟨a, _, rfl, .inr ⟨ds, ks, b, h1, rfl, r3.sub.of h2 rfl, rfl⟩, k _ R3 H3 (.p (.bl _)) r3 (s1.trans s3) (.bl _) q4⟩
def scD (o : Option V) : D := match o with
  | some (.int i) => .int i
  | some (.bl i) => .bl i
  | some (.str i) => .str i
  | _ => .non
/-- d.get(k), the values numbers, texts or truths -/
theorem ve_dget1T {td ty : TE} (h : VE K G B td env fun x => ∃ ds, x.dttD = some ds ∧ VE K G B ty env fun y => ∃ ks d, y = .p (.key ks) ∧ d.sc = some ((valV ds ks).getD .non) ∧ x.isO = false ∧ Q (.p d)) : VE K G B (tDGet1 td ty) env Q := fun σ R H r Qh k =>
  h σ R H r _ fun v R1 H1 x r1 s1 hv ⟨ds, hx, q⟩ => by
    obtain ⟨a, rfl, h1⟩ := dttD_at r1 hv hx
    refine ⟨a, rfl, .inr ⟨ds, h1⟩, q σ R1 H1 r1 _ fun w R3 H3 y r3 s3 hw ⟨ks, d, e, hd, ho, q4⟩ => ?_⟩
    subst e
    obtain ⟨a', e', h1'⟩ := dttD_at r3 (VAt.go (H' := H3) hv ho s3) hx
    cases e'
    obtain ⟨b, rfl, h2⟩ := tkey_at hw
    exact ⟨_, .inr ⟨ds, ks, b, h1', rfl, r3.sub.of h2 rfl, rfl⟩, k _ R3 H3 (.p d) r3 (s1.trans s3) (at_sc hd) q4⟩
theorem vs_dputT {i : Nat} {ty tv : TE} {ds : List (List Key × V)} (hd : env[i]? = some (.mu (.dtt ds))) (h : VE K G B tv env fun x => ∃ d u, x = .p d ∧ d.sc = some u ∧ VE K G B ty env fun y => ∃ ks, y = .p (.key ks) ∧ ds.length < 100000 ∧ nx (env.set i (.mu (.dtt (putK ds ks u))))) :
    VS K G B (sDPut (tVar i) ty tv) env nx rt bk ct := fun σ R H r Z kn _ _ _ =>
  h σ R H r _ fun v R1 H1 x r1 s1 hv ⟨d, u, e, hu, q2⟩ => by
    subst e
    have ev := sc_at hv hu
    subst ev
    obtain ⟨a, y, h1, _⟩ := r1.slots i _ hd
    refine ⟨.ref a, h1, q2 σ R1 H1 r1 _ fun w R3 H3 y' r3 s3 hw ⟨ks, e, hl, q3⟩ => ?_⟩
    subst e
    obtain ⟨b, y, g1, g2, g3, g4, g5⟩ := r3.slots i _ hd
    rw [h1] at g1
    cases g1
    obtain ⟨ys, rfl⟩ : ∃ xs, y = .dT xs := by cases y <;> first | exact ⟨_, rfl⟩ | exact g5.elim
    have g6 : ys = ds := g5
    subst g6
    obtain ⟨c, rfl, h2⟩ := tkey_at hw
    refine ⟨a, _, rfl, .inr ⟨ys, ks, c, g4, rfl, r3.sub.of h2 rfl, Nat.lt_of_lt_of_le hl (by decide), rfl⟩, ?_⟩
    exact kn _ σ R3 _ (r3.mut hd h1 (y := .dT (putK ys ks v)) (d' := .dtt (putK ys ks v)) rfl) (s1.trans s3) q3
end
section
/-! readings of dicts keyed by tuples, by names of their own -/
def tDGetT (td ty : TE) : TE := tDGet td ty
def tDInT (ty td : TE) : TE := tDIn ty td
def tDNotInT (ty td : TE) : TE := tDNotIn ty td
def sDPutT (td ty tv : TE) : TS := sDPut td ty tv
def tDGet1T (td ty : TE) : TE := tDGet1 td ty
variable {X : Cx} {o i e value : Expr} {pos pos' : Pos} {td ty tv : TE}
theorem pe_dgetT (h : PE X e (tDGet td ty)) : PE X e (tDGetT td ty) := h
theorem pc_dinT (h : PC X .In i o (tDIn ty td)) : PC X .In i o (tDInT ty td) := h
theorem pc_dnotinT (h : PC X .NotIn i o (tDNotIn ty td)) : PC X .NotIn i o (tDNotInT ty td) := h
theorem ps_dputT {st : Stmt} (h : PS X st (sDPut td ty tv)) : PS X st (sDPutT td ty tv) := h
theorem pe_dget1T (h : PE X e (tDGet1 td ty)) : PE X e (tDGet1T td ty) := h
end
section
variable {K : PySem.W.Frag} {G : Gs} {B : Bs} {env : Vn} {σ : L2.St} {R R' R1 H H' H1 : Hp} {Q : XV → Prop} {nx : Vn → Prop} {rt : XV → Prop} {bk ct : Vn → Prop} {Qe : Vn → Prop} {Qb : Bool → Prop} {Ql : List D → Prop}
theorem vq_dget {td ty : TE} (h : VE K G B td env fun x => x.fz fun x => VE K G B ty env fun y => ∃ ds ks u d, x.dttD = some ds ∧ y = .p (.key ks) ∧ valV ds ks = some u ∧ d.sc = some u ∧ Q (.p d)) : VE K G B (tDGetT td ty) env Q := ve_dgetT h
theorem vq_din {ty td : TE} (h : VE K G B ty env fun y => ∃ ks, y = .p (.key ks) ∧ VE K G B td env fun x => ∃ ds, x.dttD = some ds ∧ Q (.p (.bl (valV ds ks).isSome))) : VE K G B (tDInT ty td) env Q := ve_dinT h
theorem vq_dnotin {ty td : TE} (h : VE K G B ty env fun y => ∃ ks, y = .p (.key ks) ∧ VE K G B td env fun x => ∃ ds, x.dttD = some ds ∧ Q (.p (.bl (!(valV ds ks).isSome)))) : VE K G B (tDNotInT ty td) env Q := ve_dnotinT h
theorem vq_dget1 {td ty : TE} (h : VE K G B td env fun x => ∃ ds, x.dttD = some ds ∧ VE K G B ty env fun y => ∃ ks d, y = .p (.key ks) ∧ d.sc = some ((valV ds ks).getD .non) ∧ x.isO = false ∧ Q (.p d)) : VE K G B (tDGet1T td ty) env Q := ve_dget1T h
theorem vq_dput {i : Nat} {ty tv : TE} {ds : List (List Key × V)} (hd : env[i]? = some (.mu (.dtt ds))) (h : VE K G B tv env fun x => ∃ d u, x = .p d ∧ d.sc = some u ∧ VE K G B ty env fun y => ∃ ks, y = .p (.key ks) ∧ ds.length < 100000 ∧ nx (env.set i (.mu (.dtt (putK ds ks u))))) :
    VS K G B (sDPutT (tVar i) ty tv) env nx rt bk ct := vs_dputT hd h
theorem eqv_keys : ∀ a b : List Key, PyData.eqvAll (a.map keyPy) (b.map keyPy) = decide (a = b)
  | [], [] => by simp [PyData.eqvAll]
  | [], m :: ms => by simp [PyData.eqvAll]
  | n :: ns, [] => by simp [PyData.eqvAll]
  | .inl i :: ns, .inl j :: ms => by
    simp only [List.map_cons, keyPy, PyData.eqvAll, PyData.eqv, eqv_keys ns ms]
    by_cases h : i = j
    · subst h
      simp
    · simp [h]
  | .inr i :: ns, .inr j :: ms => by
    simp only [List.map_cons, keyPy, PyData.eqvAll, PyData.eqv, eqv_keys ns ms]
    by_cases h : i = j
    · subst h
      simp
    · simp [h]
  | .inl i :: ns, .inr j :: ms => by simp [List.map_cons, keyPy, PyData.eqvAll, PyData.eqv]
  | .inr i :: ns, .inl j :: ms => by simp [List.map_cons, keyPy, PyData.eqvAll, PyData.eqv]
theorem eqv_key (a b : List Key) : D.eqv (.key a) (.key b) = decide (a = b) := by
  unfold D.eqv
  simp only [D.py, PyData.eqv]
  exact eqv_keys a b
end
/-! ### a call of what an expression tells -/
def tCallE (tf : TE) (D : Addr → Sp → Prop) (E : XK) (t : TA) : TE := fun σ H Q => tf σ H fun v H1 => ∃ f sp, v = .ref f ∧ D f sp ∧ tCall sp [] E t σ H1 Q
section
variable {X : Cx} {j : Nat} {fe : Expr} {pos : Pos} {e : Expr} {es : List Expr} {tf : TE} {t : TA} {l : List (Str × Sp)} {E : XK}
theorem pe_callE (A : CalsX X.prog X.w X.K X.mg X.base j l) (hr : Room j X.A) (hf : PE X fe tf) (hx : Passes (L2.CX X.prog X.w) X E) (ha : PA X (e :: es) t)
    (hc : eval (.Call fe (e :: es) [] pos) X.env = (do callWith pos (← eval fe X.env) [] (backTo pos (starEach (e :: es) X.env)) (backToKw pos (keywordEach [] X.env))) := by rfl)
    (he : starEach (e :: es) X.env = (false, eval e X.env) :: starEach es X.env := by rfl) (hpl : (backTo pos (starEach es X.env)).any (·.1) = false := by rfl) : PE X (.Call fe (e :: es) [] pos) (tCallE tf (inDefs X.mg l) E t) := by
  refine ⟨fun pins s σ H Q I h => ?_⟩
  rw [hc]
  refine wpAny_bind (thn (hf.run pins s σ H _ I h) fun u s1 ⟨v, H1, I1, r1, f, sp, ev, ⟨q, hq, hm, esp⟩, ht⟩ => ?_)
  subst ev
  subst esp
  cases r1
  obtain ⟨k, hk, c⟩ := A q hq
  obtain ⟨f', fd, ps, F, hm', kp, b⟩ := c.ex
  have ef : f' = f := by
    rw [hm] at hm'
    cases hm'
    rfl
  subst ef
  refine PySem.W.callWith_K (h₀ := X.base) I1.ok.mod.kin kp (thn (ha.run pos pins s1 σ _ _ I1 ht) fun us s2 ⟨vs, H2, I2, r, q⟩ => ⟨I2.kIn, ?_⟩) he hpl
  exact run_fn F (hr.mono hk) b .nil hx I2 r q
end
section
variable {K : PySem.W.Frag} {G : Gs} {B : Bs} {env : Vn} {Q : XV → Prop} {mg : Str → Option Value} {E : XK}
theorem ve_callE {tf : TE} {l : List (Str × Sp)} {t : TA} (h : VE K G B tf env fun x => ∃ f nm sp, x = .p (.ptr f) ∧ (nm, sp) ∈ l ∧ mg nm = some (.ref f) ∧ VE K G B (tCall sp [] E t) env Q) : VE K G B (tCallE tf (inDefs mg l) E t) env Q := fun σ R H r Qh k =>
  h σ R H r _ fun v R1 H1 x r1 s1 hv ⟨f, nm, sp, e, hl, hm, q⟩ => by
    subst e
    exact ⟨f, sp, ptr_at hv, ⟨_, hl, hm, rfl⟩, q σ R1 H1 r1 Qh fun v' R' H' x r' s' hv' q' => k v' R' H' x r' (s1.trans s') hv' q'⟩
theorem CalX.at' {P : Program} {w : World} {base : Heap} {k : Nat} {x : Str} {sp : Sp} (c : CalX P w K mg base k x sp) {R : Addr → Prop} (h : ∀ f, mg x = some (.ref f) → R f) : ∃ f, mg x = some (.ref f) ∧ R f := by
  obtain ⟨f, _, _, _, hm, _⟩ := c.ex
  exact ⟨f, hm, h f hm⟩
end
end VL

/-! Long lists, large dicts keyed by tuples, sorted(dict of numbers). -/
namespace VL
open PySem PySem.Spec PyProof.Rows L2
section
variable {K : PySem.W.Frag} {G : Gs} {B : Bs} {env : Vn} {σ : L2.St} {R R' R1 H H' H1 : Hp} {Q : XV → Prop} {nx : Vn → Prop} {rt : XV → Prop} {bk ct : Vn → Prop} {Qe : Vn → Prop} {Qb : Bool → Prop} {Ql : List D → Prop}
theorem vs_appendB {i : Nat} {te : TE} {ds : List D} (hd : env[i]? = some (.mu (.lst ds))) (h : VE K G B te env fun x => x.fz fun x => ∃ d, x = .p d ∧ ds.length < 10000000 ∧ nx (env.set i (.mu (.lst (ds ++ [d]))))) :
    VS K G B (tDrop (tBM K "list" rAppend (tVar i) (tCons te tNil))) env nx rt bk ct := fun σ R H r Z kn _ _ _ => by
  obtain ⟨a, y, h1, h2, h3, h4, h5⟩ := r.slots i _ hd
  obtain ⟨xs, rfl⟩ : ∃ xs, y = .lst xs := by cases y <;> first | exact ⟨_, rfl⟩ | exact h5.elim
  refine ⟨.ref a, h1, .inl ⟨rfl, xs, .inl (.inl h4)⟩, h σ R H r _ fun v R1 H1 x r1 s1 hv q => ?_⟩
  obtain ⟨R2, x', r2, s2, hv2, ho, d, rfl, hl, q2⟩ := hv.fz r1 q
  obtain ⟨b, y, g1, g2, g3, g4, g5⟩ := r2.slots i _ hd
  rw [h1] at g1
  cases g1
  obtain ⟨ys, rfl⟩ : ∃ xs, y = .lst xs := by cases y <;> first | exact ⟨_, rfl⟩ | exact g5.elim
  refine ⟨a, ys, v, rfl, rfl, g4, by rw [AtL.len g5]; exact Nat.lt_of_lt_of_le hl (by decide), ?_⟩
  exact kn _ σ R2 _ (r2.mut hd h1 (y := .lst (ys ++ [v])) (d' := .lst (ds ++ [d])) (AtL.app g5 (.cons hv2 .nil))) (s1.trans s2) q2
theorem vq_dputB {i : Nat} {ty tv : TE} {ds : List (List Key × V)} (hd : env[i]? = some (.mu (.dtt ds))) (h : VE K G B tv env fun x => ∃ d u, x = .p d ∧ d.sc = some u ∧ VE K G B ty env fun y => ∃ ks, y = .p (.key ks) ∧ ds.length < 10000000 ∧ nx (env.set i (.mu (.dtt (putK ds ks u))))) :
    VS K G B (sDPutT (tVar i) ty tv) env nx rt bk ct := fun σ R H r Z kn _ _ _ =>
  h σ R H r _ fun v R1 H1 x r1 s1 hv ⟨d, u, e, hu, q2⟩ => by
    subst e
    have ev := sc_at hv hu
    subst ev
    obtain ⟨a, y, h1, _⟩ := r1.slots i _ hd
    refine ⟨.ref a, h1, q2 σ R1 H1 r1 _ fun w R3 H3 y' r3 s3 hw ⟨ks, e, hl, q3⟩ => ?_⟩
    subst e
    obtain ⟨b, y, g1, g2, g3, g4, g5⟩ := r3.slots i _ hd
    rw [h1] at g1
    cases g1
    obtain ⟨ys, rfl⟩ : ∃ xs, y = .dT xs := by cases y <;> first | exact ⟨_, rfl⟩ | exact g5.elim
    have g6 : ys = ds := g5
    subst g6
    obtain ⟨c, rfl, h2⟩ := tkey_at hw
    refine ⟨a, _, rfl, .inr ⟨ys, ks, c, g4, rfl, r3.sub.of h2 rfl, Nat.lt_of_lt_of_le hl (by decide), rfl⟩, ?_⟩
    exact kn _ σ R3 _ (r3.mut hd h1 (y := .dT (putK ys ks v)) (d' := .dtt (putK ys ks v)) rfl) (s1.trans s3) q3
theorem vo_ixKs {ks : List Key} {i : Int} {k : Str} (hi : atI ks i = some (.inr k)) (q : Q (.p (.str k))) : VO K G B (rIxT K) env (.p (.key ks)) (.p (.int i)) Q := vo_ixK (k := .inr k) hi q
theorem vo_ixKi {ks : List Key} {i j : Int} (hi : atI ks i = some (.inl j)) (q : Q (.p (.int j))) : VO K G B (rIxT K) env (.p (.key ks)) (.p (.int i)) Q := vo_ixK (k := .inl j) hi q
theorem vo_neDLu {x y : XV} {t u : List (Str × List Int)} (nd : (u.map (·.1)).Nodup) (hl : t.length = u.length) (hs : ∀ p ∈ t, p ∈ u) (hx : x.exD = some (t.map fun p => ((.inr p.1 : Key), D.lst (p.2.map D.int)))) (hy : y.exD = some (u.map fun p => ((.inr p.1 : Key), D.lst (p.2.map D.int)))) (q : Q (.p (.bl false))) : VO K G B (rNeDL K) env x y Q := fun σ R H r v w hv hw Qh k => by
  obtain ⟨a, xs, rfl, h1, h2⟩ := exD_at r hv hx
  obtain ⟨b, ys, rfl, g1, g2⟩ := exD_at r hw hy
  refine ⟨a, b, xs, ys, rfl, rfl, h1, g1, by rw [h2.len, g2.len, List.length_map, List.length_map, hl], fun p hp => ?_, k _ R H (.p (.bl _)) r (Same.refl R) (.bl _) q⟩
  obtain ⟨d, m1, m2⟩ := atD_mem h2 p hp
  obtain ⟨z, hz, ez⟩ := List.mem_map.mp m1
  have m1' : (p.1, d) ∈ u.map fun p => ((.inr p.1 : Key), D.lst (p.2.map D.int)) := List.mem_map.mpr ⟨z, hs z hz, ez⟩
  obtain ⟨w, m3, m4⟩ := atD_hit g2 (by rw [List.map_map]; exact (List.pairwise_map.mpr ((List.pairwise_map.mp nd).imp fun h z => h (Sum.inr.inj z)))) m1'
  obtain ⟨_, ez2⟩ := Prod.mk.inj ez
  subst ez2
  have hint : ∀ v, At K R v (.lst (z.2.map D.int)) → ∃ c, v = .ref c ∧ SqL K H c (z.2.map V.int) := fun v hv => by
    cases hv with
    | lst e1 e2 =>
      rw [AtL.ints_inv e2] at e1
      exact ⟨_, rfl, r.sub.l (.inl (.inl e1))⟩
  obtain ⟨c, hc1, hc2⟩ := hint _ m2
  obtain ⟨d, hd1, hd2⟩ := hint _ m4
  exact ⟨c, d, z.2, hc1, hc2, by rw [m3, hd1], hd2⟩
theorem vc_sortedDI {x : XV} {ds : List (Key × D)} {ks : List Int} (hx : x.dctD = some ds) (hk : ds.map (·.1) = ks.map Sum.inl) (hl : ks.length < 64) (q : Q (.o (.lst ((srtI ks).map D.int)))) :
    VC K G B (fun xs H Q => ∃ (a : Addr) (kvs : List (Key × V)) (ks : List Int), xs = [.ref a] ∧ Rd H a (.dK kvs) ∧ kvs.map (·.1) = ks.map Sum.inl ∧ ks.length < 64 ∧ ∀ (ys : List Int) (p : Addr), ys.Perm ks → ys.Pairwise (· ≤ ·) → H p = none → Q (.ref p) (upd H p (.lst (ys.map V.int)))) env [x] Q := vc1 fun σ R H r v hv Qh k => by
  obtain ⟨a, xs, rfl, h1, h2⟩ := dctD_at r hv hx
  refine ⟨a, xs, ks, rfl, h1, by rw [h2.keyl]; exact hk, hl, fun ys p hp hs hn => ?_⟩
  rw [srtI_uniq hp hs]
  obtain ⟨r', o⟩ := own_lst r hn (atl_ints (srtI ks))
  exact k (.ref p) R _ (.o (.lst _)) r' (Same.refl R) o q
/-! an expression that only reads own things: they are lent -/
def Slot.lent : Slot → Slot
  | .mu d => .p d
  | .hp _ => .u
  | s => s
theorem lend_step (r1 : Rep K G B env σ R1 H1) : ∀ R' H', Step K G (lend R1 H1 env σ) H1 R' H' → Step K G R1 H1 (cutMu R' env σ) H' := fun R' H' s => {
    same := fun b x e => by
      have nb : ¬ MuAt env σ b := fun z => by
        rw [(r1.mu z).1] at e
        cases e
      rw [cut_no nb]
      exact s.same b x ((lend_no nb).trans e)
    sub := fun b x e => by
      by_cases z : MuAt env σ b
      · rw [cut_mu z] at e
        cases e
      · rw [cut_no z] at e
        exact s.sub b x e
    kept := fun b y e n => s.kept b y e fun m z => by
      by_cases w : MuAt env σ b
      · rw [lend_mu w, e] at z
        cases z
        obtain ⟨_, y', h1, h2⟩ := r1.mu w
        rw [e] at h1
        cases h1
        exact ld_mk h2
      · rw [lend_no w] at z
        exact n m z
    out := fun b y e hd n => by
      by_cases w : MuAt env σ b
      · exact cut_mu w
      · rw [cut_no w]
        exact s.out b y e hd ((lend_no w).trans n) }
theorem lend_sub (r1 : Rep K G B env σ R1 H1) : Sub K G (lend R1 H1 env σ) H1 := fun b x e => by
  by_cases w : MuAt env σ b
  · rw [lend_mu w] at e
    obtain ⟨_, y, h1, h2⟩ := r1.mu w
    rw [e] at h1
    cases h1
    exact subAt_of e (ld_mk h2)
  · rw [lend_no w] at e
    exact r1.sub b x e
theorem lend_same (r1 : Rep K G B env σ R1 H1) : Same R1 (lend R1 H1 env σ) := fun b z e => by
  rw [lend_no]
  · exact e
  · intro w
    rw [(r1.mu w).1] at e
    cases e
theorem lend_rep (r1 : Rep K G B env σ R1 H1) : Rep K G ⟨lend R1 H1 env σ, H1, []⟩ (env.map Slot.lent) σ (lend R1 H1 env σ) H1 where
  sub0 := lend_sub r1
  tab := TabIn.go r1.tab' (lend_same r1)
  step := Step.refl (lend_sub r1)
  len := by rw [List.length_map]; exact r1.len
  slots := fun i sl h => by
    rw [List.getElem?_map] at h
    obtain ⟨s0, h0, rfl⟩ := Option.map_eq_some_iff.mp h
    have := r1.slots i s0 h0
    cases s0 with
    | u => trivial
    | p d =>
      obtain ⟨v, g1, g2⟩ := this
      exact ⟨v, g1, g2.same (lend_same r1)⟩
    | mu d =>
      obtain ⟨a, y, g1, g2, g3, g4, g5⟩ := this
      exact ⟨.ref a, g1, At.of_matS g5 ((lend_mu ⟨i, _, h0, g1⟩).trans g4) (lend_same r1)⟩
    | hp gs => trivial
  dist := fun i j si sj a _ hi _ o _ => by
    rw [List.getElem?_map] at hi
    obtain ⟨s0, _, rfl⟩ := Option.map_eq_some_iff.mp hi
    cases s0 <;> exact o
  pr := fun q hq => by cases hq
theorem ve_lend {t : TE} {env1 : Vn} (he : env.map Slot.lent = env1) (h : ∀ B, VE K G B t env1 fun x => x.fz fun x => ∃ d, x = .p d ∧ D.deepT 9 d = true ∧ Q (.p d)) : VE K G B t env Q := fun σ R H r Qh k => by
  subst he
  refine h _ σ _ H (lend_rep r) _ fun v R' H' x r' s' hv q => ?_
  obtain ⟨R2, x', r2, s2, hv2, _, d, rfl, hd, q⟩ := hv.fz r' q
  have st := lend_step r R2 H' r2.step
  refine k v (cutMu R2 env σ) H' (.p d) (r.go st) st.same (at_cut (fun b w => ?_) 9 hd hv2) q
  obtain ⟨_, y, h1, h2⟩ := r.mu w
  exact ⟨y, r2.step.same b y ((lend_mu w).trans h1), h2⟩
end
end VL

/-! Lists of own lists: new ones behind pointers, a comprehension over what a call tells so, == and pop through pointers. -/
namespace VL
open PySem PySem.Spec PyProof.Rows L2
section
variable {K : PySem.W.Frag} {G : Gs} {B : Bs} {env : Vn} {σ : L2.St} {R R' R1 H H' H1 : Hp} {Q : XV → Prop} {nx : Vn → Prop} {rt : XV → Prop} {bk ct : Vn → Prop} {Qe : Vn → Prop} {Qb : Bool → Prop} {Ql : List D → Prop}
theorem lc_body {g : TG} {tt : TT} {te : TE} {vs : List Nat} (hu : ∀ v ∈ vs, env[v]? = some .u) (ho : TgOnly g vs) {J : It} {items : List D} (r1 : Rep K G B env σ R1 H1) (wk : Wk K G B R1 J items) (hsz : items.length < 100000) {Iv : Nat → List D → Prop} (h0 : Iv 0 [])
    (hs : ∀ p (i : Nat) d acc, items[i]? = some d → Iv i acc → VG K G { B with pr := p :: B.pr } g (.p d) env fun e => Agree vs env e ∧ VT K G { B with pr := p :: B.pr } tt e fun b =>
        (b = true → VE K G { B with pr := p :: B.pr } te e fun x => x.fz fun x => ∃ y, x = .p y ∧ Iv (i + 1) (acc ++ [y])) ∧ (b = false → Iv (i + 1) acc)) (he : ∀ acc, Iv items.length acc → Q (.o (.lst acc)))
    {Qh : VK} (k : ∀ v R' H' x, Rep K G B env σ R' H' → Same R1 R' → VAt K B env σ R' H' v x → Q x → Qh v H') : ∀ wi : TI, wi σ H1 = (fun Qi => Qi J H1) → tLc wi g tt te vs σ H1 Qh := fun wi ew => by
    unfold tLc
    rw [ew]
    show ∀ D, _
    intro D hD
    refine ⟨fun i m H' => i + m = items.length ∧ ∃ R' xs ds, Rep K G { B with pr := (D, .lst xs) :: B.pr } env σ R' H' ∧ Same R1 R' ∧ AtL K R' xs ds ∧ ds.length ≤ i ∧ Iv i ds,
      ⟨items.length, Nat.zero_add _, R1, [], [], (r1.new hD).guard (r1.fresh hD) (r1.sub.none hD) upd_same rfl (r1.noslot hD), Same.refl _, .nil, Nat.le_refl _, h0⟩, ?_⟩
    rintro i m H' ⟨hi, R', xs, ds, r', s', ha, hl, q⟩
    obtain ⟨d1, d2, d3, _, d4⟩ := r'.guarded
    have ru := r'.unguard
    by_cases hm : m = 0
    · subst hm
      have ei : i = items.length := hi
      subst ei
      refine .inl ⟨wk.stop _ env σ R' H' r' s', k (.ref D) R' H' (.o (.lst ds)) ru s' ⟨D, _, rfl, d1, d2, d3, ha, d4, ?_⟩ (he ds q)⟩
      -- no elder protected object is D
      intro p hp e
      have h3 := (r1.pr p hp).2.2.1
      rw [e, hD] at h3
      cases h3
    · have hlt : i < items.length := by omega
      have rw' := r'.wiped hu
      obtain ⟨g1, g2⟩ := wk.go _ env _ R' H' rw' s' i items[i] (List.getElem?_eq_getElem hlt)
      refine .inr ⟨g1, fun H2 => ∃ R' xs ds, Rep K G { B with pr := (D, .lst xs) :: B.pr } env σ R' H2 ∧ Same R1 R' ∧ AtL K R' xs ds ∧ ds.length ≤ i + 1 ∧ Iv (i + 1) ds, fun H2 ⟨R2, ys, es, a, b, c, d, e⟩ => ⟨m - 1, by omega, by omega, R2, ys, es, a, b, c, d, e⟩, fun v H2 hy => ?_⟩
      obtain ⟨R2, r2, s2, hv⟩ := g2 v H2 hy
      have st2 : Same R1 R2 := s'.trans s2
      refine ho v (wipe σ vs) H2 _ _ ?_ (hs _ i items[i] ds (List.getElem?_eq_getElem hlt) q _ R2 H2 r2 v hv (fun σ3 H3 => ∃ e R3, Rep K G { B with pr := (D, .lst xs) :: B.pr } e σ3 R3 H3 ∧ Same R2 R3 ∧ Agree vs env e ∧ VT K G { B with pr := (D, .lst xs) :: B.pr } tt e _) fun e σ3 R3 H3 r3 s3 q3 => ⟨e, R3, r3, s3, q3.1, q3.2⟩)
      rintro σ3 H3 hw ⟨e, R3, r3, s3, hag, q3⟩
      have hw3 : wipe σ3 vs = wipe σ vs := hw.trans (wipe_wipe σ vs)
      refine ⟨hw3, q3 σ3 R3 H3 r3 _ fun b R4 H4 r4 s4 q4 => ?_⟩
      cases b with
      | false =>
        have st4 : Same R1 R4 := (st2.trans s3).trans s4
        exact iteF ⟨R4, xs, ds, r'.unwiped r4 hu hag hw3, st4, ha.same ((s2.trans s3).trans s4), Nat.le_succ_of_le hl, q4.2 rfl⟩
      | true =>
        refine iteT (q4.1 rfl σ3 R4 H4 r4 _ fun w R5 H5 x r5 s5 hw5 q5 => ?_)
        obtain ⟨R6, x', r6, s6, hv6, hof, y, rfl, q6⟩ := hw5.fz r5 q5
        obtain ⟨f1, f2, f3, _, f4⟩ := r6.guarded
        have st6 : Same R1 R6 := ((((st2.trans s3).trans s4).trans s5).trans s6)
        have st6' : Same R' R6 := ((((s2.trans s3).trans s4).trans s5).trans s6)
        refine ⟨xs, f3, by rw [ha.len]; exact Nat.lt_of_le_of_lt hl (Nat.lt_trans hlt (Nat.lt_of_lt_of_le hsz (by decide))), R6, xs ++ [w], ds ++ [y], ?_, st6, (ha.same st6').app (.cons hv6 .nil), ?_, q6⟩
        · have r7 := (r'.unwiped r6 hu hag hw3)
          have r8 := r7.unguard
          have np : ∀ q ∈ B.pr, q.1 ≠ D := fun p hp e => by
            have h3 := (r1.pr p hp).2.2.1
            rw [e, hD] at h3
            cases h3
          exact (r8.mutA (y := .lst (xs ++ [w])) f3 rfl f1 f2 d4 np).guard f1 f2 upd_same rfl d4
        · rw [List.length_append]
          exact Nat.succ_le_succ hl
theorem wk_list {a : Addr} {xs : List V} {ds : List D} (hl : SqL K R a xs) (ha : AtL K R xs ds) : Wk K G B R (Itl K a) ds := ⟨fun B' e' σ' R' H' r' s' i d hi => by
      obtain ⟨v, hv, hd⟩ := ha.get hi
      have hL := r'.sub.l (same_l s' hl)
      refine ⟨⟨xs, v, hL, hv⟩, ?_⟩
      rintro w H3 ⟨rfl, hw⟩
      have := hw xs hL
      rw [hv] at this
      cases this
      exact ⟨R', r', Same.refl _, hd.same s'⟩, fun B' e' σ' R' H' r' s' => ⟨xs, r'.sub.l (same_l s' hl), by rw [ha.len]; exact Nat.le_refl _⟩⟩
/-- x = [.. for y in f(..)], what f tells holds new lists -/
theorem vs_asgLcG {j : Nat} {gi g : TG} {tt : TT} {te : TE} {vs : List Nat} {α : Type} {args : α → List D} {pre : α → Prop} {post : α → List (Addr × D) → D → Prop} {E : XK} {t : TA} (hj : env[j]? = some .u) (hu : ∀ v ∈ vs, env[v]? = some .u) (hjv : j ∉ vs) (ho : TgOnly g vs)
    (h : VA K G B t env fun xs => ∃ x, xs = (args x).map XV.p ∧ pre x ∧ ∀ d gs, post x gs d → ∃ ds, d = .lst ds ∧ ds.length < 100000 ∧ ∃ Iv : Nat → List D → Prop, Iv 0 [] ∧
      (∀ p (i : Nat) d acc, ds[i]? = some d → Iv i acc → VG K G { B with pr := p :: B.pr } g (.p d) (env.set j (.hp gs)) fun e => Agree vs (env.set j (.hp gs)) e ∧ VT K G { B with pr := p :: B.pr } tt e fun b =>
        (b = true → VE K G { B with pr := p :: B.pr } te e fun x => x.fz fun x => ∃ y, x = .p y ∧ Iv (i + 1) (acc ++ [y])) ∧ (b = false → Iv (i + 1) acc)) ∧ ∀ acc, Iv ds.length acc → VG K G B gi (.o (.lst acc)) (env.set j (.hp gs)) nx) :
    VS K G B (tAsg (tLc (iList K (tCall (SpG K G args pre post) [] E t)) g tt te vs) gi) env nx rt bk ct := fun σ R H rp Z kn _ _ _ =>
  h σ R H rp _ fun vs' R1 H1 xs r1 s1 hv _ ⟨x, e, hp, q⟩ => by
    subst e
    rw [List.append_nil]
    refine ⟨R1, x, ⟨r1.sub, r1.tab'⟩, atL_of hv, hp, fun v R' H' d gs s ha hg hpost => ?_⟩
    have rg := r1.go s
    have r2 := rg.toHp hj (gs := gs) (fun p hp => ⟨r1.fresh (hg p hp).1, (hg p hp).2⟩) (fun p hp => ⟨r1.noslot (hg p hp).1, r1.nopr (hg p hp).1⟩)
    obtain ⟨ds, rfl, hsz, Iv, h0, hs, he⟩ := q d gs hpost
    obtain ⟨a, ys, rfl, hl, hal⟩ : ∃ a xs, v = .ref a ∧ SqL K R' a xs ∧ AtL K R' xs ds := by
      cases ha with
      | @lst a xs _ h1 h2 => exact ⟨a, xs, rfl, .inl (.inl h1), h2⟩
    refine ⟨a, rfl, ⟨ys, r2.sub.l hl⟩, ?_⟩
    have hu2 : ∀ v ∈ vs, (env.set j (.hp gs))[v]? = some .u := fun v hv => by
      have hne : j ≠ v := fun z => hjv (by rw [z]; exact hv)
      rw [List.getElem?_set_ne hne]
      exact hu v hv
    exact lc_body (Q := fun x => VG K G B gi x (env.set j (.hp gs)) nx) hu2 ho r2 (wk_list hl hal) hsz h0 hs he (Qh := fun x H1 => gi x σ H1 Z.nx) (fun w R2 H2 x r3 s3 hx qx => qx σ R2 H2 r3 w hx _ fun e2 σ2 R3 H3 r4 s4 q4 => kn e2 σ2 R3 H3 r4 (((s1.trans s.same).trans s3).trans s4) q4) (fun _ _ Qi => Qi (Itl K a) H') rfl
/-! new lists go behind pointers -/
theorem Rep.adopt (r : Rep K G B env σ R H) {j : Nat} {gs : List (Addr × D)} (hj : env[j]? = some (.hp gs)) {v : V} {d : D} (hv : VAt K B env σ R H v (.o d)) : ∃ a, v = .ref a ∧ a ∉ gs.map (·.1) ∧ Rep K G B (env.set j (.hp ((a, d) :: gs))) σ R H := by
  obtain ⟨a, y, rfl, h0, hn, hy, hm, hs, hp⟩ := hv
  have hjl := (List.getElem?_eq_some_iff.mp hj).1
  have hj1 : (env.set j .u)[j]? = some .u := List.getElem?_set_self hjl
  refine ⟨a, rfl, fun z => hs j _ hj z, ?_⟩
  have less : ∀ b, NoOwn env σ b → NoOwn (env.set j .u) σ b := fun b hb k sk hk o => by
    by_cases ej : j = k
    · subst ej
      rw [hj1] at hk
      cases hk
      exact o
    · rw [List.getElem?_set_ne ej] at hk
      exact hb k sk hk o
  have r2 := (r.forget j).toHp hj1 (gs := (a, d) :: gs) (fun q hq => by
    rcases List.mem_cons.mp hq with rfl | hq
    · exact ⟨h0, hn, y, hy, hm⟩
    · exact r.slots j _ hj q hq) (fun q hq => by
    rcases List.mem_cons.mp hq with rfl | hq
    · exact ⟨less _ hs, hp⟩
    · have ow : Slot.owns σ[j]? q.1 (.hp gs) := List.mem_map_of_mem (f := (·.1)) hq
      exact ⟨r.noown hj ow, r.nopr' hj ow⟩)
  rw [List.set_set] at r2
  exact r2
theorem vs_appendO {i j : Nat} {te : TE} {ds : List D} {gs : List (Addr × D)} (hd : env[i]? = some (.mu (.lst ds))) (hj : env[j]? = some (.hp gs)) (h : VE K G B te env fun x => ∃ d, x = .o d ∧ ds.length < 100000 ∧ ∀ a, a ∉ gs.map (·.1) → nx ((env.set j (.hp ((a, d) :: gs))).set i (.mu (.lst (ds ++ [.ptr a]))))) :
    VS K G B (tDrop (tBM K "list" rAppend (tVar i) (tCons te tNil))) env nx rt bk ct := fun σ R H r Z kn _ _ _ => by
  obtain ⟨a, y, h1, h2, h3, h4, h5⟩ := r.slots i _ hd
  obtain ⟨xs, rfl⟩ : ∃ xs, y = .lst xs := by cases y <;> first | exact ⟨_, rfl⟩ | exact h5.elim
  have hij : j ≠ i := fun z => by
    rw [z, hd] at hj
    cases hj
  refine ⟨.ref a, h1, .inl ⟨rfl, xs, .inl (.inl h4)⟩, h σ R H r _ fun v R1 H1 x r1 s1 hv ⟨d, e, hl, q⟩ => ?_⟩
  subst e
  obtain ⟨b, rfl, hb, r2⟩ := r1.adopt hj hv
  have hd2 : (env.set j (.hp ((b, d) :: gs)))[i]? = some (.mu (.lst ds)) := by rw [List.getElem?_set_ne hij]; exact hd
  obtain ⟨c, y, g1, g2, g3, g4, g5⟩ := r2.slots i _ hd2
  rw [h1] at g1
  cases g1
  obtain ⟨ys, rfl⟩ : ∃ xs, y = .lst xs := by cases y <;> first | exact ⟨_, rfl⟩ | exact g5.elim
  refine ⟨a, ys, .ref b, rfl, rfl, g4, by rw [AtL.len g5]; exact Nat.lt_of_lt_of_le hl (by decide), ?_⟩
  exact kn _ σ R1 _ (r2.mut hd2 h1 (y := .lst (ys ++ [.ref b])) (d' := .lst (ds ++ [.ptr b])) (AtL.app g5 (.cons (.ptr b) .nil))) s1 (q b hb)
theorem vg_subO {i j : Nat} {z : Int} {ds : List D} {d : D} {gs : List (Addr × D)} {k : Nat} (hd : env[i]? = some (.mu (.lst ds))) (hj : env[j]? = some (.hp gs)) (hk : ixN ds.length z = some k) (h : ∀ a, a ∉ gs.map (·.1) → Qe ((env.set j (.hp ((a, d) :: gs))).set i (.mu (.lst (ds.set k (.ptr a)))))) :
    VG K G B (gSub (tVar i) (tC (.int z)) rSetL) (.o d) env Qe := fun σ R H r v hv Qh kk => by
  have hij : j ≠ i := fun z => by
    rw [z, hd] at hj
    cases hj
  obtain ⟨b, rfl, hb, r2⟩ := r.adopt hj hv
  have hd2 : (env.set j (.hp ((b, d) :: gs)))[i]? = some (.mu (.lst ds)) := by rw [List.getElem?_set_ne hij]; exact hd
  obtain ⟨a, y, h1, h2, h3, h4, h5⟩ := r2.slots i _ hd2
  obtain ⟨xs, rfl⟩ : ∃ xs, y = .lst xs := by cases y <;> first | exact ⟨_, rfl⟩ | exact h5.elim
  have h6 : AtL K R xs ds := h5
  refine ⟨.ref a, h1, a, xs, z, k, rfl, rfl, h4, by rw [h6.len]; exact hk, ?_⟩
  exact kk _ σ R _ (r2.mut hd2 h1 (y := .lst (xs.set k (.ref b))) (d' := .lst (ds.set k (.ptr b))) (h6.set (.ptr b) k)) (Same.refl R) (h b hb)
/-- x = [[], []] -/
theorem vs_asgLL {i j : Nat} {gs : List (Addr × D)} (hi : i < env.length) (hij : i ≠ j) (hj : env[j]? = some (.hp gs)) (h : ∀ a b, a ≠ b → a ∉ gs.map (·.1) → b ∉ gs.map (·.1) → nx ((env.set j (.hp ((b, .lst []) :: (a, .lst []) :: gs))).set i (.mu (.lst [.ptr a, .ptr b])))) :
    VS K G B (tAsg (tLst (tCons (tLst tNil) (tCons (tLst tNil) tNil))) (gName i)) env nx rt bk ct := fun σ R H r Z kn _ _ _ => by
  refine ⟨Nat.zero_le _, fun p hp => ⟨Nat.zero_le _, fun q hq => ⟨by show 2 ≤ sizeLine; decide, fun l hl => ?_⟩⟩⟩
  obtain ⟨rp, vp⟩ := own_lst (ds := []) r hp .nil
  obtain ⟨a, ea, ha, r2⟩ := rp.adopt hj vp
  cases ea
  have hj2 : (env.set j (.hp ((p, .lst []) :: gs)))[j]? = some (.hp ((p, .lst []) :: gs)) := List.getElem?_set_self (List.getElem?_eq_some_iff.mp hj).1
  obtain ⟨rq, vq⟩ := own_lst (ds := []) r2 hq .nil
  obtain ⟨b, eb, hb, r3⟩ := rq.adopt hj2 vq
  cases eb
  rw [List.set_set] at r3
  rw [List.map_cons, List.mem_cons, not_or] at hb
  obtain ⟨rl, vl⟩ := own_lst (ds := [.ptr p, .ptr q]) r3 hl (.cons (.ptr p) (.cons (.ptr q) .nil))
  have hlen : i < (env.set j (.hp ((q, .lst []) :: (p, .lst []) :: gs))).length := by rw [List.length_set]; exact hi
  exact vg_o (i := i) hlen (h p q (fun z => hb.1 z.symm) ha hb.2) σ R _ rl (.ref l) vl _ fun e2 σ2 R2 H2 r4 s4 q4 => kn e2 σ2 R2 H2 r4 s4 q4
theorem vsr_frz (i : Nat) {t : TS} {d : D} {post : List (Addr × D) → D → Prop} (hd : env[i]? = some (.mu d)) (h : VSR K G B t (env.set i (.p d)) post) : VSR K G B t env post := fun σ R H r Q q => by
  obtain ⟨R2, r2, _⟩ := r.freeze hd
  exact h σ R2 H r2 Q q
/-! == through pointers -/
theorem vo_neO {x y : XV} {j : Nat} {gs : List (Addr × D)} {e d d' : D} (hj : env[j]? = some (.hp gs)) (hx : x = .p e) (ho : OwnR gs d e) (hy : y.dat = some d') (c1 : D.cmpN 60 d = true) (c2 : D.cmpN 60 d' = true) (q : Q (.p (.bl (!D.eqv d d')))) : VO K G B (rNeD K) env x y Q := fun σ R H r v w hv hw Qh k => by
  subst hx
  obtain ⟨r2, sm, hg⟩ := r.ofHp hj
  obtain ⟨a1, b1⟩ := cmpN_shaped c1
  obtain ⟨a2, b2⟩ := cmpN_shaped c2
  exact ⟨d.py, d'.py, at_dp r2.sub (own_back sm hg ho hv) a1, dat_dp r hw hy a2, b1, b2, k _ R H (.p (.bl _)) r (Same.refl R) (.bl _) q⟩
/-- xs.append(ys.pop(k)), ys behind a pointer -/
theorem vs_appPopP {i : Nat} {tc ti : TE} {es : List D} (hd : env[i]? = some (.mu (.lst es))) (h : VE K G B tc env fun x => ∃ a, x = .p (.ptr a) ∧ ∃ (j : Nat) (gs : List (Addr × D)) (ds : List D), env[j]? = some (.hp gs) ∧ (a, .lst ds) ∈ gs ∧ VE K G B ti env fun y => ∃ (z : Nat) (d : D), y = .p (.int z) ∧ ds[z]? = some d ∧ ds.length < 100000 ∧ es.length < 100000 ∧
      nx ((env.set j (.hp (setP gs a (.lst (ds.eraseIdx z))))).set i (.mu (.lst (es ++ [d]))))) :
    VS K G B (tDrop (tBM K "list" rAppend (tVar i) (tCons (tBM K "list" rPopAt tc (tCons ti tNil)) tNil))) env nx rt bk ct := fun σ R H r Z kn _ _ _ => by
  obtain ⟨b, y, h1, h2, h3, h4, h5⟩ := r.slots i _ hd
  obtain ⟨xs, rfl⟩ : ∃ xs, y = .lst xs := by cases y <;> first | exact ⟨_, rfl⟩ | exact h5.elim
  refine ⟨.ref b, h1, .inl ⟨rfl, xs, .inl (.inl h4)⟩, h σ R H r _ fun v R1 H1 x r1 s1 hv ⟨a, e, j, gs, ds, hj, hm, q⟩ => ?_⟩
  subst e
  have ev := ptr_at hv
  subst ev
  obtain ⟨ys, y1, y2, y3, y4⟩ := hp_at r1 hj hm
  refine ⟨.inl ⟨rfl, ys, .inl (.inl y3)⟩, q σ R1 H1 r1 _ fun w R2 H2 x2 r2 s2 hw ⟨z, d, e2, hz, hl1, hl2, q2⟩ => ?_⟩
  subst e2
  cases hw
  obtain ⟨us, u1, u2, u3, u4⟩ := hp_at r2 hj hm
  have hlt := (List.getElem?_eq_some_iff.mp hz).1
  obtain ⟨w, hw, hd'⟩ := u4.get hz
  refine ⟨a, us, z, z, w, rfl, rfl, u3, by omega, by omega, by rw [u4.len, seqIndex_of (by omega) (by omega), Int.toNat_natCast], hw, ?_⟩
  have r3 := r2.mutP hj hm (y := .lst (us.eraseIdx z)) (d' := .lst (ds.eraseIdx z)) (u4.erase z)
  have hij : j ≠ i := fun z => by
    rw [z, hd] at hj
    cases hj
  have hd2 : (env.set j (.hp (setP gs a (.lst (ds.eraseIdx z)))))[i]? = some (.mu (.lst es)) := by rw [List.getElem?_set_ne hij]; exact hd
  obtain ⟨c, y, f1, f2, f3, f4, f5⟩ := r3.slots i _ hd2
  rw [h1] at f1
  cases f1
  obtain ⟨zs, rfl⟩ : ∃ xs, y = .lst xs := by cases y <;> first | exact ⟨_, rfl⟩ | exact f5.elim
  refine ⟨b, zs, w, rfl, rfl, f4, by rw [AtL.len f5]; exact Nat.lt_of_lt_of_le hl2 (by decide), ?_⟩
  exact kn _ σ R2 _ (r3.mut hd2 h1 (y := .lst (zs ++ [w])) (d' := .lst (es ++ [d])) (AtL.app f5 (.cons hd' .nil))) (s1.trans s2) q2
end
end VL

/-! An own list of pointers beside [] . -/
namespace VL
open PySem PySem.Spec PyProof.Rows L2
section
variable {K : PySem.W.Frag} {G : Gs} {B : Bs} {env : Vn} {σ : L2.St} {R R' R1 H H' H1 : Hp} {Q : XV → Prop} {nx : Vn → Prop} {rt : XV → Prop} {bk ct : Vn → Prop} {Qe : Vn → Prop} {Qb : Bool → Prop} {Ql : List D → Prop}
/-- != of an own list of pointers -/
theorem vo_neOM {y : XV} {i j : Nat} {gs : List (Addr × D)} {es ds : List D} {d' : D} (hi : env[i]? = some (.mu (.lst es))) (hj : env[j]? = some (.hp gs)) (ho : OwnL gs ds es) (hy : y = .p d') (c1 : D.cmpN 60 (.lst ds) = true) (c2 : D.cmpN 60 d' = true) (q : Q (.p (.bl (!D.eqv (.lst ds) d')))) : VO K G B (rNeD K) env (.m i (.lst es)) y Q := fun σ R H r v w hv hw Qh k => by
  subst hy
  have hij : i ≠ j := fun z => by
    rw [z, hj] at hi
    cases hi
  obtain ⟨R2, r2, s2⟩ := r.freeze hi
  have hj2 : (env.set i (.p (.lst es)))[j]? = some (.hp gs) := by rw [List.getElem?_set_ne hij]; exact hj
  obtain ⟨r3, sm, hg⟩ := r2.ofHp hj2
  obtain ⟨a1, b1⟩ := cmpN_shaped c1
  obtain ⟨a2, b2⟩ := cmpN_shaped c2
  have hv2 : At K R2 v (.lst es) := by
    obtain ⟨u, h1, h2⟩ : ∃ u, σ[i]? = some (some u) ∧ At K R2 u (.lst es) := r2.slots i (.p (.lst es)) (List.getElem?_set_self (List.getElem?_eq_some_iff.mp hi).1)
    have h3 := hw
    have h4 : σ[i]? = some (some v) := hv.2
    rw [h1] at h4
    cases h4
    exact h2
  have hv3 : At K (backOf R2 H gs) v (.lst ds) := by
    cases hv2 with
    | lst f1 f2 => exact .lst (sm _ _ f1) (own_backL sm hg ho f2)
  exact ⟨(D.lst ds).py, d'.py, at_dp r3.sub hv3 a1, dat_dp r hw rfl a2, b1, b2, k _ R H (.p (.bl _)) r (Same.refl R) (.bl _) q⟩
end
end VL

/-! ### the draws: a list of whole numbers, one at least -/
namespace N
open PySem L2 VL
def GoodSt1 (ns : List Int) : Prop := ns ≠ [] ∧ ns.length ≤ 100
end N

namespace N
open PySem L2 VL
def soFar : Int → List Int → List Int
  | _, [] => []
  | t, x :: r => (t + x) :: soFar (t + x) r
theorem soFar_app : ∀ (t : Int) (l : List Int) (x : Int), soFar t (l ++ [x]) = soFar t l ++ [t + l.sum + x]
  | t, [], x => by simp [soFar]
  | t, y :: r, x => by
    rw [List.cons_append, soFar, soFar, soFar_app (t + y) r x, List.sum_cons, List.cons_append]
    congr 3
    omega
theorem soFar_len : ∀ (t : Int) (l : List Int), (soFar t l).length = l.length
  | _, [] => rfl
  | t, x :: r => by rw [soFar, List.length_cons, List.length_cons, soFar_len]
theorem take_one {α : Type} {l : List α} {i : Nat} {x : α} (h : l[i]? = some x) : l.take (i + 1) = l.take i ++ [x] := by
  rw [List.take_add_one, h]
  rfl
theorem map_get {α β : Type} {f : α → β} {l : List α} {i : Nat} {d : β} (h : (l.map f)[i]? = some d) : ∃ x, l[i]? = some x ∧ d = f x := by
  rw [List.getElem?_map] at h
  cases e : l[i]? with
  | none =>
    rw [e] at h
    cases h
  | some x =>
    rw [e] at h
    exact ⟨x, rfl, (Option.some.inj h).symm⟩
theorem lt_of_get {α : Type} {l : List α} {i : Nat} {x : α} (h : l[i]? = some x) : i < l.length := (List.getElem?_eq_some_iff.mp h).1
end N

--@uses draw1 so_far
namespace N
open PySem L2 VL
abbrev Tm := Option Int × Int × Int
def oi : Option Int → D
  | none => .non
  | some i => .int i
def tmD (t : Tm) : D := .tup [oi t.1, .int t.2.1, .int t.2.2]
/-- the terms of a day as the laws draw them -/
structure TermOk (t : Tm) : Prop where
  s : ∀ x, t.1 = some x → 0 ≤ x ∧ x < 160
  p0 : 0 ≤ t.2.1
  p1 : t.2.1 < 40
  k0 : 0 ≤ t.2.2
  k1 : t.2.2 < 40
theorem pick2k {a b : D} {k : Int} (h0 : 0 ≤ k) (h1 : k < 2) : ∃ d, atI [a, b] k = some d ∧ (d = a ∨ d = b) := by
  have h : k = 0 ∨ k = 1 := by omega
  rcases h with h | h <;> rw [h]
  · exact ⟨a, atI_nat (j := 0) rfl, .inl rfl⟩
  · exact ⟨b, atI_nat (j := 1) rfl, .inr rfl⟩
theorem pick3k {a b c : D} {k : Int} (h0 : 0 ≤ k) (h1 : k < 3) : ∃ d, atI [a, b, c] k = some d ∧ (d = a ∨ d = b ∨ d = c) := by
  have h : k = 0 ∨ k = 1 ∨ k = 2 := by omega
  rcases h with h | h | h <;> rw [h]
  · exact ⟨a, atI_nat (j := 0) rfl, .inl rfl⟩
  · exact ⟨b, atI_nat (j := 1) rfl, .inr (.inl rfl)⟩
  · exact ⟨c, atI_nat (j := 2) rfl, .inr (.inr rfl)⟩
theorem cons_of_ne {α : Type} {l : List α} (h : l ≠ []) : ∃ x r, l = x :: r := by
  cases l with
  | nil => exact absurd rfl h
  | cons x r => exact ⟨x, r, rfl⟩
/-- what is wanted where nothing can be ordered is nought -/
def Served (ts : List Tm) (ws : List Int) : Prop := ∀ (i : Nat) (w : Int), ws[i]? = some w → w ≠ 0 → ∃ (j : Nat) (t : Tm), j ≤ i ∧ ts[j]? = some t ∧ t.1 ≠ none
structure WantOk (ws : List Int) : Prop where
  b : ∀ w ∈ ws, 0 ≤ w ∧ w < 10 ^ 41
theorem oi_isN (s : Option Int) : (oi s).isNon = s.isNone := by cases s <;> rfl
theorem hu1 {env : Vn} {v : Nat} (h : env[v]? = some .u) : ∀ w ∈ [v], env[w]? = some .u := fun w hw => by
  cases List.mem_singleton.mp hw
  exact h
theorem hu2 {env : Vn} {v u : Nat} (h : env[v]? = some .u) (h2 : env[u]? = some .u) : ∀ w ∈ [v, u], env[w]? = some .u := fun w hw => by
  rcases List.mem_cons.mp hw with rfl | hw
  · exact h
  · exact hu1 h2 w hw
theorem hu3 {env : Vn} {v u t : Nat} (h : env[v]? = some .u) (h2 : env[u]? = some .u) (h3 : env[t]? = some .u) : ∀ w ∈ [v, u, t], env[w]? = some .u := fun w hw => by
  rcases List.mem_cons.mp hw with rfl | hw
  · exact h
  · exact hu2 h2 h3 w hw
theorem sIx_end (n d : Nat) : HT.sIx n d none = d := rfl
theorem cutD_mid {α : Type} (f : α → D) (l : List α) {a b : Int} (ha : 0 ≤ a) (hb : 0 ≤ b) : cutD (l.map f) (some a) (some b) = ((l.take b.toNat).drop a.toNat).map f := by
  unfold cutD
  rw [List.length_map, sIx_nn ha, sIx_nn hb, ← List.map_drop, ← List.map_take, List.drop_take]
  congr 1
  by_cases h : a.toNat ≤ l.length
  · rw [Nat.min_eq_left h]
    by_cases h2 : b.toNat ≤ l.length
    · rw [Nat.min_eq_left h2]
    · rw [Nat.min_eq_right (by omega), List.take_of_length_le (by rw [List.length_drop]; omega), List.take_of_length_le (by rw [List.length_drop]; omega)]
  · rw [Nat.min_eq_right (a := a.toNat) (b := l.length) (by omega), List.drop_of_length_le (Nat.le_refl _), List.drop_of_length_le (by omega), List.take_nil, List.take_nil]
theorem cutD_take {α : Type} (f : α → D) (l : List α) {b : Int} (hb : 0 ≤ b) : cutD (l.map f) none (some b) = (l.take b.toNat).map f := by
  have h := cutD_mid f l (a := 0) (Int.le_refl 0) hb
  rw [show (0 : Int).toNat = 0 from rfl, List.drop_zero] at h
  exact h
theorem cutD_drop {α : Type} (f : α → D) (l : List α) {a : Int} (ha : 0 ≤ a) : cutD (l.map f) (some a) none = (l.drop a.toNat).map f := by
  have h := cutD_mid f l (a := a) (b := l.length) ha (by omega)
  rw [Int.toNat_natCast, List.take_length] at h
  rw [← h]
  unfold cutD
  rw [List.length_map, sIx_nn (k := (l.length : Int)) (by omega), sIx_end, Int.toNat_natCast, Nat.min_self]
theorem ixN_nat {n j : Nat} (h : j < n) : ixN n (j : Int) = some j := by
  unfold ixN
  rw [if_pos (by omega), if_pos (by omega)]
  simp
theorem atI_get {α : Type} (f : α → D) {l : List α} {j : Nat} {x : α} (h : l[j]? = some x) : atI (l.map f) (j : Int) = some (f x) := atI_nat (by rw [List.getElem?_map, h]; rfl)
theorem cmpN_list {n : Nat} {ds : List D} (h : ∀ d ∈ ds, D.cmpN n d = true) : D.cmpN (n + 1) (.lst ds) = true := by
  show ds.all (D.cmpN n) = true
  exact List.all_eq_true.mpr h
theorem cmpN_tm (n : Nat) (t : Tm) : D.cmpN (n + 2) (tmD t) = true := by
  obtain ⟨s, p, k⟩ := t
  cases s <;> rfl
theorem cmpN_tms (n : Nat) (ts : List Tm) : D.cmpN (n + 3) (.lst (ts.map tmD)) = true := cmpN_list fun d hd => by
  obtain ⟨t, _, rfl⟩ := List.mem_map.mp hd
  exact cmpN_tm n t
end N

--@uses terms
namespace N
open PySem L2 VL
structure Ware where
  nm : Str
  lag : Int
  gives : Int
  floor : Int
  stock : Int
  com : List (Int × Int)
  parts : List (Str × Int)
abbrev Want := Str × Int × Int
structure Shop where
  ws : List Ware
  wants : List Want
def partD (p : Str × Int) : D := .tup [.str p.1, .int p.2]
def wareD (w : Ware) : D := .tup [.str w.nm, .int w.lag, .int w.gives, .int w.floor, .int w.stock, .tup (w.com.map pairD), .tup (w.parts.map partD)]
def wantD (w : Want) : D := .tup [.str w.1, .int w.2.1, .int w.2.2]
def shopD (s : Shop) : D := .tup [.tup (s.ws.map wareD), .tup (s.wants.map wantD)]
def Shop.names (s : Shop) : List Str := s.ws.map fun w => w.nm
/-- what the defs that walk a shop ask of it -/
structure ShopOk (s : Shop) : Prop where
  nd : s.names.Nodup
  sub : ∀ w ∈ s.ws, ∀ p ∈ w.parts, p.1 ∈ s.names
  n : s.ws.length ≤ 100
  p : ∀ w ∈ s.ws, w.parts.length ≤ 100
  c : ∀ w ∈ s.ws, w.com.length ≤ 1000
  m : s.wants.length ≤ 1000
/-! dicts by texts -/
section
variable {α : Type}
def sdD (f : α → D) (t : List (Str × α)) : List (Key × D) := t.map fun p => (.inr p.1, f p.2)
def getS : List (Str × α) → Str → Option α
  | [], _ => none
  | (a, x) :: r, k => if a = k then some x else getS r k
theorem getS_mem {t : List (Str × α)} {k : Str} {x : α} (h : getS t k = some x) : (k, x) ∈ t := by
  induction t with
  | nil => cases h
  | cons p r ih =>
    obtain ⟨a, y⟩ := p
    by_cases e : a = k
    · have h' : (if a = k then some y else getS r k) = some x := h
      rw [if_pos e] at h'
      cases h'
      rw [e]
      exact List.mem_cons_self
    · have h' : (if a = k then some y else getS r k) = some x := h
      rw [if_neg e] at h'
      exact List.mem_cons_of_mem _ (ih h')
theorem getS_of {t : List (Str × α)} {k : Str} {x : α} (nd : (t.map (·.1)).Nodup) (h : (k, x) ∈ t) : getS t k = some x := by
  induction t with
  | nil => cases h
  | cons p r ih =>
    obtain ⟨a, y⟩ := p
    rw [List.map_cons, List.nodup_cons] at nd
    show (if a = k then some y else getS r k) = some x
    rcases List.mem_cons.mp h with e | e
    · cases e
      rw [if_pos rfl]
    · have hk : a ≠ k := fun z => nd.1 (by rw [z]; exact List.mem_map_of_mem (f := (·.1)) e)
      rw [if_neg hk]
      exact ih nd.2 e
theorem getS_none {t : List (Str × α)} {k : Str} : getS t k = none ↔ k ∉ t.map (·.1) := by
  induction t with
  | nil => simp [getS]
  | cons p r ih =>
    obtain ⟨a, y⟩ := p
    show (if a = k then some y else getS r k) = none ↔ _
    rw [List.map_cons, List.mem_cons]
    by_cases e : a = k
    · rw [if_pos e]
      simp [e]
    · rw [if_neg e, ih]
      have : ¬ k = a := fun z => e z.symm
      simp [this]
theorem getS_some {t : List (Str × α)} {k : Str} (h : k ∈ t.map (·.1)) : ∃ x, getS t k = some x := by
  cases e : getS t k with
  | none => exact absurd h (getS_none.mp e)
  | some x => exact ⟨x, rfl⟩
theorem valD_S (f : α → D) : ∀ (t : List (Str × α)) (k : Str), valD (sdD f t) (.inr k) = (getS t k).map f
  | [], k => rfl
  | (a, x) :: r, k => by
    have ih := valD_S f r k
    unfold valD at ih ⊢
    show ((List.find? _ ((Sum.inr a, f x) :: sdD f r)).map _) = ((if a = k then some x else getS r k).map f)
    by_cases e : a = k
    · subst e
      rw [List.find?_cons_of_pos (by simp), if_pos rfl]
      rfl
    · rw [List.find?_cons_of_neg (by
        simp only [decide_eq_true_eq]
        intro z
        exact e (Sum.inr.inj z)), if_neg e]
      exact ih
theorem any_S (f : α → D) {t : List (Str × α)} {k : Str} : ((sdD f t).any fun kv => decide (kv.1 = (.inr k : Key))) = decide (k ∈ t.map (·.1)) := by
  rw [Bool.eq_iff_iff, List.any_eq_true, decide_eq_true_iff]
  constructor
  · rintro ⟨p, hp, e⟩
    obtain ⟨q, hq, rfl⟩ := List.mem_map.mp hp
    have e2 : (Sum.inr q.1 : Key) = .inr k := of_decide_eq_true e
    rw [← Sum.inr.inj e2]
    exact List.mem_map_of_mem (f := (·.1)) hq
  · intro h
    obtain ⟨q, hq, rfl⟩ := List.mem_map.mp h
    exact ⟨_, List.mem_map_of_mem (f := fun p : Str × α => ((.inr p.1 : Key), f p.2)) hq, by simp⟩
theorem putD_newS (f : α → D) {t : List (Str × α)} {k : Str} {x : α} (h : k ∉ t.map (·.1)) : putD (sdD f t) (.inr k) (f x) = sdD f (t ++ [(k, x)]) := by
  unfold putD
  rw [if_neg (by rw [any_S]; simpa using h)]
  unfold sdD
  rw [List.map_append]
  rfl
/-- the value of a key set -/
def setS (t : List (Str × α)) (k : Str) (x : α) : List (Str × α) := t.map fun p => if p.1 = k then (p.1, x) else p
theorem putD_oldS (f : α → D) {t : List (Str × α)} {k : Str} {x : α} (h : k ∈ t.map (·.1)) : putD (sdD f t) (.inr k) (f x) = sdD f (setS t k x) := by
  unfold putD
  rw [if_pos (by rw [any_S]; simpa using h)]
  unfold sdD setS
  rw [List.map_map, List.map_map]
  refine List.map_congr_left fun p hp => ?_
  show (if (Sum.inr p.1 : Key) = .inr k then _ else _) = ((.inr (if p.1 = k then (p.1, x) else p).1 : Key), f (if p.1 = k then (p.1, x) else p).2)
  by_cases e : p.1 = k
  · rw [if_pos (by rw [e]), if_pos e]
  · rw [if_neg (fun z => e (Sum.inr.inj z)), if_neg e]
theorem setS_keys (t : List (Str × α)) (k : Str) (x : α) : (setS t k x).map (·.1) = t.map (·.1) := by
  unfold setS
  rw [List.map_map]
  refine List.map_congr_left fun p _ => ?_
  show (if p.1 = k then (p.1, x) else p).1 = p.1
  split <;> rfl
theorem getS_set {k j : Str} {x : α} : ∀ {t : List (Str × α)}, k ∈ t.map (·.1) → getS (setS t k x) j = if k = j then some x else getS t j
  | [], h => by cases h
  | (a, y) :: r, h => by
    show getS ((if a = k then (a, x) else (a, y)) :: setS r k x) j = _
    by_cases e : a = k
    · subst e
      rw [if_pos rfl]
      show (if a = j then some x else getS (setS r a x) j) = if a = j then some x else (if a = j then some y else getS r j)
      by_cases q : a = j
      · rw [if_pos q, if_pos q]
      · rw [if_neg q, if_neg q, if_neg q]
        by_cases hr : a ∈ r.map (·.1)
        · rw [getS_set hr, if_neg q]
        · have : setS r a x = r := by
            unfold setS
            refine (List.map_congr_left fun p hp => ?_).trans (List.map_id r)
            rw [if_neg fun z => hr (by rw [← z]; exact List.mem_map_of_mem (f := (·.1)) hp)]
            rfl
          rw [this]
    · rw [if_neg e]
      have hr : k ∈ r.map (·.1) := by
        rw [List.map_cons, List.mem_cons] at h
        rcases h with h | h
        · exact absurd h.symm e
        · exact h
      show (if a = j then some y else getS (setS r k x) j) = if k = j then some x else (if a = j then some y else getS r j)
      rw [getS_set hr]
      by_cases q : k = j
      · have : ¬ a = j := fun z => e (z.trans q.symm)
        rw [if_neg this, if_pos q, if_pos q]
      · rw [if_neg q, if_neg q]
end
def strsD (zs : List Str) : D := .lst (zs.map D.str)
def partsOf (s : Shop) : List (Str × List Str) := s.ws.map fun w => (w.nm, w.parts.map (·.1))
theorem partsOf_keys (s : Shop) : (partsOf s).map (·.1) = s.names := by
  unfold partsOf Shop.names
  rw [List.map_map]
  rfl
theorem noD_strs (n : Nat) (zs : List Str) : (zs.map D.str).all (D.noD (n + 1)) = true := noD_map (fun _ => rfl) zs
theorem cmpN_strs {n : Nat} {zs : List Str} (h : ∀ z ∈ zs, PyData.strOk z = true) : D.cmpN (n + 1) (.lst (zs.map D.str)) = true := cmpN_list fun d hd => by
  obtain ⟨z, hz, rfl⟩ := List.mem_map.mp hd
  cases n <;> exact h z hz
/-- a part of the name is among some -/
def hasIn (t : List (Str × List Str)) (left : List Str) (nm : Str) : Bool := ((getS t nm).getD []).any fun p => decide (p ∈ left)
/-- the names of which each has a part among them, and all such -/
structure Core (t : List (Str × List Str)) (L : List Str) : Prop where
  sub : ∀ x ∈ L, x ∈ t.map (·.1)
  nd : L.Nodup
  len : L.length ≤ t.length
  closed : ∀ x ∈ L, hasIn t L x = true
  great : ∀ T : List Str, (∀ x ∈ T, x ∈ t.map (·.1) ∧ hasIn t T x = true) → ∀ x ∈ T, x ∈ L
theorem hasIn_mono {t : List (Str × List Str)} {A B : List Str} {x : Str} (h : ∀ y ∈ A, y ∈ B) (q : hasIn t A x = true) : hasIn t B x = true := by
  unfold hasIn at q ⊢
  rw [List.any_eq_true] at q ⊢
  obtain ⟨p, hp, e⟩ := q
  exact ⟨p, hp, decide_eq_true (h p (of_decide_eq_true e))⟩
/-- the shop has no ring: some rank falls from each ware to its parts -/
def Acyclic (t : List (Str × List Str)) : Prop := ∃ rank : Str → Nat, ∀ x ps, (x, ps) ∈ t → ∀ p ∈ ps, rank p < rank x
theorem core_nil {t : List (Str × List Str)} {L : List Str} (h : Core t L) (ha : Acyclic t) : L = [] := by
  obtain ⟨rank, hr⟩ := ha
  have key : ∀ (n : Nat) (x : Str), x ∈ L → rank x ≤ n → False := fun n => by
    induction n with
    | zero =>
      intro x hx hn
      have hc := h.closed x hx
      unfold hasIn at hc
      rw [List.any_eq_true] at hc
      obtain ⟨p, hp, e⟩ := hc
      obtain ⟨ps, hps⟩ := getS_some (h.sub x hx)
      rw [hps] at hp
      have := hr x ps (getS_mem hps) p hp
      omega
    | succ n ih =>
      intro x hx hn
      have hc := h.closed x hx
      unfold hasIn at hc
      rw [List.any_eq_true] at hc
      obtain ⟨p, hp, e⟩ := hc
      obtain ⟨ps, hps⟩ := getS_some (h.sub x hx)
      rw [hps] at hp
      have := hr x ps (getS_mem hps) p hp
      exact ih p (of_decide_eq_true e) (by omega)
  cases L with
  | nil => rfl
  | cons x r => exact (key (rank x) x List.mem_cons_self (Nat.le_refl _)).elim
theorem ware_uniq {s : Shop} (nd : s.names.Nodup) {v w : Ware} (hv : v ∈ s.ws) (hw : w ∈ s.ws) (e : v.nm = w.nm) : v = w := by
  obtain ⟨i, hi⟩ := List.getElem?_of_mem hv
  obtain ⟨j, hj⟩ := List.getElem?_of_mem hw
  unfold Shop.names at nd
  have h1 : (s.ws.map fun w => w.nm)[i]? = some v.nm := by rw [List.getElem?_map, hi]; rfl
  have h2 : (s.ws.map fun w => w.nm)[j]? = some v.nm := by rw [List.getElem?_map, hj, e]; rfl
  have := (List.getElem?_inj (lt_of_get h1) nd).mp (h1.trans h2.symm)
  subst this
  rw [hi] at hj
  exact Option.some.inj hj
structure ShopA (s : Shop) : Prop where
  ok : ShopOk s
  ac : Acyclic (partsOf s)
structure TabOk (t : List (Str × List Str)) : Prop where
  nd : (t.map (·.1)).Nodup
  n : t.length ≤ 1000
  p : ∀ x ∈ t, x.2.length ≤ 1000
end N

--@uses shop
namespace N
open PySem L2 VL
/-- a value for each name -/
def fnS {α : Type} (ns : List Str) (f : Str → α) : List (Str × α) := ns.map fun x => (x, f x)
theorem fnS_keys {α : Type} (ns : List Str) (f : Str → α) : (fnS ns f).map (·.1) = ns := by
  unfold fnS
  rw [List.map_map]
  exact List.map_id ns
theorem getS_fn {α : Type} {f : Str → α} {x : Str} : ∀ {ns : List Str}, x ∈ ns → getS (fnS ns f) x = some (f x)
  | [], h => by cases h
  | a :: r, h => by
    show (if a = x then some (f a) else getS (fnS r f) x) = some (f x)
    by_cases e : a = x
    · rw [if_pos e, e]
    · rw [if_neg e]
      rcases List.mem_cons.mp h with q | q
      · exact absurd q.symm e
      · exact getS_fn q
theorem setS_fn {α : Type} (ns : List Str) (f : Str → α) (k : Str) (v : α) : setS (fnS ns f) k v = fnS ns (fun y => if y = k then v else f y) := by
  unfold setS fnS
  rw [List.map_map]
  refine List.map_congr_left fun x _ => ?_
  show (if x = k then (x, v) else (x, f x)) = (x, if x = k then v else f x)
  split <;> rfl
theorem fnS_congr {α : Type} {ns : List Str} {f g : Str → α} (h : ∀ x ∈ ns, f x = g x) : fnS ns f = fnS ns g := List.map_congr_left fun x hx => by rw [h x hx]
theorem foldl_ge : ∀ (l : List Nat) (b : Nat), b ≤ l.foldl max b ∧ (∀ a ∈ l, a ≤ l.foldl max b) ∧ (l.foldl max b = b ∨ l.foldl max b ∈ l)
  | [], b => ⟨Nat.le_refl _, fun _ h => (by cases h), .inl rfl⟩
  | a :: r, b => by
    obtain ⟨h1, h2, h3⟩ := foldl_ge r (max b a)
    show b ≤ r.foldl max (max b a) ∧ (∀ x ∈ a :: r, x ≤ r.foldl max (max b a)) ∧ (r.foldl max (max b a) = b ∨ r.foldl max (max b a) ∈ a :: r)
    refine ⟨by omega, fun x hx => ?_, ?_⟩
    · rcases List.mem_cons.mp hx with rfl | hx
      · omega
      · exact h2 x hx
    · rcases h3 with h3 | h3
      · rw [h3]
        by_cases q : a ≤ b
        · exact .inl (Nat.max_eq_left q)
        · exact .inr (by rw [Nat.max_eq_right (by omega)]; exact List.mem_cons_self)
      · exact .inr (List.mem_cons_of_mem _ h3)
/-- how deep a name lies, counting k steps at most -/
def lvl (t : List (Str × List Str)) : Nat → Str → Nat
  | 0, _ => 0
  | k + 1, x => (t.map fun p => if x ∈ p.2 then lvl t k p.1 + 1 else 0).foldl max 0
section
variable {t : List (Str × List Str)}
theorem lvl_ge {k : Nat} {x y : Str} {ps : List Str} (h : (y, ps) ∈ t) (hx : x ∈ ps) : lvl t k y + 1 ≤ lvl t (k + 1) x := by
  refine (foldl_ge _ 0).2.1 _ (List.mem_map.mpr ⟨(y, ps), h, ?_⟩)
  show (if x ∈ ps then lvl t k y + 1 else 0) = _
  rw [if_pos hx]
theorem lvl_is {k : Nat} {x : Str} : lvl t (k + 1) x = 0 ∨ ∃ y ps, (y, ps) ∈ t ∧ x ∈ ps ∧ lvl t (k + 1) x = lvl t k y + 1 := by
  rcases (foldl_ge (t.map fun p : Str × List Str => if x ∈ p.2 then lvl t k p.1 + 1 else 0) 0).2.2 with h | h
  · exact .inl h
  · obtain ⟨p, hp, e⟩ := List.mem_map.mp h
    by_cases q : x ∈ p.2
    · rw [if_pos q] at e
      exact .inr ⟨p.1, p.2, hp, q, e.symm⟩
    · rw [if_neg q] at e
      exact .inl e.symm
theorem lvl_mono : ∀ (k : Nat) (x : Str), lvl t k x ≤ lvl t (k + 1) x
  | 0, x => Nat.zero_le _
  | k + 1, x => by
    rcases lvl_is (t := t) (k := k) (x := x) with h | ⟨y, ps, h1, h2, h3⟩
    · rw [h]
      exact Nat.zero_le _
    · rw [h3]
      have := lvl_mono k y
      have := lvl_ge (k := k + 1) h1 h2
      omega
/-- the names of a greater rank -/
def cnt (t : List (Str × List Str)) (rank : Str → Nat) (x : Str) : Nat := (t.filter fun p => decide (rank x < rank p.1)).length
theorem filter_lt {α : Type} {p q : α → Bool} (h : ∀ a, p a = true → q a = true) {b : α} (h1 : p b = false) (h2 : q b = true) : ∀ {l : List α}, b ∈ l → (l.filter p).length < (l.filter q).length
  | [], hb => by cases hb
  | a :: r, hb => by
    have le : ∀ r : List α, (r.filter p).length ≤ (r.filter q).length := fun r => by
      induction r with
      | nil => exact Nat.le_refl _
      | cons c r ih =>
        by_cases e : p c = true
        · rw [List.filter_cons_of_pos e, List.filter_cons_of_pos (h c e)]
          exact Nat.succ_le_succ ih
        · rw [List.filter_cons_of_neg e]
          by_cases e2 : q c = true
          · rw [List.filter_cons_of_pos e2]
            exact Nat.le_succ_of_le ih
          · rw [List.filter_cons_of_neg e2]
            exact ih
    rcases List.mem_cons.mp hb with rfl | hb
    · rw [List.filter_cons_of_neg (by rw [h1]; exact Bool.false_ne_true), List.filter_cons_of_pos h2]
      exact Nat.lt_succ_of_le (le r)
    · have ih := filter_lt h h1 h2 hb
      by_cases e : p a = true
      · rw [List.filter_cons_of_pos e, List.filter_cons_of_pos (h a e)]
        exact Nat.succ_lt_succ ih
      · rw [List.filter_cons_of_neg e]
        by_cases e2 : q a = true
        · rw [List.filter_cons_of_pos e2]
          exact Nat.lt_succ_of_lt ih
        · rw [List.filter_cons_of_neg e2]
          exact ih
theorem lvl_stable {rank : Str → Nat} (hr : ∀ x ps, (x, ps) ∈ t → ∀ p ∈ ps, rank p < rank x) : ∀ (k : Nat) (x : Str), cnt t rank x ≤ k → lvl t (k + 1) x = lvl t k x
  | 0, x, h => by
    rcases lvl_is (t := t) (k := 0) (x := x) with e | ⟨y, ps, h1, h2, h3⟩
    · exact e
    · have hm : (y, ps) ∈ t.filter fun p => decide (rank x < rank p.1) := List.mem_filter.mpr ⟨h1, decide_eq_true (hr y ps h1 x h2)⟩
      have := List.length_pos_of_mem hm
      unfold cnt at h
      omega
  | k + 1, x, h => by
    apply Nat.le_antisymm
    · rcases lvl_is (t := t) (k := k + 1) (x := x) with e | ⟨y, ps, h1, h2, h3⟩
      · rw [e]
        exact Nat.zero_le _
      · have hlt : cnt t rank y < cnt t rank x := filter_lt (p := fun p : Str × List Str => decide (rank y < rank p.1)) (q := fun p : Str × List Str => decide (rank x < rank p.1)) (fun a ha => decide_eq_true (Nat.lt_trans (hr y ps h1 x h2) (of_decide_eq_true ha))) (b := (y, ps)) (decide_eq_false (Nat.lt_irrefl _)) (decide_eq_true (hr y ps h1 x h2)) h1
        have e := lvl_stable hr k y (by omega)
        rw [h3, e]
        exact lvl_ge h1 h2
    · exact lvl_mono (k + 1) x
theorem cnt_le (rank : Str → Nat) (x : Str) : cnt t rank x ≤ t.length := List.length_filter_le _ _
/-- the levels: nought, or one more than the greatest level above -/
structure Levels (t : List (Str × List Str)) (f : Str → Int) : Prop where
  up : ∀ y ps, (y, ps) ∈ t → ∀ x ∈ ps, f y + 1 ≤ f x
  is : ∀ x, f x = 0 ∨ ∃ y ps, (y, ps) ∈ t ∧ x ∈ ps ∧ f x = f y + 1
  nn : ∀ x, 0 ≤ f x ∧ f x ≤ t.length
theorem lvl_le : ∀ (k : Nat) (x : Str), lvl t k x ≤ k
  | 0, _ => Nat.le_refl _
  | k + 1, x => by
    rcases lvl_is (t := t) (k := k) (x := x) with e | ⟨y, ps, _, _, h3⟩
    · rw [e]
      exact Nat.zero_le _
    · rw [h3]
      exact Nat.succ_le_succ (lvl_le k y)
def levF (t : List (Str × List Str)) (x : Str) : Int := (lvl t t.length x : Nat)
theorem levels_ok (ha : Acyclic t) : Levels t (levF t) := by
  obtain ⟨rank, hr⟩ := ha
  have st := fun x => lvl_stable hr t.length x (cnt_le rank x)
  refine ⟨fun y ps h x hx => ?_, fun x => ?_, fun x => ?_⟩
  · have := lvl_ge (k := t.length) h hx
    rw [st x] at this
    unfold levF
    omega
  · rcases lvl_is (t := t) (k := t.length) (x := x) with e | ⟨y, ps, h1, h2, h3⟩
    · rw [st x] at e
      exact .inl (by unfold levF; rw [e]; rfl)
    · rw [st x] at h3
      exact .inr ⟨y, ps, h1, h2, by unfold levF; rw [h3]; rfl⟩
  · have := lvl_le (t := t) t.length x
    unfold levF
    omega
/-- behind k turns the found levels lie between -/
structure Relax (t : List (Str × List Str)) (k : Nat) (f : Str → Int) : Prop where
  lo : ∀ x, ((lvl t k x : Nat) : Int) ≤ f x
  hi : ∀ x, f x ≤ levF t x
end
end N

--@uses levels
/-! ### shops as the laws draw them -/
namespace N
open PySem L2 VL
/-- one to eight small letters -/
structure NameOk (z : Str) : Prop where
  lo : 1 ≤ z.cps.toList.length
  hi : z.cps.toList.length ≤ 8
  ab : ∀ c ∈ z.cps.toList, 97 ≤ c ∧ c ≤ 122
theorem NameOk.str {z : Str} (h : NameOk z) : PyData.strOk z = true := by
  unfold PyData.strOk
  rw [Array.all_eq_true_iff_forall_mem]
  intro c hc
  have := h.ab c (by simpa using hc)
  exact decide_eq_true (by omega)
theorem str_app (a b : Str) : (a ++ b).cps.toList = a.cps.toList ++ b.cps.toList := by
  show (a.cps ++ b.cps).toList = _
  exact Array.toList_append
theorem str_len (a : Str) : a.length = a.cps.toList.length := by
  show a.cps.size = _
  exact Array.length_toList.symm
theorem str_ext {a b : Str} (h : a.cps.toList = b.cps.toList) : a = b := by
  obtain ⟨⟨x⟩⟩ := a
  obtain ⟨⟨y⟩⟩ := b
  have h' : x = y := h
  rw [h']
/-- small numbers that the laws draw -/
abbrev Amt (n : Int) : Prop := 0 ≤ n ∧ n < 10 ^ 42
structure WareG (w : Ware) : Prop where
  nm : NameOk w.nm
  lag : 0 ≤ w.lag ∧ w.lag ≤ 30
  gives : 1 ≤ w.gives ∧ w.gives < 10 ^ 42
  floor : Amt w.floor
  stock : Amt w.stock
  cl : w.com.length ≤ 12
  com : ∀ p ∈ w.com, (0 ≤ p.1 ∧ p.1 ≤ 400) ∧ Amt p.2
  pl : w.parts.length ≤ 6
  pn : (w.parts.map (·.1)).Nodup
  parts : ∀ p ∈ w.parts, 1 ≤ p.2 ∧ p.2 < 10 ^ 42
structure WantsG (names : List Str) (vs : List Want) (n : Nat) (day : Int) : Prop where
  len : vs.length ≤ n
  ok : ∀ v ∈ vs, v.1 ∈ names ∧ (0 ≤ v.2.1 ∧ v.2.1 ≤ day) ∧ Amt v.2.2
structure ShopG (s : Shop) : Prop where
  lo : 1 ≤ s.ws.length
  hi : s.ws.length ≤ 12
  nd : s.names.Nodup
  ws : ∀ w ∈ s.ws, WareG w
  sub : ∀ w ∈ s.ws, ∀ p ∈ w.parts, p.1 ∈ s.names
  wants : WantsG s.names s.wants 20 400
theorem ShopG.ok {s : Shop} (h : ShopG s) : ShopOk s := ⟨h.nd, h.sub, by have := h.hi; omega, fun w hw => by have := (h.ws w hw).pl; omega, fun w hw => by have := (h.ws w hw).cl; omega, by have := h.wants.len; omega⟩
theorem ShopG.a {s : Shop} (h : ShopG s) (ac : Acyclic (partsOf s)) : ShopA s := ⟨h.ok, ac⟩
/-- wares of which each has only wares behind it in a row of names as parts -/
structure Chained (names : List Str) (ws : List Ware) (n : Nat) : Prop where
  nm : ws.map (·.nm) = names.take n
  len : ws.length = n
  ok : ∀ w ∈ ws, WareG w
  sub : ∀ (i : Nat) w, ws[i]? = some w → ∀ p ∈ w.parts, p.1 ∈ names.drop (i + 1)
theorem Chained.nil {names : List Str} : Chained names [] 0 := ⟨by simp, rfl, fun w hw => (by cases hw), fun i w hi => by simp at hi⟩
theorem Chained.snoc {names : List Str} {ws : List Ware} {n : Nat} {w : Ware} {z : Str} (h : Chained names ws n) (hz : names[n]? = some z) (hw : WareG w) (hn : w.nm = z) (hp : ∀ p ∈ w.parts, p.1 ∈ names.drop (n + 1)) : Chained names (ws ++ [w]) (n + 1) where
  nm := by rw [List.map_append, h.nm, take_one hz, ← hn]; rfl
  len := by rw [List.length_append, h.len]; rfl
  ok := fun v hv => by
    rcases List.mem_append.mp hv with hv | hv
    · exact h.ok v hv
    · cases List.mem_singleton.mp hv
      exact hw
  sub := fun i v hi => by
    by_cases hlt : i < ws.length
    · rw [List.getElem?_append_left hlt] at hi
      exact h.sub i v hi
    · have hi2 := (List.getElem?_eq_some_iff.mp hi).1
      rw [List.length_append] at hi2
      have hi3 : i = ws.length := by
        have : [w].length = 1 := rfl
        omega
      rw [hi3, List.getElem?_append_right (Nat.le_refl _), Nat.sub_self] at hi
      cases hi
      rw [hi3, h.len]
      exact hp
theorem idx_nodup {α : Type} [DecidableEq α] : ∀ {l : List α} (_ : l.Nodup) {i : Nat} {x : α}, l[i]? = some x → l.idxOf x = i
  | [], _, _, _, h => by simp at h
  | a :: r, nd, 0, x, h => by
    simp at h
    subst h
    simp
  | a :: r, nd, i + 1, x, h => by
    have h' : r[i]? = some x := by simpa using h
    rw [List.nodup_cons] at nd
    have hne : a ≠ x := fun z => nd.1 (by rw [z]; exact List.mem_of_getElem? h')
    have hb : (a == x) = false := beq_eq_false_iff_ne.mpr hne
    rw [List.idxOf_cons, hb, idx_nodup nd.2 h']
    rfl
theorem mem_drop_ix {α : Type} [DecidableEq α] {l : List α} (nd : l.Nodup) {i : Nat} {x y : α} (hx : l[i]? = some x) (hy : y ∈ l.drop (i + 1)) : l.idxOf x < l.idxOf y := by
  obtain ⟨j, hj, e⟩ := List.mem_iff_getElem.mp hy
  rw [List.getElem_drop] at e
  rw [List.length_drop] at hj
  have hil := (List.getElem?_eq_some_iff.mp hx)
  obtain ⟨hi, ex⟩ := hil
  have hl : i + 1 + j < l.length := by omega
  have h2 : l[i + 1 + j]? = some y := by rw [List.getElem?_eq_getElem hl, e]
  rw [idx_nodup nd hx, idx_nodup nd h2]
  omega
/-- turned about, they are a shop without a ring -/
theorem Chained.shop {names : List Str} {ws ws' : List Ware} {vs : List Want} (h : Chained names ws names.length) (nd : names.Nodup) (p : ws'.Perm ws) (lo : 1 ≤ names.length) (hi : names.length ≤ 12) (hv : WantsG names vs 20 400) : ShopG ⟨ws', vs⟩ ∧ Acyclic (partsOf ⟨ws', vs⟩) := by
  have hnm := h.nm
  rw [List.take_length] at hnm
  have hn : (Shop.mk ws' vs).names.Perm names := by
    unfold Shop.names
    have := p.map (fun w : Ware => w.nm)
    rw [hnm] at this
    exact this
  have hl : ws'.length = names.length := by
    rw [p.length_eq, h.len]
  have mem : ∀ w ∈ ws', w ∈ ws := fun w hw => p.mem_iff.mp hw
  have hsub : ∀ w ∈ ws, ∀ q ∈ w.parts, names.idxOf w.nm < names.idxOf q.1 ∧ q.1 ∈ names := fun w hw q hq => by
    obtain ⟨i, hi⟩ := List.getElem?_of_mem hw
    have h1 := h.sub i w hi q hq
    have h2 : names[i]? = some w.nm := by
      rw [← hnm, List.getElem?_map, hi]
      rfl
    exact ⟨mem_drop_ix nd h2 h1, List.mem_of_mem_drop h1⟩
  refine ⟨⟨by show 1 ≤ ws'.length; omega, by show ws'.length ≤ 12; omega, hn.nodup_iff.mpr nd, fun w hw => h.ok w (mem w hw), fun w hw q hq => hn.mem_iff.mpr (hsub w (mem w hw) q hq).2, ⟨hv.len, fun v hv' => ?_⟩⟩, ?_⟩
  · obtain ⟨h1, h2⟩ := hv.ok v hv'
    exact ⟨hn.mem_iff.mpr h1, h2⟩
  · refine ⟨fun x => names.length - names.idxOf x, fun x ps hx q hq => ?_⟩
    obtain ⟨w, hw, e⟩ := List.mem_map.mp hx
    cases e
    obtain ⟨r, hr, rfl⟩ := List.mem_map.mp hq
    obtain ⟨h1, h2⟩ := hsub w (mem w hw) r hr
    have := List.idxOf_lt_length_of_mem h2
    show names.length - names.idxOf r.1 < names.length - names.idxOf w.nm
    omega
/-- one of two, by a bit -/
theorem pickB {P : Int → Prop} {a b : Int} (c : Bool) (pa : P a) (pb : P b) : ∃ v, atI [D.int a, .int b] (if c then 1 else 0) = some (.int v) ∧ P v := by
  cases c
  · exact ⟨a, atI_nat (j := 0) rfl, pa⟩
  · exact ⟨b, atI_nat (j := 1) rfl, pb⟩
/-- one of some numbers -/
theorem pickL {P : Int → Prop} {l : List Int} {k : Int} (h0 : 0 ≤ k) (h1 : k < l.length) (h : ∀ x ∈ l, P x) : ∃ v, atI (l.map D.int) k = some (.int v) ∧ P v := by
  obtain ⟨k, rfl⟩ := Int.eq_ofNat_of_zero_le h0
  have hk : k < l.length := by omega
  exact ⟨l[k], atI_get D.int (List.getElem?_eq_getElem hk), h _ (List.getElem_mem hk)⟩
theorem atI_lt {α : Type} (f : α → D) {l : List α} {k : Int} (h0 : 0 ≤ k) (h1 : k < l.length) : ∃ (j : Nat) (x : α), k = j ∧ l[j]? = some x ∧ atI (l.map f) k = some (f x) := by
  obtain ⟨k, rfl⟩ := Int.eq_ofNat_of_zero_le h0
  have hk : k < l.length := by omega
  exact ⟨k, l[k], rfl, List.getElem?_eq_getElem hk, atI_get f (List.getElem?_eq_getElem hk)⟩
def abc : Str := "abcdefghijklmnopqrstuvwxyz"
theorem abc_at {k : Int} (h0 : 0 ≤ k) (h1 : k < 26) : atI abc.cps.toList k = some (97 + k.toNat) := by
  obtain ⟨k, rfl⟩ := Int.eq_ofNat_of_zero_le h0
  have hk : k < 26 := by omega
  have key : ∀ j : Fin 26, abc.cps.toList[j.val]? = some (97 + j.val) := by decide +kernel
  have := key ⟨k, hk⟩
  rw [Int.toNat_natCast]
  exact atI_nat this
def abc12 : Str := "abcdefghijkl"
theorem abc12_at {k : Nat} (h1 : k < 12) : atI abc12.cps.toList (k : Int) = some (97 + k) := by
  have key : ∀ j : Fin 12, abc12.cps.toList[j.val]? = some (97 + j.val) := by decide +kernel
  exact atI_nat (key ⟨k, h1⟩)
/-- names whose last letters are a, b, c .. -/
structure Tailed (zs : List Str) : Prop where
  ok : ∀ z ∈ zs, NameOk z
  t : ∀ (i : Nat) z, zs[i]? = some z → z.cps.toList.getLast? = some (97 + i)
theorem Tailed.nodup {zs : List Str} (h : Tailed zs) : zs.Nodup := by
  refine List.pairwise_iff_getElem.mpr fun i j hi hj hij e => ?_
  have h1 := h.t i _ (List.getElem?_eq_getElem hi)
  have h2 := h.t j _ (List.getElem?_eq_getElem hj)
  rw [e, h2] at h1
  have : 97 + j = 97 + i := Option.some.inj h1
  omega
theorem Tailed.snoc {zs : List Str} (h : Tailed zs) {y : Str} (hl : y.cps.toList.length ≤ 7) (hy : ∀ c ∈ y.cps.toList, 97 ≤ c ∧ c ≤ 122) (hz : zs.length < 12) : Tailed (zs ++ [y ++ (⟨#[97 + zs.length]⟩ : Str)]) := by
  have e : (y ++ (⟨#[97 + zs.length]⟩ : Str)).cps.toList = y.cps.toList ++ [97 + zs.length] := str_app _ _
  refine ⟨fun z hz' => ?_, fun i z hi => ?_⟩
  · rcases List.mem_append.mp hz' with hz' | hz'
    · exact h.ok z hz'
    · cases List.mem_singleton.mp hz'
      refine ⟨by rw [e, List.length_append]; exact Nat.le_add_left 1 _, by rw [e, List.length_append]; show _ + 1 ≤ 8; omega, fun c hc => ?_⟩
      rw [e] at hc
      rcases List.mem_append.mp hc with hc | hc
      · exact hy c hc
      · cases List.mem_singleton.mp hc
        omega
  · by_cases hlt : i < zs.length
    · rw [List.getElem?_append_left hlt] at hi
      exact h.t i z hi
    · have hi2 := (List.getElem?_eq_some_iff.mp hi).1
      rw [List.length_append] at hi2
      have hi3 : i = zs.length := by
        have : [y ++ (⟨#[97 + zs.length]⟩ : Str)].length = 1 := rfl
        omega
      subst hi3
      rw [List.getElem?_append_right (Nat.le_refl _), Nat.sub_self] at hi
      cases hi
      rw [e, List.getLast?_append]
      rfl
theorem erase_map {α : Type} (f : α → D) : ∀ (us : List α) (i : Nat), (us.map f).eraseIdx i = (us.eraseIdx i).map f
  | [], _ => rfl
  | _ :: _, 0 => rfl
  | x :: r, i + 1 => congrArg (f x :: ·) (erase_map f r i)
theorem insPop_map {α : Type} (f : α → D) (us : List α) (i z : Nat) (x : α) : ((us.map f).eraseIdx i).take z ++ [f x] ++ ((us.map f).eraseIdx i).drop z = ((us.eraseIdx i).take z ++ [x] ++ (us.eraseIdx i).drop z).map f := by
  rw [erase_map, List.map_append, List.map_append, List.map_take, List.map_drop]
  rfl
theorem cutD_init (l : List D) (x : D) : cutD (l ++ [x]) none (some (-1)) = l := by
  unfold cutD
  have e : HT.sIx (l ++ [x]).length (l ++ [x]).length (some (-1)) = l.length := by
    show (if (-1 : Int) < 0 then (-1 + ((l ++ [x]).length : Int)).toNat else min (-1 : Int).toNat (l ++ [x]).length) = _
    rw [if_pos (by decide), List.length_append]
    have : [x].length = 1 := rfl
    omega
  have e0 : HT.sIx (l ++ [x]).length 0 none = 0 := rfl
  rw [e, e0, List.drop_zero, Nat.sub_zero, List.take_left]
theorem names_eq (s : Shop) : (s.ws.filterMap fun w => some w.nm) = s.names := fm_some (fun w : Ware => w.nm) s.ws
theorem fnS_map (ns : List Str) (f : Str → Int) : sdD D.int (fnS ns f) = (fnS ns f).map fun p => ((.inr p.1 : Key), D.int p.2) := rfl
theorem flat_fn (ns : List Str) (f : Str → Int) : D.flat (.dct (sdD D.int (fnS ns f))) = true := by
  show ((sdD D.int (fnS ns f)).all fun p => D.deepT 9 p.2) = true
  unfold sdD
  rw [List.all_map]
  exact List.all_eq_true.mpr fun _ _ => rfl
theorem flat_strs' (zs : List Str) : D.flat (.lst (zs.map D.str)) = true := by
  show (zs.map D.str).all (D.deepT 9) = true
  rw [List.all_map]
  exact List.all_eq_true.mpr fun _ _ => rfl
theorem keys_fn (ns : List Str) (f : Str → Int) : (sdD D.int (fnS ns f)).map (·.1) = ns.map Sum.inr := by
  unfold sdD fnS
  rw [List.map_map, List.map_map]
  rfl
theorem names_len (s : Shop) : s.names.length = s.ws.length := by unfold Shop.names; rw [List.length_map]
theorem ShopG.strs {s : Shop} (h : ShopG s) : ∀ z ∈ s.names, PyData.strOk z = true := fun z hz => by
  obtain ⟨w, hw, rfl⟩ := List.mem_map.mp hz
  exact (h.ws w hw).nm.str
theorem not_take {α : Type} {l : List α} (nd : l.Nodup) {i : Nat} {x : α} (h : l[i]? = some x) : x ∉ l.take i := fun z => by
  obtain ⟨j, hj⟩ := List.getElem?_of_mem z
  rw [List.getElem?_take] at hj
  split at hj
  · have := (List.getElem?_inj (lt_of_get hj) nd).mp (hj.trans h.symm)
    omega
  · cases hj
theorem fnS_snoc {α : Type} (ns : List Str) (x : Str) (f : Str → α) : fnS (ns ++ [x]) f = fnS ns f ++ [(x, f x)] := by
  unfold fnS
  rw [List.map_append]
  rfl
theorem ware_named {s : Shop} {x : Str} (h : x ∈ s.names) : ∃ w ∈ s.ws, w.nm = x := by
  obtain ⟨w, hw, e⟩ := List.mem_map.mp h
  exact ⟨w, hw, e⟩
/-- the names in the worked order -/
def workedOf (s : Shop) : List Str := s.names.mergeSort fun a b => decide (levF (partsOf s) a ≤ levF (partsOf s) b)
theorem pair_sub {x y : Str} : ∀ {l : List Str}, x ∈ l → y ∈ l → l.idxOf x < l.idxOf y → [x, y].Sublist l
  | [], h, _, _ => by cases h
  | a :: r, hx, hy, hlt => by
    rw [List.idxOf_cons, List.idxOf_cons] at hlt
    by_cases ey : a = y
    · have hb : (a == y) = true := beq_iff_eq.mpr ey
      rw [hb] at hlt
      cases hlt
    · have hb : (a == y) = false := beq_eq_false_iff_ne.mpr ey
      have hyr := (List.mem_cons.mp hy).resolve_left fun q => ey q.symm
      rw [hb] at hlt
      by_cases ex : a = x
      · rw [ex]
        exact .cons_cons x (List.singleton_sublist.mpr hyr)
      · have hbx : (a == x) = false := beq_eq_false_iff_ne.mpr ex
        rw [hbx] at hlt
        have hlt' : r.idxOf x + 1 < r.idxOf y + 1 := hlt
        exact .cons a (pair_sub ((List.mem_cons.mp hx).resolve_left fun q => ex q.symm) hyr (by omega))
theorem sub_pair {x y : Str} : ∀ {l : List Str}, [x, y].Sublist l → l.Nodup → l.idxOf x < l.idxOf y
  | [], h, _ => by cases h
  | a :: r, h, nd => by
    rw [List.nodup_cons] at nd
    rw [List.idxOf_cons, List.idxOf_cons]
    cases h with
    | cons _ h =>
      have hx : x ∈ r := h.subset List.mem_cons_self
      have hy : y ∈ r := h.subset (List.mem_cons_of_mem _ List.mem_cons_self)
      have hbx : (a == x) = false := beq_eq_false_iff_ne.mpr fun z => nd.1 (z ▸ hx)
      have hby : (a == y) = false := beq_eq_false_iff_ne.mpr fun z => nd.1 (z ▸ hy)
      rw [hbx, hby]
      have := sub_pair h nd.2
      show r.idxOf x + 1 < r.idxOf y + 1
      omega
    | cons_cons _ h =>
      have hy : y ∈ r := h.subset List.mem_cons_self
      have hby : (x == y) = false := beq_eq_false_iff_ne.mpr fun z => nd.1 (z ▸ hy)
      rw [hby, beq_self_eq_true]
      exact Nat.succ_pos _
theorem lev_trans {f : Str → Int} (a b c : Str) (h : decide (f a ≤ f b) = true) (q : decide (f b ≤ f c) = true) : decide (f a ≤ f c) = true := decide_eq_true (Int.le_trans (of_decide_eq_true h) (of_decide_eq_true q))
theorem lev_total {f : Str → Int} (a b : Str) : (decide (f a ≤ f b) || decide (f b ≤ f a)) = true := by
  rw [Bool.or_eq_true, decide_eq_true_iff, decide_eq_true_iff]
  omega
theorem workedOf_perm (s : Shop) : (workedOf s).Perm s.names := List.mergeSort_perm _ _
theorem workedOf_mem {s : Shop} {x : Str} : x ∈ workedOf s ↔ x ∈ s.names := (workedOf_perm s).mem_iff
theorem workedOf_nodup {s : Shop} (h : s.names.Nodup) : (workedOf s).Nodup := (workedOf_perm s).nodup_iff.mpr h
/-- by levels, those of one level as they stand -/
theorem workedOf_lt {s : Shop} (nd : s.names.Nodup) {i j : Nat} {a b : Str} (hij : i < j) (ha : (workedOf s)[i]? = some a) (hb : (workedOf s)[j]? = some b) : levF (partsOf s) a < levF (partsOf s) b ∨ (levF (partsOf s) a = levF (partsOf s) b ∧ s.names.idxOf a < s.names.idxOf b) := by
  have pw : (workedOf s).Pairwise fun a b => decide (levF (partsOf s) a ≤ levF (partsOf s) b) = true := List.pairwise_mergeSort (le := fun a b => decide (levF (partsOf s) a ≤ levF (partsOf s) b)) lev_trans lev_total s.names
  obtain ⟨hi, ea⟩ := List.getElem?_eq_some_iff.mp ha
  obtain ⟨hj, eb⟩ := List.getElem?_eq_some_iff.mp hb
  have hle : levF (partsOf s) a ≤ levF (partsOf s) b := by
    have := List.pairwise_iff_getElem.mp pw i j hi hj hij
    rw [ea, eb] at this
    exact of_decide_eq_true this
  have wn := workedOf_nodup nd
  by_cases hlt : levF (partsOf s) a < levF (partsOf s) b
  · exact .inl hlt
  · refine .inr ⟨by omega, ?_⟩
    have ma : a ∈ s.names := workedOf_mem.mp (List.mem_of_getElem? ha)
    have mb : b ∈ s.names := workedOf_mem.mp (List.mem_of_getElem? hb)
    have hia := idx_nodup wn ha
    have hjb := idx_nodup wn hb
    have hne : a ≠ b := fun z => by
      rw [z, hjb] at hia
      omega
    rcases Nat.lt_trichotomy (s.names.idxOf a) (s.names.idxOf b) with q | q | q
    · exact q
    · refine absurd ?_ hne
      have h1 := (idx_get ma).1
      have h2 := (idx_get mb).1
      rw [q, h2] at h1
      exact (Option.some.inj h1).symm
    · have hs := List.pair_sublist_mergeSort (le := fun a b => decide (levF (partsOf s) a ≤ levF (partsOf s) b)) lev_trans lev_total (a := b) (b := a) (decide_eq_true (by omega)) (pair_sub mb ma q)
      have hsp : [b, a].Sublist (workedOf s) := hs
      have := sub_pair hsp wn
      rw [hia, hjb] at this
      omega
/-- the greatest, nought of none -/
def IsMax0 (l : List Int) (m : Int) : Prop := (l = [] ∧ m = 0) ∨ (m ∈ l ∧ ∀ y ∈ l, y ≤ m)
theorem IsMax0.uniq {l : List Int} {m n : Int} (h : IsMax0 l m) (q : IsMax0 l n) : m = n := by
  rcases h with ⟨h1, h2⟩ | ⟨h1, h2⟩ <;> rcases q with ⟨q1, q2⟩ | ⟨q1, q2⟩
  · omega
  · rw [h1] at q1
    cases q1
  · rw [q1] at h1
    cases h1
  · have := h2 n q1
    have := q2 m h1
    omega
/-- the days that wares take with all that they are made of, those of the names l -/
def TimesTo (s : Shop) (l : List Str) (f : Str → Int) : Prop := ∀ w ∈ s.ws, w.nm ∈ l → ∃ m, IsMax0 (w.parts.map fun p => f p.1) m ∧ f w.nm = w.lag + m
theorem times_uniq {s : Shop} (hA : ShopA s) {f g : Str → Int} (hf : TimesTo s s.names f) (hg : TimesTo s s.names g) : ∀ x ∈ s.names, f x = g x := by
  obtain ⟨rank, hr⟩ := hA.ac
  have key : ∀ (n : Nat) (x : Str), x ∈ s.names → rank x ≤ n → f x = g x := fun n => by
    induction n with
    | zero =>
      intro x hx hn
      obtain ⟨w, hw, rfl⟩ := ware_named hx
      obtain ⟨m, h1, h2⟩ := hf w hw hx
      obtain ⟨m', g1, g2⟩ := hg w hw hx
      have hp : w.parts = [] := by
        cases e : w.parts with
        | nil => rfl
        | cons p r =>
          have := hr w.nm (w.parts.map (·.1)) (List.mem_map.mpr ⟨w, hw, rfl⟩) p.1 (by rw [e]; exact List.mem_cons_self)
          omega
      rw [hp] at h1 g1
      have := h1.uniq g1
      omega
    | succ n ih =>
      intro x hx hn
      obtain ⟨w, hw, rfl⟩ := ware_named hx
      obtain ⟨m, h1, h2⟩ := hf w hw hx
      obtain ⟨m', g1, g2⟩ := hg w hw hx
      have he : (w.parts.map fun p => f p.1) = w.parts.map fun p => g p.1 := List.map_congr_left fun p hp => by
        have := hr w.nm (w.parts.map (·.1)) (List.mem_map.mpr ⟨w, hw, rfl⟩) p.1 (List.mem_map_of_mem (f := (·.1)) hp)
        exact ih p.1 (hA.ok.sub w hw p hp) (by omega)
      rw [he] at h1
      have := h1.uniq g1
      omega
  exact fun x hx => key (rank x) x hx (Nat.le_refl _)
theorem worked_len (s : Shop) : (workedOf s).length = s.ws.length := by
  rw [(workedOf_perm s).length_eq]
  exact names_len s
/-- behind in the worked order stand the parts -/
theorem parts_behind {s : Shop} (hA : ShopA s) {i : Nat} {w : Ware} (hw : w ∈ s.ws) (hi : (workedOf s)[i]? = some w.nm) {p : Str × Int} (hp : p ∈ w.parts) : ∃ j, i < j ∧ (workedOf s)[j]? = some p.1 := by
  have hl := (levels_ok hA.ac).up w.nm (w.parts.map (·.1)) (List.mem_map.mpr ⟨w, hw, rfl⟩) p.1 (List.mem_map_of_mem (f := (·.1)) hp)
  obtain ⟨j, hj⟩ := List.getElem?_of_mem (workedOf_mem.mpr (hA.ok.sub w hw p hp))
  refine ⟨j, ?_, hj⟩
  rcases Nat.lt_trichotomy i j with q | q | q
  · exact q
  · subst q
    rw [hi] at hj
    have e := Option.some.inj hj
    rw [e] at hl
    omega
  · rcases workedOf_lt hA.ok.nd q hj hi with h | ⟨h, _⟩ <;> omega
theorem parts_ahead {s : Shop} (hA : ShopA s) {i : Nat} {w : Ware} (hw : w ∈ s.ws) (hi : (workedOf s).reverse[i]? = some w.nm) {p : Str × Int} (hp : p ∈ w.parts) : p.1 ∈ (workedOf s).reverse.take i := by
  have hlt := lt_of_get hi
  rw [List.length_reverse] at hlt
  rw [List.getElem?_reverse hlt] at hi
  obtain ⟨j, hj, hj2⟩ := parts_behind hA hw hi hp
  have hjl := lt_of_get hj2
  have h3 : (workedOf s).reverse[(workedOf s).length - 1 - j]? = some p.1 := by
    rw [List.getElem?_reverse (by omega)]
    have : (workedOf s).length - 1 - ((workedOf s).length - 1 - j) = j := by omega
    rw [this]
    exact hj2
  refine List.mem_of_getElem? (i := (workedOf s).length - 1 - j) ?_
  rw [List.getElem?_take, if_pos (by omega)]
  exact h3
theorem TimesTo.snoc {s : Shop} (hA : ShopA s) {i : Nat} {w : Ware} {f : Str → Int} {m : Int} (h : TimesTo s ((workedOf s).reverse.take i) f) (hw : w ∈ s.ws) (hi : (workedOf s).reverse[i]? = some w.nm) (hm : IsMax0 (w.parts.map fun p => f p.1) m) :
    TimesTo s ((workedOf s).reverse.take (i + 1)) (fun y => if y = w.nm then w.lag + m else f y) := by
  have nd : (workedOf s).reverse.Nodup := (List.reverse_perm _).nodup_iff.mpr (workedOf_nodup hA.ok.nd)
  have hnew := not_take nd hi
  have same : ∀ v ∈ s.ws, ∀ j, j ≤ i → (workedOf s).reverse[j]? = some v.nm → (v.parts.map fun p => if p.1 = w.nm then w.lag + m else f p.1) = v.parts.map fun p => f p.1 := fun v hv j hj hjv => List.map_congr_left fun p hp => by
    have h1 := parts_ahead hA hv hjv hp
    have h2 : p.1 ∈ (workedOf s).reverse.take i := (List.take_subset_take_left _ hj) h1
    rw [if_neg fun z => hnew (by rw [← z]; exact h2)]
  intro v hv hvl
  by_cases e : v.nm = w.nm
  · have := ware_uniq hA.ok.nd hv hw e
    subst this
    dsimp only
    rw [if_pos rfl, same v hv i (Nat.le_refl _) hi]
    exact ⟨m, hm, rfl⟩
  · dsimp only
    rw [if_neg e]
    rw [take_one hi] at hvl
    have hvl2 : v.nm ∈ (workedOf s).reverse.take i := by
      rcases List.mem_append.mp hvl with q | q
      · exact q
      · exact absurd (List.mem_singleton.mp q) e
    obtain ⟨j, hj⟩ := List.getElem?_of_mem hvl2
    rw [List.getElem?_take] at hj
    split at hj
    · rw [same v hv j (by omega) hj]
      exact h v hv hvl2
    · cases hj
def lagsOf (ws : List Ware) : List (Str × Int) := ws.map fun w => (w.nm, w.lag)
theorem lags_get {s : Shop} (nd : s.names.Nodup) {w : Ware} (hw : w ∈ s.ws) : getS (lagsOf s.ws) w.nm = some w.lag := getS_of (by
  unfold lagsOf
  rw [List.map_map]
  exact nd) (List.mem_map.mpr ⟨w, hw, rfl⟩)
end N

--@uses gen
/-! ### the draws of two numbers -/
namespace N
open PySem L2 VL
def GoodSt2 (ns : List Int) : Prop := ∃ a b : Int, ns = [a, b]
end N

--@uses draw2
namespace N
open PySem L2 VL
/-! ### wares as rows that are filled later -/
def rawD (w : Ware) : D := .lst [.str w.nm, .int w.lag, .int w.gives, .int w.floor, .int w.stock, .cm, .lst (w.parts.map partD)]
def bareC (w : Ware) : Ware := ⟨w.nm, w.lag, w.gives, w.floor, w.stock, [], w.parts⟩
theorem cutD_takeI {α : Type} (f : α → D) (l : List α) {k : Int} (h0 : 0 ≤ k) (h1 : k ≤ l.length) : cutD (l.map f) none (some k) = (l.take k.toNat).map f := by
  unfold cutD
  have e : HT.sIx (l.map f).length (l.map f).length (some k) = k.toNat := by
    show (if k < 0 then (k + ((l.map f).length : Int)).toNat else min k.toNat (l.map f).length) = _
    rw [if_neg (by omega), List.length_map]
    omega
  have e0 : HT.sIx (l.map f).length 0 none = 0 := rfl
  rw [e, e0, List.drop_zero, Nat.sub_zero, List.map_take]
/-- what was drawn, filled with what is on the way -/
structure Filled (us ws : List Ware) : Prop where
  eq : us.map bareC = ws.map bareC
  com : ∀ w ∈ us, GoodP w.com
theorem Filled.len {us ws : List Ware} (h : Filled us ws) : us.length = ws.length := by
  have := congrArg List.length h.eq
  rwa [List.length_map, List.length_map] at this
theorem Filled.get {us ws : List Ware} (h : Filled us ws) {w : Ware} (hw : w ∈ us) : ∃ v ∈ ws, bareC w = bareC v := by
  have : bareC w ∈ ws.map bareC := h.eq ▸ List.mem_map_of_mem hw
  obtain ⟨v, hv, e⟩ := List.mem_map.mp this
  exact ⟨v, hv, e.symm⟩
theorem Filled.names {us ws : List Ware} (h : Filled us ws) : us.map (·.nm) = ws.map (·.nm) := by
  have := congrArg (List.map fun w : Ware => w.nm) h.eq
  rw [List.map_map, List.map_map] at this
  exact this
theorem Filled.parts {us ws : List Ware} (h : Filled us ws) (vs vs' : List Want) : partsOf ⟨us, vs⟩ = partsOf ⟨ws, vs'⟩ := by
  have := congrArg (List.map fun w : Ware => (w.nm, w.parts.map fun p : Str × Int => p.1)) h.eq
  rw [List.map_map, List.map_map] at this
  exact this
theorem Filled.shop {us ws : List Ware} {vs : List Want} (h : Filled us ws) (g : ShopG ⟨ws, []⟩) (ac : Acyclic (partsOf ⟨ws, []⟩)) (hv : WantsG (Shop.mk ws []).names vs 20 400) : ShopG ⟨us, vs⟩ ∧ Acyclic (partsOf ⟨us, vs⟩) := by
  have hn : (Shop.mk us vs).names = (Shop.mk ws []).names := h.names
  have hl := h.len
  refine ⟨⟨?_, ?_, ?_, fun w hw => ?_, fun w hw p hp => ?_, ⟨hv.len, fun v q => ?_⟩⟩, ?_⟩
  · show 1 ≤ us.length
    rw [hl]
    exact g.lo
  · show us.length ≤ 12
    rw [hl]
    exact g.hi
  · rw [hn]
    exact g.nd
  · obtain ⟨v, hvm, e⟩ := h.get hw
    have gv := g.ws v hvm
    have hc := h.com w hw
    cases w with
    | mk nm lag gives floor stock com parts =>
    cases v with
    | mk nm' lag' gives' floor' stock' com' parts' =>
    unfold bareC at e
    cases e
    exact ⟨gv.nm, gv.lag, gv.gives, gv.floor, gv.stock, hc.1, hc.2, gv.pl, gv.pn, gv.parts⟩
  · obtain ⟨v, hvm, e⟩ := h.get hw
    rw [hn]
    refine g.sub v hvm p ?_
    have : (bareC w).parts = (bareC v).parts := congrArg Ware.parts e
    have e2 : w.parts = v.parts := this
    rw [← e2]
    exact hp
  · rw [hn]
    exact hv.ok v q
  · rw [h.parts vs []]
    exact ac
def pool8 : List Str := ["a", "ab", "b", "ba", "c", "frame", "nut", "wheel"]
def nameOkB (z : Str) : Bool := decide (1 ≤ z.cps.toList.length) && decide (z.cps.toList.length ≤ 8) && z.cps.toList.all fun c => decide (97 ≤ c) && decide (c ≤ 122)
theorem nameOk_of {z : Str} (h : nameOkB z = true) : NameOk z := by
  unfold nameOkB at h
  rw [Bool.and_eq_true, Bool.and_eq_true] at h
  refine ⟨of_decide_eq_true h.1.1, of_decide_eq_true h.1.2, fun c hc => ?_⟩
  have := List.all_eq_true.mp h.2 c hc
  rw [Bool.and_eq_true] at this
  exact ⟨of_decide_eq_true this.1, of_decide_eq_true this.2⟩
theorem pool8_ok : ∀ z ∈ pool8, NameOk z := fun z hz => by
  have : pool8.all nameOkB = true := by decide +kernel
  exact nameOk_of (List.all_eq_true.mp this z hz)
theorem pool8_nd : pool8.Nodup := by decide +kernel
def turnAt {α : Type} (k : Nat) (l : List α) : List α := l.drop k ++ l.take k
theorem turnAt_perm {α : Type} (k : Nat) (l : List α) : (turnAt k l).Perm l := by
  unfold turnAt
  exact List.perm_append_comm.trans (by rw [List.take_append_drop])
/-- rows turned at a spot, the last ones about -/
theorem spot_perm {α : Type} (k : Nat) (l : List α) : (l.drop k ++ (l.take k).reverse).Perm l := (List.Perm.append_left _ (List.reverse_perm _)).trans (turnAt_perm k l)
def pool12 : List Str := ["a", "ab", "b", "ba", "c", "frame", "nut", "wheel", "aab", "rimaxles", "tt", "bolt"]
theorem pool12_ok : ∀ z ∈ pool12, NameOk z := fun z hz => by
  have : pool12.all nameOkB = true := by decide +kernel
  exact nameOk_of (List.all_eq_true.mp this z hz)
theorem pool12_nd : pool12.Nodup := by decide +kernel
end N
namespace N
open PySem L2 VL
theorem Filled.lag {us ws : List Ware} (h : Filled us ws) {k : Int} (hk : ∀ w ∈ ws, w.lag ≤ k) : ∀ w ∈ us, w.lag ≤ k := fun w hw => by
  obtain ⟨v, hv, e⟩ := h.get hw
  have e2 : (bareC w).lag = (bareC v).lag := congrArg Ware.lag e
  have e2 : w.lag = v.lag := e2
  rw [e2]
  exact hk v hv
end N

--@uses so_far
namespace N
open PySem L2 VL
/-- the least lots, day by day -/
def llGo (g f : Int) : Int → List (Int × Int) → List Int
  | _, [] => []
  | l, (t, n) :: r => (max l (-((t - n - f) / g)) - l) :: llGo g f (max l (-((t - n - f) / g))) r
def leastLots (have_ need : List Int) (g f : Int) : List Int := llGo g f 0 ((soFar 0 have_).zip (soFar 0 need))
/-- how many lots have come behind the days -/
def llAt (g f : Int) : Int → List (Int × Int) → Int
  | l, [] => l
  | l, (t, n) :: r => llAt g f (max l (-((t - n - f) / g))) r
theorem llAt_app (g f : Int) : ∀ (l : Int) (xs : List (Int × Int)) (t n : Int), llAt g f l (xs ++ [(t, n)]) = max (llAt g f l xs) (-((t - n - f) / g))
  | _, [], _, _ => rfl
  | l, (a, b) :: r, t, n => llAt_app g f _ r t n
theorem llGo_app (g f : Int) : ∀ (l : Int) (xs : List (Int × Int)) (t n : Int), llGo g f l (xs ++ [(t, n)]) = llGo g f l xs ++ [max (llAt g f l xs) (-((t - n - f) / g)) - llAt g f l xs]
  | _, [], _, _ => rfl
  | l, (a, b) :: r, t, n => by
    show _ :: llGo g f _ (r ++ [(t, n)]) = _ :: (llGo g f _ r ++ _)
    rw [llGo_app g f _ r t n]
    rfl
theorem llGo_len (g f : Int) : ∀ (l : Int) (xs : List (Int × Int)), (llGo g f l xs).length = xs.length
  | _, [] => rfl
  | _, (_, _) :: r => congrArg (· + 1) (llGo_len g f _ r)
theorem llGo_sum (g f : Int) : ∀ (l : Int) (xs : List (Int × Int)), l + (llGo g f l xs).sum = llAt g f l xs
  | l, [] => by simp [llGo, llAt]
  | l, (t, n) :: r => by
    have ih := llGo_sum g f (max l (-((t - n - f) / g))) r
    show l + ((max l (-((t - n - f) / g)) - l) :: llGo g f _ r).sum = llAt g f (max l (-((t - n - f) / g))) r
    rw [← ih, List.sum_cons]
    omega
theorem llGo_nn (g f : Int) : ∀ (l : Int) (xs : List (Int × Int)), ∀ x ∈ llGo g f l xs, 0 ≤ x
  | _, [], x, h => by cases h
  | l, (t, n) :: r, x, h => by
    rcases List.mem_cons.mp h with rfl | h
    · omega
    · exact llGo_nn g f _ r x h
theorem llGo_take (g f : Int) : ∀ (l : Int) (xs : List (Int × Int)) (i : Nat), (llGo g f l xs).take i = llGo g f l (xs.take i)
  | _, [], i => by cases i <;> rfl
  | _, (_, _) :: _, 0 => rfl
  | l, (t, n) :: r, i + 1 => by
    show _ :: (llGo g f _ r).take i = _ :: llGo g f _ (r.take i)
    rw [llGo_take g f _ r i]
theorem leastLots_len (a b : List Int) (g f : Int) : (leastLots a b g f).length = min a.length b.length := by
  unfold leastLots
  rw [llGo_len, List.length_zip, soFar_len, soFar_len]
theorem zip_get {α β : Type} {l : List α} {m : List β} {i : Nat} {a : α} {b : β} (h1 : l[i]? = some a) (h2 : m[i]? = some b) : (l.zip m)[i]? = some (a, b) := List.getElem?_zip_eq_some.mpr ⟨h1, h2⟩
end N

--@uses least_lots
namespace N
open PySem L2 VL
theorem soFar_get : ∀ (t : Int) (l : List Int) (k : Nat) (x : Int), l[k]? = some x → (soFar t l)[k]? = some (t + (l.take (k + 1)).sum)
  | _, [], _, _, h => by simp at h
  | t, y :: r, 0, x, h => by simp [soFar]
  | t, y :: r, k + 1, x, h => by
    have h' : r[k]? = some x := by simpa using h
    have ih := soFar_get (t + y) r k x h'
    show (soFar (t + y) r)[k]? = _
    rw [ih, List.take_succ_cons, List.sum_cons]
    congr 1
    omega
theorem ceil_ok {g z : Int} (hg : 0 < g) : z ≤ (-((-z) / g)) * g ∧ (-((-z) / g)) * g < z + g := by
  have h1 := Int.mul_ediv_self_le (x := -z) (k := g) (by omega)
  have h2 := Int.lt_mul_ediv_self_add (x := -z) (k := g) hg
  have e : (-((-z) / g)) * g = -(g * ((-z) / g)) := by rw [Int.neg_mul, Int.mul_comm]
  rw [e]
  omega
/-- what is left at the end of day i -/
def leftAt (a b : List Int) (g : Int) (l : List Int) (i : Nat) : Int := (a.take (i + 1)).sum - (b.take (i + 1)).sum + (l.take (i + 1)).sum * g
theorem least_right {a b : List Int} {g f : Int} (hg : 0 < g) {i : Nat} {x p q : Int} (hx : (leastLots a b g f)[i]? = some x) (hp : a[i]? = some p) (hq : b[i]? = some q) :
    0 ≤ x ∧ f ≤ leftAt a b g (leastLots a b g f) i ∧ (0 < x → leftAt a b g (leastLots a b g f) i - g < f) := by
  have ht := soFar_get 0 a i p hp
  have hn := soFar_get 0 b i q hq
  have hz := zip_get ht hn
  have e1 : (leastLots a b g f).take (i + 1) = llGo g f 0 (((soFar 0 a).zip (soFar 0 b)).take (i + 1)) := llGo_take _ _ _ _ _
  have e2 := llGo_sum g f 0 (((soFar 0 a).zip (soFar 0 b)).take (i + 1))
  have e0 : (leastLots a b g f).take i = llGo g f 0 (((soFar 0 a).zip (soFar 0 b)).take i) := llGo_take _ _ _ _ _
  rw [take_one hz, llAt_app] at e2
  rw [take_one hz] at e1
  have e3 : x = max (llAt g f 0 (((soFar 0 a).zip (soFar 0 b)).take i)) (-((0 + (a.take (i + 1)).sum - (0 + (b.take (i + 1)).sum) - f) / g)) - llAt g f 0 (((soFar 0 a).zip (soFar 0 b)).take i) := by
    rw [take_one hx, llGo_app, e0] at e1
    simpa using e1
  have ex : 0 ≤ x := llGo_nn g f 0 _ x (List.mem_of_getElem? hx)
  unfold leftAt
  rw [e1]
  generalize hS : (llGo g f 0 (((soFar 0 a).zip (soFar 0 b)).take i ++ [(0 + (a.take (i + 1)).sum, 0 + (b.take (i + 1)).sum)])).sum = S at e2
  generalize hL : llAt g f 0 (((soFar 0 a).zip (soFar 0 b)).take i) = Lp at e2 e3
  generalize hA : (a.take (i + 1)).sum = A at e2 e3
  generalize hB : (b.take (i + 1)).sum = C at e2 e3
  have ec := ceil_ok (g := g) (z := f - (A - C)) hg
  have ez : -(f - (A - C)) = 0 + A - (0 + C) - f := by omega
  rw [ez] at ec
  generalize hq' : -((0 + A - (0 + C) - f) / g) = qq at ec e2 e3
  refine ⟨ex, ?_, fun hx0 => ?_⟩
  · have : qq * g ≤ S * g := Int.mul_le_mul_of_nonneg_right (by omega) (by omega)
    omega
  · have : S = qq := by omega
    rw [this]
    omega
theorem llAt_le {g f M : Int} : ∀ (l : Int) (xs : List (Int × Int)), l ≤ M → (∀ p ∈ xs, -((p.1 - p.2 - f) / g) ≤ M) → llAt g f l xs ≤ M
  | _, [], h, _ => h
  | l, (t, n) :: r, h, hx => llAt_le _ r (by have := hx (t, n) List.mem_cons_self; simp only at this; omega) fun p hp => hx p (List.mem_cons_of_mem _ hp)
theorem llGo_le {g f M : Int} : ∀ (l : Int) (xs : List (Int × Int)), 0 ≤ l → (∀ p ∈ xs, -((p.1 - p.2 - f) / g) ≤ M) → ∀ x ∈ llGo g f l xs, x ≤ M ∨ x ≤ 0
  | _, [], _, _, x, h => by cases h
  | l, (t, n) :: r, h0, hx, x, h => by
    rcases List.mem_cons.mp h with rfl | h
    · have := hx (t, n) List.mem_cons_self
      simp only at this
      omega
    · exact llGo_le _ r (by omega) (fun p hp => hx p (List.mem_cons_of_mem _ hp)) x h
theorem div_low {z g M : Int} (hg : 0 < g) (hz : -M ≤ z) (hM : 0 ≤ M) : -(z / g) ≤ M := by
  have : -M ≤ z / g := by
    rw [Int.le_ediv_iff_mul_le hg]
    have : M * 1 ≤ M * g := Int.mul_le_mul_of_nonneg_left (by omega) hM
    have e : -M * g = -(M * g) := Int.neg_mul M g
    omega
  omega
theorem sum_le {M : Int} : ∀ {l : List Int}, (∀ x ∈ l, 0 ≤ x ∧ x ≤ M) → 0 ≤ l.sum ∧ l.sum ≤ l.length * M
  | [], _ => by simp
  | x :: r, h => by
    have h1 := h x List.mem_cons_self
    have h2 := sum_le (l := r) fun y hy => h y (List.mem_cons_of_mem _ hy)
    have e : ((r.length + 1 : Nat) : Int) * M = r.length * M + M := by
      rw [Int.natCast_add, Int.add_mul]
      simp
    rw [List.sum_cons, List.length_cons, e]
    omega
theorem log_lt {x : Int} {n : Nat} (h0 : 0 ≤ x) (h : x < 2 ^ n) (hn : 0 < n) : x.natAbs.log2 < n := by
  by_cases e : x.natAbs = 0
  · rw [e]
    simpa using hn
  · rw [Nat.log2_lt e]
    have : ((x.natAbs : Nat) : Int) < ((2 ^ n : Nat) : Int) := by
      rw [Int.natAbs_of_nonneg h0]
      simpa using h
    exact Int.ofNat_lt.mp this
end N

--@uses least_right
namespace N
open PySem L2 VL TL
/-! ### numbers as texts -/
def figB (c : Nat) : Bool := decide (48 ≤ c) && decide (c ≤ 57)
/-- one to sixty figures, no nought ahead -/
def numB (z : Str) : Bool := decide (1 ≤ z.length) && (decide (z.length ≤ 60) && (z.cps.toList.all figB && (decide (z = "0") || !decide (z.cps.toList.head? = some 48))))
theorem numB_iff {z : Str} : numB z = true ↔ 1 ≤ z.length ∧ z.length ≤ 60 ∧ (z.cps.toList.all figB) = true ∧ (z = "0" ∨ z.cps.toList.head? ≠ some 48) := by
  unfold numB
  simp [Bool.and_eq_true]
theorem slen (z : Str) : z.length = z.cps.toList.length := Array.length_toList.symm
theorem fig_iff {c : Nat} : figB c = true ↔ 48 ≤ c ∧ c ≤ 57 := by
  unfold figB
  simp [Bool.and_eq_true]
theorem numB_val {z : Str} (h : numB z = true) : ∃ n, PySem.intText? z = some n := by
  obtain ⟨h1, h2, h3, _⟩ := numB_iff.mp h
  have hl := slen z
  exact ⟨_, PySem.intText_digits (fun c hc => fig_iff.mp (List.all_eq_true.mp h3 c hc)) (fun e => by rw [e] at hl; simp at hl; omega) (by omega)⟩
theorem figs_mem {c : Nat} : decide (c ∈ ("0123456789" : Str).cps.toList) = figB c := by
  have e : ("0123456789" : Str).cps.toList = [48, 49, 50, 51, 52, 53, 54, 55, 56, 57] := by decide +kernel
  rw [e]
  refine Bool.eq_iff_iff.mpr ?_
  rw [decide_eq_true_iff, fig_iff]
  simp only [List.mem_cons, List.not_mem_nil, or_false]
  omega
theorem numL_head : ∀ n : Nat, 0 < n → ∀ r, numL n ≠ 48 :: r := fun n => by
  induction n using Nat.strongRecOn with
  | ind n ih =>
    intro hn r e
    by_cases h : n < 10
    · rw [numL_lt h] at e
      have := (List.cons.inj e).1
      omega
    · rw [numL_step (by omega)] at e
      cases hd : numL (n / 10) with
      | nil => exact numL_ne _ hd
      | cons c s =>
        rw [hd, List.cons_append] at e
        have hc := (List.cons.inj e).1
        subst hc
        exact ih (n / 10) (by omega) (by omega) s hd
theorem num_text {n : Int} (h0 : 0 ≤ n) (h1 : n < 10 ^ 60) : numB (Str.ofString (toString n)) = true ∧ PySem.intText? (Str.ofString (toString n)) = some n ∧ (Str.ofString (toString n)).length ≤ 60 ∧ ∀ c ∈ (Str.ofString (toString n)).cps.toList, 48 ≤ c ∧ c ≤ 57 := by
  obtain ⟨m, rfl⟩ := Int.eq_ofNat_of_zero_le h0
  have hm : m < 10 ^ 60 := by
    have : ((m : Nat) : Int) < ((10 ^ 60 : Nat) : Int) := by exact h1
    exact Int.ofNat_lt.mp this
  have hl := numL_len (n := m) (k := 60) (by decide) hm
  have et : (Str.ofString (toString ((m : Nat) : Int))).cps.toList = numL m := tl_num m
  have el : (Str.ofString (toString ((m : Nat) : Int))).length = (numL m).length := by rw [slen, et]
  have hne := numL_ne m
  have hdig := numL_digits m
  refine ⟨numB_iff.mpr ⟨?_, by omega, ?_, ?_⟩, int_num (by omega), by omega, fun c hc => hdig c (by rw [← et]; exact hc)⟩
  · have := List.length_pos_iff.mpr hne
    omega
  · rw [et]
    exact List.all_eq_true.mpr fun c hc => fig_iff.mpr (hdig c hc)
  · by_cases q : m = 0
    · subst q
      exact .inl rfl
    · refine .inr fun e => ?_
      rw [et] at e
      cases hd : numL m with
      | nil => exact hne hd
      | cons c s =>
        rw [hd] at e
        cases e
        exact numL_head m (by omega) s hd
theorem starts0 {z : Str} : Txt.startswith z "0" = decide (z.cps.toList.head? = some 48) := by
  obtain ⟨⟨l⟩⟩ := z
  show (decide (0 + 1 ≤ l.length) && (Array.extract ⟨l⟩ 0 (0 + 1) == (#[48] : Array Nat))) = decide (l.head? = some 48)
  cases l with
  | nil => rfl
  | cons c r =>
    have e : (Array.extract ⟨c :: r⟩ 0 (0 + 1) : Array Nat) = #[c] := by simp
    rw [e]
    by_cases q : c = 48
    · subst q
      simp
    · have h1 : (#[c] == (#[48] : Array Nat)) = false := by simp [q]
      rw [h1, Bool.and_false]
      exact (decide_eq_false (by simp [q])).symm
/-- things that are no texts, as the laws put them in -/
inductive Odd : D → Prop
  | non : Odd .non
  | int (n : Int) : Odd (.int n)
  | lst (ds : List D) : Odd (.lst ds)
  | str {z : Str} : numB z = false → z.length ≤ 1000 → Odd (.str z)
theorem mulW {i j : Int} (h0 : 0 ≤ i) (h1 : i < 2 ^ 1000) (g0 : 0 ≤ j) (g1 : j < 2 ^ 1000) : CMulW i j := by
  have a := log_lt h0 h1 (by decide)
  have b := log_lt g0 g1 (by decide)
  show _ + _ < _
  omega
abbrev bigP : Int := 2305843009213693951
theorem mul_bd {x y a b : Int} (hx : 0 ≤ x) (hx1 : x < a) (hy : 0 ≤ y) (hy1 : y < b) : 0 ≤ x * y ∧ x * y < a * b := by
  refine ⟨Int.mul_nonneg hx hy, ?_⟩
  have h1 : x * y ≤ x * b := Int.mul_le_mul_of_nonneg_left (by omega) hx
  have h2 : x * b < a * b := Int.mul_lt_mul_of_pos_right hx1 (by omega)
  omega
end N

--@uses gen rows terms numtext
namespace N
open PySem L2 VL
/-! ### names of a letter some times and a sign of their own -/
def sfx12 : Str := "bcdfghjklmnp"
def sfxL : List Nat := [98, 99, 100, 102, 103, 104, 106, 107, 108, 109, 110, 112]
theorem sfx_at {k : Nat} (h : k < 12) : ∃ c, atI sfx12.cps.toList (k : Int) = some c ∧ sfxL[k]? = some c ∧ 97 ≤ c ∧ c ≤ 122 := by
  have key : ∀ j : Fin 12, ∃ c, sfx12.cps.toList[j.val]? = some c ∧ sfxL[j.val]? = some c ∧ 97 ≤ c ∧ c ≤ 122 := by decide +kernel
  obtain ⟨c, h1, h2, h3⟩ := key ⟨k, h⟩
  exact ⟨c, atI_nat h1, h2, h3⟩
/-- the names' last signs are unlike -/
structure Sfx (zs : List Str) : Prop where
  ok : ∀ z ∈ zs, NameOk z
  t : ∀ (i : Nat) z, zs[i]? = some z → z.cps.toList.getLast? = sfxL[i]?
theorem Sfx.nodup {zs : List Str} (h : Sfx zs) (hl : zs.length ≤ 12) : zs.Nodup := by
  have nd : sfxL.Nodup := by decide
  refine List.pairwise_iff_getElem.mpr fun i j hi hj hij e => ?_
  have h1 := h.t i _ (List.getElem?_eq_getElem hi)
  have h2 := h.t j _ (List.getElem?_eq_getElem hj)
  rw [e, h2] at h1
  have hi12 : i < sfxL.length := by show i < 12; omega
  have hj12 : j < sfxL.length := by show j < 12; omega
  have := (List.getElem?_inj hj12 nd).mp h1
  omega
theorem Sfx.nil : Sfx [] := ⟨fun z hz => (by cases hz), fun i z hi => by rw [List.getElem?_nil] at hi; cases hi⟩
theorem Sfx.snoc {zs : List Str} (h : Sfx zs) {y : Str} {c a : Nat} {n : Nat} (hy : y.cps.toList = List.replicate n a) (hn : n ≤ 7) (ha : 97 ≤ a ∧ a ≤ 122) (hc : sfxL[zs.length]? = some c) (hc2 : 97 ≤ c ∧ c ≤ 122) : Sfx (zs ++ [y ++ (⟨#[c]⟩ : Str)]) := by
  have e : (y ++ (⟨#[c]⟩ : Str)).cps.toList = List.replicate n a ++ [c] := by rw [str_app, hy]
  refine ⟨fun z hz' => ?_, fun i z hi => ?_⟩
  · rcases List.mem_append.mp hz' with hz' | hz'
    · exact h.ok z hz'
    · cases List.mem_singleton.mp hz'
      refine ⟨by rw [e, List.length_append]; exact Nat.le_add_left 1 _, by rw [e, List.length_append, List.length_replicate]; show n + 1 ≤ 8; omega, fun x hx => ?_⟩
      rw [e] at hx
      rcases List.mem_append.mp hx with hx | hx
      · rw [List.eq_of_mem_replicate hx]
        exact ha
      · cases List.mem_singleton.mp hx
        exact hc2
  · by_cases hlt : i < zs.length
    · rw [List.getElem?_append_left hlt] at hi
      exact h.t i z hi
    · have hi2 := (List.getElem?_eq_some_iff.mp hi).1
      rw [List.length_append] at hi2
      have hi3 : i = zs.length := by
        have : [y ++ (⟨#[c]⟩ : Str)].length = 1 := rfl
        omega
      subst hi3
      rw [List.getElem?_append_right (Nat.le_refl _), Nat.sub_self] at hi
      cases hi
      rw [e, List.getLast?_append, hc]
      rfl
end N

--@uses least_right
namespace N
open PySem L2 VL
/-! ### data of any kind, and what the program takes -/
/-- a whole number from a least one on -/
def isWhole (d : D) (k : Int) : Bool := match d with
  | .int i => decide (k ≤ i)
  | _ => false
def isDay (d : D) : Bool := match d with
  | .int i => decide (0 ≤ i) && decide (i ≤ 400)
  | _ => false
/-- data as the laws hand in -/
def D.isDat : D → Bool
  | .non => true
  | .bl _ => true
  | .int _ => true
  | .str _ => true
  | .tup _ => true
  | .lst _ => true
  | .dct _ => true
  | _ => false
inductive Any : D → Prop
  | non : Any .non
  | bl (b : Bool) : Any (.bl b)
  | int (i : Int) : Any (.int i)
  | str {z : Str} : z.length ≤ 1000 → Any (.str z)
  | tup {ds : List D} : ds.length ≤ 1000 → (∀ d ∈ ds, Any d) → Any (.tup ds)
  | lst (ds : List D) : Any (.lst ds)
  | dct (kvs : List (Key × D)) : Any (.dct kvs)
theorem Any.dat {d : D} (h : Any d) : D.isDat d = true := by cases h <;> rfl
def abcB (c : Nat) : Bool := decide (97 ≤ c) && decide (c ≤ 122)
def nameB : D → Bool
  | .str z => decide (1 ≤ z.length) && (decide (z.length ≤ 8) && z.cps.toList.all abcB)
  | _ => false
def comingB : D → Bool
  | .tup [a, b] => isDay a && isWhole b 0
  | _ => false
def partB : D → Bool
  | .tup [a, b] => nameB a && isWhole b 1
  | _ => false
def allB (p : D → Bool) (most : Int) : D → Bool
  | .tup ds => decide ((ds.length : Int) ≤ most) && ds.all p
  | _ => false
/-- the name at the head of a row -/
def headS : D → Str
  | .tup (.str z :: _) => z
  | _ => ""
def unlikeB : D → Bool
  | .tup ds => decide (ds.map headS).Nodup
  | _ => false
def topB (most : Int) : D → Bool
  | .int i => decide (i ≤ most)
  | _ => false
def wareB : D → Bool
  | .tup [nm, lag, gives, fl, st, com, parts] => nameB nm && (isWhole lag 0 && (topB 30 lag && (isWhole gives 1 && (isWhole fl 0 && (isWhole st 0 && (allB comingB 12 com && (allB partB 6 parts && unlikeB parts)))))))
  | _ => false
theorem abc_mem {c : Nat} : decide (c ∈ ("abcdefghijklmnopqrstuvwxyz" : Str).cps.toList) = abcB c := by
  have e : ("abcdefghijklmnopqrstuvwxyz" : Str).cps.toList = [97, 98, 99, 100, 101, 102, 103, 104, 105, 106, 107, 108, 109, 110, 111, 112, 113, 114, 115, 116, 117, 118, 119, 120, 121, 122] := by decide +kernel
  rw [e]
  unfold abcB
  refine Bool.eq_iff_iff.mpr ?_
  rw [decide_eq_true_iff, Bool.and_eq_true, decide_eq_true_iff, decide_eq_true_iff]
  simp only [List.mem_cons, List.not_mem_nil, or_false]
  omega
end N

--@uses any gen rows numtext
namespace N
open PySem L2 VL
/-! ### good wares are told as such; spoilt ones are none -/
theorem nameB_ok {z : Str} (h : NameOk z) : nameB (.str z) = true := by
  show (decide (1 ≤ z.length) && (decide (z.length ≤ 8) && z.cps.toList.all abcB)) = true
  have l := slen z
  have h1 := h.lo
  have h2 := h.hi
  have h3 : z.cps.toList.all abcB = true := List.all_eq_true.mpr fun c hc => by
    have := h.ab c hc
    unfold abcB
    rw [decide_eq_true this.1, decide_eq_true this.2]
    rfl
  rw [h3, decide_eq_true (by omega), decide_eq_true (by omega)]
  rfl
theorem isWhole_ok {n k : Int} (h : k ≤ n) : isWhole (.int n) k = true := decide_eq_true h
theorem comingB_ok {p : Int × Int} (h : (0 ≤ p.1 ∧ p.1 ≤ 400) ∧ Amt p.2) : comingB (pairD p) = true := by
  show ((decide (0 ≤ p.1) && decide (p.1 ≤ 400)) && decide (0 ≤ p.2)) = true
  rw [decide_eq_true h.1.1, decide_eq_true h.1.2, decide_eq_true h.2.1]
  rfl
theorem partB_ok {p : Str × Int} (h : NameOk p.1) (h1 : 1 ≤ p.2) : partB (partD p) = true := by
  show (nameB (.str p.1) && isWhole (.int p.2) 1) = true
  rw [nameB_ok h, isWhole_ok h1]
  rfl
theorem allB_ok {α : Type} {f : α → D} {p : D → Bool} {most : Int} {l : List α} (hl : (l.length : Int) ≤ most) (h : ∀ x ∈ l, p (f x) = true) : allB p most (.tup (l.map f)) = true := by
  show (decide (((l.map f).length : Int) ≤ most) && (l.map f).all p) = true
  rw [List.length_map, decide_eq_true hl, Bool.true_and, List.all_eq_true]
  intro d hd
  obtain ⟨x, hx, rfl⟩ := List.mem_map.mp hd
  exact h x hx
theorem heads_parts : ∀ ps : List (Str × Int), (ps.map partD).map headS = ps.map (·.1)
  | [] => rfl
  | p :: r => by
    rw [List.map_cons, List.map_cons, List.map_cons, heads_parts r]
    rfl
theorem unlikeB_parts (ps : List (Str × Int)) : unlikeB (.tup (ps.map partD)) = decide (ps.map (·.1)).Nodup := by
  show decide ((ps.map partD).map headS).Nodup = _
  rw [heads_parts]
theorem wareB_ok {w : Ware} (h : WareG w) (hp : ∀ p ∈ w.parts, NameOk p.1) : wareB (wareD w) = true := by
  show (nameB (.str w.nm) && (isWhole (.int w.lag) 0 && (topB 30 (.int w.lag) && (isWhole (.int w.gives) 1 && (isWhole (.int w.floor) 0 && (isWhole (.int w.stock) 0 && (allB comingB 12 (.tup (w.com.map pairD)) && (allB partB 6 (.tup (w.parts.map partD)) && unlikeB (.tup (w.parts.map partD)))))))))) = true
  have hc := h.cl
  have hpl := h.pl
  rw [nameB_ok h.nm, isWhole_ok h.lag.1, show topB 30 (.int w.lag) = true from decide_eq_true h.lag.2, isWhole_ok h.gives.1, isWhole_ok h.floor.1, isWhole_ok h.stock.1, allB_ok (by omega) (fun p q => comingB_ok (h.com p q)), allB_ok (by omega) (fun p q => partB_ok (hp p q) (h.parts p q).1), unlikeB_parts, decide_eq_true h.pn]
  rfl
theorem any_name {z : Str} (h : NameOk z) : Any (.str z) := .str (by have := h.hi; have := slen z; omega)
theorem any2 {y z : D} (hy : Any y) (hz : Any z) : Any (.tup [y, z]) := .tup (by show 2 ≤ 1000; decide) (fun d hd => by
  rcases List.mem_cons.mp hd with rfl | hd
  · exact hy
  · rw [List.mem_singleton.mp hd]
    exact hz)
theorem any_com {w : Ware} (h : WareG w) : ∀ d ∈ w.com.map pairD, Any d := fun d hd => by
  obtain ⟨p, _, rfl⟩ := List.mem_map.mp hd
  exact any2 (.int _) (.int _)
theorem any_parts {w : Ware} (hp : ∀ p ∈ w.parts, NameOk p.1) : ∀ d ∈ w.parts.map partD, Any d := fun d hd => by
  obtain ⟨p, hm, rfl⟩ := List.mem_map.mp hd
  exact any2 (any_name (hp p hm)) (.int _)
theorem any_comT {w : Ware} (h : WareG w) : Any (.tup (w.com.map pairD)) := .tup (by rw [List.length_map]; have := h.cl; omega) (any_com h)
theorem any_partsT {w : Ware} (h : WareG w) (hp : ∀ p ∈ w.parts, NameOk p.1) : Any (.tup (w.parts.map partD)) := .tup (by rw [List.length_map]; have := h.pl; omega) (any_parts hp)
theorem any_of {ds : List D} (hl : ds.length ≤ 1000) (h : ∀ d ∈ ds, Any d) : Any (.tup ds) := .tup hl h
inductive AllA : List D → Prop
  | nil : AllA []
  | cons {d : D} {ds : List D} : Any d → AllA ds → AllA (d :: ds)
theorem AllA.mem : ∀ {ds : List D}, AllA ds → ∀ d ∈ ds, Any d
  | _, .nil, d, h => by cases h
  | _, .cons h r, d, q => by
    rcases List.mem_cons.mp q with rfl | q
    · exact h
    · exact r.mem d q
theorem any_fields {w : Ware} (h : WareG w) (hp : ∀ p ∈ w.parts, NameOk p.1) : AllA [.str w.nm, .int w.lag, .int w.gives, .int w.floor, .int w.stock, .tup (w.com.map pairD), .tup (w.parts.map partD)] :=
  .cons (any_name h.nm) (.cons (.int _) (.cons (.int _) (.cons (.int _) (.cons (.int _) (.cons (any_comT h) (.cons (any_partsT h hp) .nil))))))
theorem any_ware {w : Ware} (h : WareG w) (hp : ∀ p ∈ w.parts, NameOk p.1) : Any (wareD w) := .tup (by show 7 ≤ 1000; decide) (any_fields h hp).mem
section
variable {a b c d e f g : D}
theorem wareB_eq : wareB (.tup [a, b, c, d, e, f, g]) = (nameB a && (isWhole b 0 && (topB 30 b && (isWhole c 1 && (isWhole d 0 && (isWhole e 0 && (allB comingB 12 f && (allB partB 6 g && unlikeB g)))))))) := rfl
theorem bad_nm (h : nameB a = false) : wareB (.tup [a, b, c, d, e, f, g]) = false := by
  rw [wareB_eq, h]; rfl
theorem bad_lag (h : (isWhole b 0 && topB 30 b) = false) : wareB (.tup [a, b, c, d, e, f, g]) = false := by
  rw [wareB_eq, ← Bool.and_assoc (isWhole b 0), h]; simp
theorem bad_gives (h : isWhole c 1 = false) : wareB (.tup [a, b, c, d, e, f, g]) = false := by
  rw [wareB_eq, h]; simp
theorem bad_floor (h : isWhole d 0 = false) : wareB (.tup [a, b, c, d, e, f, g]) = false := by
  rw [wareB_eq, h]; simp
theorem bad_stock (h : isWhole e 0 = false) : wareB (.tup [a, b, c, d, e, f, g]) = false := by
  rw [wareB_eq, h]; simp
theorem bad_com (h : allB comingB 12 f = false) : wareB (.tup [a, b, c, d, e, f, g]) = false := by
  rw [wareB_eq, h]; simp
theorem bad_parts (h : allB partB 6 g = false) : wareB (.tup [a, b, c, d, e, f, g]) = false := by
  rw [wareB_eq, h]; simp
theorem bad_unlike (h : unlikeB g = false) : wareB (.tup [a, b, c, d, e, f, g]) = false := by
  rw [wareB_eq, h]; simp
end
end N

--@uses anyware shop terms
namespace N
open PySem L2 VL
/-! ### shops are told as such; spoilt ones are none -/
def wantB : D → Bool
  | .tup [a, b, c] => nameB a && (isDay b && isWhole c 0)
  | _ => false
def dsOf : D → List D
  | .tup ds => ds
  | _ => []
def partsD : D → List D
  | .tup [_, _, _, _, _, _, g] => dsOf g
  | _ => []
def inB (zs : List Str) (ds : List D) : Bool := ds.all fun d => decide (headS d ∈ zs)
def shopB : D → Bool
  | .tup [ws, vs] => allB wareB 12 ws && (!(dsOf ws).isEmpty && (allB wantB 20 vs && (unlikeB ws && (inB ((dsOf ws).map headS) (dsOf vs) && (dsOf ws).all fun w => inB ((dsOf ws).map headS) (partsD w)))))
  | _ => false
theorem shopB_eq (ws vs : D) : shopB (.tup [ws, vs]) = (allB wareB 12 ws && (!(dsOf ws).isEmpty && (allB wantB 20 vs && (unlikeB ws && (inB ((dsOf ws).map headS) (dsOf vs) && (dsOf ws).all fun w => inB ((dsOf ws).map headS) (partsD w)))))) := rfl
theorem shop_not : ∀ ds : List D, ds.length ≠ 2 → shopB (.tup ds) = false
  | [], _ => rfl
  | [_], _ => rfl
  | [_, _], h => absurd rfl h
  | _ :: _ :: _ :: _, _ => rfl
theorem want_not : ∀ ds : List D, ds.length ≠ 3 → wantB (.tup ds) = false
  | [], _ => rfl
  | [_], _ => rfl
  | [_, _], _ => rfl
  | [_, _, _], h => absurd rfl h
  | _ :: _ :: _ :: _ :: _, _ => rfl
theorem all_tup {p : D → Bool} {most : Int} {d : D} (h : allB p most d = true) : ∃ ds, d = .tup ds ∧ (ds.length : Int) ≤ most ∧ ∀ x ∈ ds, p x = true := by
  unfold allB at h
  split at h
  · rename_i ds
    rw [Bool.and_eq_true] at h
    exact ⟨ds, rfl, of_decide_eq_true h.1, List.all_eq_true.mp h.2⟩
  · cases h
theorem name_str {d : D} (h : nameB d = true) : ∃ z, d = .str z := by
  unfold nameB at h
  split at h
  · exact ⟨_, rfl⟩
  · cases h
theorem ware_shape {d : D} (h : wareB d = true) : ∃ (z : Str) (b c e f g : D) (ps : List D), d = .tup [.str z, b, c, e, f, g, .tup ps] ∧ (ps.length : Int) ≤ 6 ∧ ∀ p ∈ ps, partB p = true := by
  unfold wareB at h
  split at h
  · rename_i nm lag gives fl st com parts
    simp only [Bool.and_eq_true] at h
    obtain ⟨z, rfl⟩ := name_str h.1
    obtain ⟨ps, rfl, h1, h2⟩ := all_tup h.2.2.2.2.2.2.2.1
    exact ⟨z, _, _, _, _, _, ps, rfl, h1, h2⟩
  · cases h
theorem want_shape {d : D} (h : wantB d = true) : ∃ (z : Str) (b c : D), d = .tup [.str z, b, c] := by
  unfold wantB at h
  split at h
  · rename_i a b c
    rw [Bool.and_eq_true] at h
    obtain ⟨z, rfl⟩ := name_str h.1
    exact ⟨z, b, c, rfl⟩
  · cases h
theorem wantB_ok {v : Want} {names : List Str} (hn : NameOk v.1) (h : (0 ≤ v.2.1 ∧ v.2.1 ≤ 400) ∧ Amt v.2.2) : wantB (wantD v) = true := by
  show (nameB (.str v.1) && ((decide (0 ≤ v.2.1) && decide (v.2.1 ≤ 400)) && decide (0 ≤ v.2.2))) = true
  rw [nameB_ok hn, decide_eq_true h.1.1, decide_eq_true h.1.2, decide_eq_true h.2.1]
  rfl
theorem heads_wares : ∀ ws : List Ware, (ws.map wareD).map headS = ws.map (·.nm)
  | [] => rfl
  | p :: r => by
    rw [List.map_cons, List.map_cons, List.map_cons, heads_wares r]
    rfl
theorem inB_ok {α : Type} {f : α → D} {g : α → Str} (hg : ∀ x, headS (f x) = g x) {zs : List Str} {l : List α} (h : ∀ x ∈ l, g x ∈ zs) : inB zs (l.map f) = true := by
  unfold inB
  rw [List.all_eq_true]
  intro d hd
  obtain ⟨x, hx, rfl⟩ := List.mem_map.mp hd
  rw [hg]
  exact decide_eq_true (h x hx)
theorem inB_not {zs : List Str} {ds : List D} {d : D} (hd : d ∈ ds) (h : headS d ∉ zs) : inB zs ds = false := by
  cases e : inB zs ds with
  | false => rfl
  | true => exact absurd (of_decide_eq_true (List.all_eq_true.mp e d hd)) h
/-- a shop as the laws draw it; the names are names -/
structure ShopN (s : Shop) : Prop where
  g : ShopG s
  nm : ∀ z ∈ s.names, NameOk z
theorem ShopN.parts {s : Shop} (h : ShopN s) {w : Ware} (hw : w ∈ s.ws) : ∀ p ∈ w.parts, NameOk p.1 := fun p hp => h.nm _ (h.g.sub w hw p hp)
theorem shopB_ok {s : Shop} (h : ShopN s) : shopB (shopD s) = true := by
  have hg := h.g
  have h12 := hg.hi
  have h1 := hg.lo
  have hwl := hg.wants.len
  show shopB (.tup [.tup (s.ws.map wareD), .tup (s.wants.map wantD)]) = true
  have e1 : (!(dsOf (.tup (s.ws.map wareD))).isEmpty) = true := by
    cases e : s.ws with
    | nil => rw [e] at h1; exact absurd h1 (by decide)
    | cons a b => rfl
  have e2 : unlikeB (.tup (s.ws.map wareD)) = true := by
    show decide ((s.ws.map wareD).map headS).Nodup = true
    rw [heads_wares]
    exact decide_eq_true hg.nd
  have e3 : (dsOf (.tup (s.ws.map wareD))).map headS = s.names := heads_wares _
  rw [shopB_eq, allB_ok (by omega) (fun w hw => wareB_ok (hg.ws w hw) (h.parts hw)), e1, allB_ok (by omega) (fun v hv => wantB_ok (names := s.names) (h.nm _ (hg.wants.ok v hv).1) (hg.wants.ok v hv).2), e2, e3]
  rw [show inB s.names (dsOf (.tup (s.wants.map wantD))) = true from inB_ok (g := fun v : Want => v.1) (fun _ => rfl) (fun v hv => (hg.wants.ok v hv).1)]
  rw [show ((dsOf (.tup (s.ws.map wareD))).all fun w => inB s.names (partsD w)) = true from List.all_eq_true.mpr fun d hd => by
    obtain ⟨w, hw, rfl⟩ := List.mem_map.mp hd
    exact inB_ok (g := fun p : Str × Int => p.1) (fun _ => rfl) (fun p hp => hg.sub w hw p hp)]
  rfl
theorem any_want {v : Want} (h : NameOk v.1) : Any (wantD v) := .tup (by show 3 ≤ 1000; decide) (AllA.mem (.cons (any_name h) (.cons (.int _) (.cons (.int _) .nil))))
theorem any_wares {s : Shop} (h : ShopN s) : ∀ d ∈ s.ws.map wareD, Any d := fun d hd => by
  obtain ⟨w, hw, rfl⟩ := List.mem_map.mp hd
  exact any_ware (h.g.ws w hw) (h.parts hw)
theorem any_wants {s : Shop} (h : ShopN s) : ∀ d ∈ s.wants.map wantD, Any d := fun d hd => by
  obtain ⟨v, hv, rfl⟩ := List.mem_map.mp hd
  exact any_want (h.nm _ (h.g.wants.ok v hv).1)
theorem any_waresT {s : Shop} (h : ShopN s) : Any (.tup (s.ws.map wareD)) := .tup (by rw [List.length_map]; have := h.g.hi; omega) (any_wares h)
theorem any_wantsT {s : Shop} (h : ShopN s) : Any (.tup (s.wants.map wantD)) := .tup (by rw [List.length_map]; have := h.g.wants.len; omega) (any_wants h)
theorem any_shop {s : Shop} (h : ShopN s) : Any (shopD s) := any2 (any_waresT h) (any_wantsT h)
section
variable {ws vs : D}
theorem badS_wares (h : allB wareB 12 ws = false) : shopB (.tup [ws, vs]) = false := by
  rw [shopB_eq, h]; rfl
theorem badS_none (h : (dsOf ws).isEmpty = true) : shopB (.tup [ws, vs]) = false := by
  rw [shopB_eq, h]; simp
theorem badS_wants (h : allB wantB 20 vs = false) : shopB (.tup [ws, vs]) = false := by
  rw [shopB_eq, h]; simp
theorem badS_unlike (h : unlikeB ws = false) : shopB (.tup [ws, vs]) = false := by
  rw [shopB_eq, h]; simp
theorem badS_want (h : inB ((dsOf ws).map headS) (dsOf vs) = false) : shopB (.tup [ws, vs]) = false := by
  rw [shopB_eq, h]; simp
theorem badS_part (h : ((dsOf ws).all fun w => inB ((dsOf ws).map headS) (partsD w)) = false) : shopB (.tup [ws, vs]) = false := by
  rw [shopB_eq, h]; simp
end
inductive AllP (P : D → Prop) : List D → Prop
  | nil : AllP P []
  | cons {d : D} {ds : List D} : P d → AllP P ds → AllP P (d :: ds)
theorem AllP.mem {P : D → Prop} : ∀ {ds : List D}, AllP P ds → ∀ d ∈ ds, P d
  | _, .nil, d, h => by cases h
  | _, .cons h r, d, q => by
    rcases List.mem_cons.mp q with rfl | q
    · exact h
    · exact r.mem d q
theorem at_in {P : D → Prop} {l : List D} {q : Int} (q0 : 0 ≤ q) (q1 : q < l.length) (h : AllP P l) : ∃ u, atI l q = some u ∧ P u := by
  obtain ⟨q, rfl⟩ := Int.eq_ofNat_of_zero_le q0
  have hq : q < l.length := by omega
  exact ⟨l[q], atI_nat (List.getElem?_eq_getElem hq), h.mem _ (List.getElem_mem hq)⟩
theorem allB_mem {p : D → Bool} {m : Int} {ds : List D} {d : D} (hd : d ∈ ds) (h : p d = false) : allB p m (.tup ds) = false := by
  show (_ && ds.all p) = false
  have : ds.all p = false := by
    cases e : ds.all p with
    | false => rfl
    | true =>
      have := List.all_eq_true.mp e d hd
      rw [h] at this
      cases this
  rw [this, Bool.and_false]
theorem allB_long {p : D → Bool} {m : Int} {ds : List D} (h : m < ds.length) : allB p m (.tup ds) = false := by
  show (decide ((ds.length : Int) ≤ m) && _) = false
  rw [decide_eq_false (by omega)]
  rfl
theorem any3 {x y z : D} (hx : Any x) (hy : Any y) (hz : Any z) : Any (.tup [x, y, z]) := .tup (by show 3 ≤ 1000; decide) (AllA.mem (.cons hx (.cons hy (.cons hz .nil))))
theorem any1 {x : D} (hx : Any x) : Any (.tup [x]) := .tup (by show 1 ≤ 1000; decide) (AllA.mem (.cons hx .nil))
theorem any0 : Any (.tup []) := .tup (Nat.zero_le _) (fun d hd => by cases hd)
theorem cutD_takeN (l : List D) (k : Nat) : cutD l none (some (k : Int)) = l.take k := by
  have := cutD_take id l (b := k) (by omega)
  rw [List.map_id, List.map_id] at this
  exact this
theorem cutD_dropN (l : List D) (k : Nat) : cutD l (some (k : Int)) none = l.drop k := by
  have := cutD_drop id l (a := k) (by omega)
  rw [List.map_id, List.map_id] at this
  exact this
end N

--@uses numtext anyshop
--@import HandS.Text
namespace N
open PySem L2 VL TL
/-! ### rows as texts -/
/-- the number that a word writes -/
def numV (z : Str) : Int := (PySem.intText? z).getD 0
def nameS (z : Str) : Bool := nameB (.str z)
/-- how many names and numbers a row has behind its word -/
def formOf (z : Str) : Option (Nat × Nat) := if z = "ware" then some (1, 4) else if z = "coming" then some (1, 2) else if z = "part" then some (2, 1) else if z = "want" then some (1, 2) else none
def formTab : List (Str × List V) := [("ware", [.int 1, .int 4]), ("coming", [.int 1, .int 2]), ("part", [.int 2, .int 1]), ("want", [.int 1, .int 2])]
theorem form_mem {z : Str} {n m : Nat} (h : formOf z = some (n, m)) : (z, [V.int (n : Int), .int (m : Int)]) ∈ formTab ∧ 1 ≤ n ∧ n ≤ 2 ∧ 1 ≤ m ∧ m ≤ 4 := by
  unfold formOf at h
  split at h
  · rename_i e
    cases h
    subst e
    exact ⟨.head _, by decide⟩
  · split at h
    · rename_i e
      cases h
      subst e
      exact ⟨.tail _ (.head _), by decide⟩
    · split at h
      · rename_i e
        cases h
        subst e
        exact ⟨.tail _ (.tail _ (.head _)), by decide⟩
      · split at h
        · rename_i e
          cases h
          subst e
          exact ⟨.tail _ (.tail _ (.tail _ (.head _))), by decide⟩
        · cases h
/-- what a row's words tell -/
def parseRow : List Str → Option (List D)
  | [] => none
  | z :: r => match formOf z with
    | none => none
    | some (n, m) => if decide (r.length = n + m) && ((r.take n).all nameS && (r.drop n).all numB) then some (.str z :: (r.take n).map D.str ++ (r.drop n).map fun w => D.int (numV w)) else none
theorem parse_row {W : List Str} {ds : List D} (h : parseRow W = some ds) : ∃ z r n m, W = z :: r ∧ formOf z = some (n, m) ∧ r.length = n + m ∧ (∀ w ∈ r.take n, nameS w = true) ∧ (∀ w ∈ r.drop n, numB w = true) ∧ ds = .str z :: (r.take n).map D.str ++ (r.drop n).map fun w => D.int (numV w) := by
  cases W with
  | nil => cases h
  | cons z r =>
    unfold parseRow at h
    dsimp only at h
    cases hf : formOf z with
    | none =>
      rw [hf] at h
      cases h
    | some p =>
      obtain ⟨n, m⟩ := p
      rw [hf] at h
      dsimp only at h
      split at h
      · rename_i hb
        rw [Bool.and_eq_true, Bool.and_eq_true] at hb
        exact ⟨z, r, n, m, rfl, hf, of_decide_eq_true hb.1, List.all_eq_true.mp hb.2.1, List.all_eq_true.mp hb.2.2, (Option.some.inj h).symm⟩
      · cases h
theorem nameS_len {w : Str} (h : nameS w = true) : w.length ≤ 8 := by
  have h : (decide (1 ≤ w.length) && (decide (w.length ≤ 8) && w.cps.toList.all abcB)) = true := h
  rw [Bool.and_eq_true, Bool.and_eq_true] at h
  exact of_decide_eq_true h.2.1
end N

--@uses text gen
namespace N
open PySem L2 VL TL
/-! ### a shop's rows -/
def numT (n : Int) : Str := Str.ofString (toString n)
inductive RowV where
  | ware (nm : Str) (a b c d : Int) | coming (nm : Str) (d a : Int) | part (nm p : Str) (a : Int) | want (nm : Str) (d a : Int)
abbrev NumOk (n : Int) : Prop := 0 ≤ n ∧ n < 10 ^ 60
def RowV.words : RowV → List Str
  | .ware nm a b c d => ["ware", nm, numT a, numT b, numT c, numT d]
  | .coming nm d a => ["coming", nm, numT d, numT a]
  | .part nm p a => ["part", nm, p, numT a]
  | .want nm d a => ["want", nm, numT d, numT a]
def RowV.ds : RowV → List D
  | .ware nm a b c d => [.str "ware", .str nm, .int a, .int b, .int c, .int d]
  | .coming nm d a => [.str "coming", .str nm, .int d, .int a]
  | .part nm p a => [.str "part", .str nm, .str p, .int a]
  | .want nm d a => [.str "want", .str nm, .int d, .int a]
abbrev RowV.d (r : RowV) : D := .lst r.ds
def RowV.nm : RowV → Str
  | .ware nm _ _ _ _ => nm
  | .coming nm _ _ => nm
  | .part nm _ _ => nm
  | .want nm _ _ => nm
def RowV.ok : RowV → Prop
  | .ware nm a b c d => NameOk nm ∧ NumOk a ∧ NumOk b ∧ NumOk c ∧ NumOk d
  | .coming nm d a => NameOk nm ∧ NumOk d ∧ NumOk a
  | .part nm p a => NameOk nm ∧ NameOk p ∧ NumOk a
  | .want nm d a => NameOk nm ∧ NumOk d ∧ NumOk a
def RowV.line (r : RowV) : Str := Txt.join " " r.words
theorem numT_ok {n : Int} (h : NumOk n) : numB (numT n) = true ∧ numV (numT n) = n ∧ (numT n).length ≤ 60 ∧ ∀ c ∈ (numT n).cps.toList, 48 ≤ c ∧ c ≤ 57 := by
  obtain ⟨h1, h2, h3, h4⟩ := num_text h.1 h.2
  exact ⟨h1, by unfold numV; rw [show PySem.intText? (numT n) = some n from h2]; rfl, h3, h4⟩
theorem RowV.nameOk {r : RowV} (h : r.ok) : NameOk r.nm := by cases r <;> exact h.1
theorem parse_words {r : RowV} (h : r.ok) : parseRow r.words = some r.ds := by
  have fw : formOf "ware" = some (1, 4) := by decide
  have fc : formOf "coming" = some (1, 2) := by decide
  have fp : formOf "part" = some (2, 1) := by decide
  have ft : formOf "want" = some (1, 2) := by decide
  cases r with
  | ware nm a b c d =>
    obtain ⟨h1, h2, h3, h4, h5⟩ := h
    have n2 := numT_ok h2
    have n3 := numT_ok h3
    have n4 := numT_ok h4
    have n5 := numT_ok h5
    show parseRow ("ware" :: [nm, numT a, numT b, numT c, numT d]) = _
    unfold parseRow
    dsimp only
    rw [fw]
    dsimp only
    rw [if_pos (by
      show (decide (5 = 1 + 4) && ([nm].all nameS && [numT a, numT b, numT c, numT d].all numB)) = true
      simp only [List.all_cons, List.all_nil, n2.1, n3.1, n4.1, n5.1, show nameS nm = true from nameB_ok h1]
      rfl)]
    show some [D.str "ware", .str nm, .int (numV (numT a)), .int (numV (numT b)), .int (numV (numT c)), .int (numV (numT d))] = _
    rw [n2.2.1, n3.2.1, n4.2.1, n5.2.1]
    rfl
  | coming nm d a =>
    obtain ⟨h1, h2, h3⟩ := h
    have n2 := numT_ok h2
    have n3 := numT_ok h3
    show parseRow ("coming" :: [nm, numT d, numT a]) = _
    unfold parseRow
    dsimp only
    rw [fc]
    dsimp only
    rw [if_pos (by
      show (decide (3 = 1 + 2) && ([nm].all nameS && [numT d, numT a].all numB)) = true
      simp only [List.all_cons, List.all_nil, n2.1, n3.1, show nameS nm = true from nameB_ok h1]
      rfl)]
    show some [D.str "coming", .str nm, .int (numV (numT d)), .int (numV (numT a))] = _
    rw [n2.2.1, n3.2.1]
    rfl
  | part nm p a =>
    obtain ⟨h1, h2, h3⟩ := h
    have n3 := numT_ok h3
    show parseRow ("part" :: [nm, p, numT a]) = _
    unfold parseRow
    dsimp only
    rw [fp]
    dsimp only
    rw [if_pos (by
      show (decide (3 = 2 + 1) && ([nm, p].all nameS && [numT a].all numB)) = true
      simp only [List.all_cons, List.all_nil, n3.1, show nameS nm = true from nameB_ok h1, show nameS p = true from nameB_ok h2]
      rfl)]
    show some [D.str "part", .str nm, .str p, .int (numV (numT a))] = _
    rw [n3.2.1]
    rfl
  | want nm d a =>
    obtain ⟨h1, h2, h3⟩ := h
    have n2 := numT_ok h2
    have n3 := numT_ok h3
    show parseRow ("want" :: [nm, numT d, numT a]) = _
    unfold parseRow
    dsimp only
    rw [ft]
    dsimp only
    rw [if_pos (by
      show (decide (3 = 1 + 2) && ([nm].all nameS && [numT d, numT a].all numB)) = true
      simp only [List.all_cons, List.all_nil, n2.1, n3.1, show nameS nm = true from nameB_ok h1]
      rfl)]
    show some [D.str "want", .str nm, .int (numV (numT d)), .int (numV (numT a))] = _
    rw [n2.2.1, n3.2.1]
    rfl
/-- words of signs that are neither blanks nor line ends -/
def Plain (z : Str) : Prop := z.length ≤ 60 ∧ ∀ c ∈ z.cps.toList, c ≠ 32 ∧ c ≠ 10
theorem plain_name {z : Str} (h : NameOk z) : Plain z := ⟨by have := h.hi; have := slen z; omega, fun c hc => by have := h.ab c hc; omega⟩
theorem plain_num {n : Int} (h : NumOk n) : Plain (numT n) := ⟨(numT_ok h).2.2.1, fun c hc => by have := (numT_ok h).2.2.2 c hc; omega⟩
theorem plain_w {z : Str} (h : (z = "ware" ∨ z = "coming") ∨ (z = "part" ∨ z = "want")) : Plain z := by
  rcases h with (rfl | rfl) | (rfl | rfl) <;> exact ⟨by decide, by decide +kernel⟩
theorem words_plain {r : RowV} (h : r.ok) : r.words.length ≤ 6 ∧ ∀ w ∈ r.words, Plain w := by
  cases r with
  | ware nm a b c d =>
    obtain ⟨h1, h2, h3, h4, h5⟩ := h
    refine ⟨by show 6 ≤ 6; decide, fun w hw => ?_⟩
    simp only [RowV.words, List.mem_cons, List.not_mem_nil, or_false] at hw
    rcases hw with rfl | rfl | rfl | rfl | rfl | rfl
    · exact plain_w (.inl (.inl rfl))
    · exact plain_name h1
    · exact plain_num h2
    · exact plain_num h3
    · exact plain_num h4
    · exact plain_num h5
  | coming nm d a =>
    obtain ⟨h1, h2, h3⟩ := h
    refine ⟨by show 4 ≤ 6; decide, fun w hw => ?_⟩
    simp only [RowV.words, List.mem_cons, List.not_mem_nil, or_false] at hw
    rcases hw with rfl | rfl | rfl | rfl
    · exact plain_w (.inl (.inr rfl))
    · exact plain_name h1
    · exact plain_num h2
    · exact plain_num h3
  | part nm p a =>
    obtain ⟨h1, h2, h3⟩ := h
    refine ⟨by show 4 ≤ 6; decide, fun w hw => ?_⟩
    simp only [RowV.words, List.mem_cons, List.not_mem_nil, or_false] at hw
    rcases hw with rfl | rfl | rfl | rfl
    · exact plain_w (.inr (.inl rfl))
    · exact plain_name h1
    · exact plain_name h2
    · exact plain_num h3
  | want nm d a =>
    obtain ⟨h1, h2, h3⟩ := h
    refine ⟨by show 4 ≤ 6; decide, fun w hw => ?_⟩
    simp only [RowV.words, List.mem_cons, List.not_mem_nil, or_false] at hw
    rcases hw with rfl | rfl | rfl | rfl
    · exact plain_w (.inr (.inr rfl))
    · exact plain_name h1
    · exact plain_num h2
    · exact plain_num h3
theorem words_ne (r : RowV) : r.words ≠ [] := by cases r <;> simp [RowV.words]
theorem split_line {r : RowV} (h : r.ok) : Txt.split r.line " " = r.words :=
  split_join (s := 32) (S := []) (by rfl) (by decide +kernel) (words_ne r) (fun w hw hm => ((words_plain h).2 w hw).2 32 hm |>.1 rfl)
theorem join_len (y : Str) (ws : List Str) : (Txt.join y ws).length ≤ (ws.map (·.length)).sum + ws.length * y.length := by
  rw [join_eq]
  exact StrLaws.join_length_le y ws
theorem sum_nat {l : List Nat} {M : Nat} (h : ∀ x ∈ l, x ≤ M) : l.sum ≤ l.length * M := by
  induction l with
  | nil => simp
  | cons x r ih =>
    have h1 := h x List.mem_cons_self
    have h2 := ih fun y hy => h y (List.mem_cons_of_mem _ hy)
    rw [List.sum_cons, List.length_cons, Nat.succ_mul]
    omega
theorem words_sum {ws : List Str} {M : Nat} (h : ∀ w ∈ ws, w.length ≤ M) : (ws.map (·.length)).sum ≤ ws.length * M := by
  have := sum_nat (l := ws.map (·.length)) (M := M) fun x hx => by
    obtain ⟨w, hw, rfl⟩ := List.mem_map.mp hx
    exact h w hw
  rw [List.length_map] at this
  exact this
theorem line_len {r : RowV} (h : r.ok) : r.line.length ≤ 366 := by
  obtain ⟨h1, h2⟩ := words_plain h
  have a := join_len " " r.words
  have b := words_sum (ws := r.words) (M := 60) fun w hw => (h2 w hw).1
  have e : (" " : Str).length = 1 := rfl
  rw [e] at a
  show (Txt.join " " r.words).length ≤ 366
  omega
theorem join_mem {y : Str} : ∀ {ws : List Str} {c : Nat}, c ∈ (Str.join y ws).cps.toList → c ∈ y.cps.toList ∨ ∃ w ∈ ws, c ∈ w.cps.toList
  | [], c, h => by simp [Str.join, Str.empty] at h
  | [x], c, h => .inr ⟨x, .head _, h⟩
  | x :: z :: r, c, h => by
    have h : c ∈ (x ++ y ++ Str.join y (z :: r)).cps.toList := h
    rw [str_app, str_app] at h
    rcases List.mem_append.mp h with h | h
    · rcases List.mem_append.mp h with h | h
      · exact .inr ⟨x, .head _, h⟩
      · exact .inl h
    · rcases join_mem h with h | ⟨w, hw, hc⟩
      · exact .inl h
      · exact .inr ⟨w, .tail _ hw, hc⟩
theorem line_10 {r : RowV} (h : r.ok) : 10 ∉ r.line.cps.toList := fun hm => by
  have hm : 10 ∈ (Txt.join " " r.words).cps.toList := hm
  rw [join_eq] at hm
  rcases join_mem hm with h1 | ⟨w, hw, hc⟩
  · have : (" " : Str).cps.toList = [32] := rfl
    rw [this] at h1
    simp at h1
  · exact ((words_plain h).2 w hw).2 10 hc |>.2 rfl
def textOf (rs : List RowV) : Str := Txt.join "\n" (rs.map RowV.line)
theorem split_text {rs : List RowV} (hne : rs ≠ []) (h : ∀ r ∈ rs, r.ok) : Txt.split (textOf rs) "\n" = rs.map RowV.line :=
  split_join (s := 10) (S := []) (by rfl) (by decide +kernel) (fun e => hne (List.map_eq_nil_iff.mp e)) (fun w hw hm => by
    obtain ⟨r, hr, rfl⟩ := List.mem_map.mp hw
    exact line_10 (h r hr) hm)
theorem text_len {rs : List RowV} (h : ∀ r ∈ rs, r.ok) : (textOf rs).length ≤ rs.length * 367 := by
  have a := join_len "\n" (rs.map RowV.line)
  have b := words_sum (ws := rs.map RowV.line) (M := 366) fun w hw => by
    obtain ⟨r, hr, rfl⟩ := List.mem_map.mp hw
    exact line_len (h r hr)
  have e : ("\n" : Str).length = 1 := rfl
  rw [e] at a
  rw [List.length_map] at a b
  show (Txt.join "\n" (rs.map RowV.line)).length ≤ _
  omega
/-! ### the shop that rows write -/
def RowV.com? (nm : Str) : RowV → Option (Int × Int)
  | .coming x d a => if x = nm then some (d, a) else none
  | _ => none
def RowV.part? (nm : Str) : RowV → Option (Str × Int)
  | .part x p a => if x = nm then some (p, a) else none
  | _ => none
def RowV.want? : RowV → Option Want
  | .want x d a => some (x, d, a)
  | _ => none
def comsV (nm : Str) (rs : List RowV) : List (Int × Int) := rs.filterMap (RowV.com? nm)
def partsV (nm : Str) (rs : List RowV) : List (Str × Int) := rs.filterMap (RowV.part? nm)
def RowV.ware? (rs : List RowV) : RowV → Option Ware
  | .ware nm a b c d => some ⟨nm, a, b, c, d, comsV nm rs, partsV nm rs⟩
  | _ => none
def RowV.head? : RowV → Option Str
  | .ware nm _ _ _ _ => some nm
  | _ => none
def headsV (rs : List RowV) : List Str := rs.filterMap RowV.head?
def shopOf (rs : List RowV) : Shop := ⟨rs.filterMap (RowV.ware? rs), rs.filterMap RowV.want?⟩
theorem any_shopOf {rs : List RowV} (h : ∀ r ∈ rs, r.ok) (hl : rs.length ≤ 1000) : Any (shopD (shopOf rs)) := by
  have fl : ∀ {α : Type} (f : RowV → Option α), (rs.filterMap f).length ≤ 1000 := fun f => Nat.le_trans (List.length_filterMap_le f rs) hl
  refine any2 (.tup (by rw [List.length_map]; exact fl _) fun d hd => ?_) (.tup (by rw [List.length_map]; exact fl _) fun d hd => ?_)
  · obtain ⟨w, hw, rfl⟩ := List.mem_map.mp hd
    obtain ⟨r, hr, e⟩ := List.mem_filterMap.mp hw
    cases r with
    | ware nm a b c d =>
      cases e
      have hnm := (h _ hr).1
      refine .tup (by show 7 ≤ 1000; decide) (AllA.mem (.cons (any_name hnm) (.cons (.int _) (.cons (.int _) (.cons (.int _) (.cons (.int _) (.cons (.tup (by rw [List.length_map]; exact fl _) fun d hd => ?_) (.cons (.tup (by rw [List.length_map]; exact fl _) fun d hd => ?_) .nil))))))))
      · obtain ⟨p, _, rfl⟩ := List.mem_map.mp hd
        exact any2 (.int _) (.int _)
      · obtain ⟨p, hp, rfl⟩ := List.mem_map.mp hd
        obtain ⟨q, hq, e⟩ := List.mem_filterMap.mp hp
        cases q with
        | part x p' a' =>
          have hok := h _ hq
          unfold RowV.part? at e
          dsimp only at e
          split at e
          · cases e
            exact any2 (any_name hok.2.1) (.int _)
          · cases e
        | ware _ _ _ _ _ => cases e
        | coming _ _ _ => cases e
        | want _ _ _ => cases e
    | coming _ _ _ => cases e
    | part _ _ _ => cases e
    | want _ _ _ => cases e
  · obtain ⟨v, hv, rfl⟩ := List.mem_map.mp hd
    obtain ⟨r, hr, e⟩ := List.mem_filterMap.mp hv
    cases r with
    | want x d a =>
      cases e
      exact any_want (h _ hr).1
    | ware _ _ _ _ _ => cases e
    | coming _ _ _ => cases e
    | part _ _ _ => cases e
end N

--@uses rowv
namespace N
open PySem L2 VL TL
/-! ### a shop's rows in their order -/
def wareRow (w : Ware) : RowV := .ware w.nm w.lag w.gives w.floor w.stock
def comRow (w : Ware) (p : Int × Int) : RowV := .coming w.nm p.1 p.2
def partRow (w : Ware) (p : Str × Int) : RowV := .part w.nm p.1 p.2
def wantRow (v : Want) : RowV := .want v.1 v.2.1 v.2.2
def wareRows (w : Ware) : List RowV := wareRow w :: (w.com.map (comRow w) ++ w.parts.map (partRow w))
def rowsOf (s : Shop) : List RowV := s.ws.flatMap wareRows ++ s.wants.map wantRow
theorem fm_flat {α β γ : Type} (f : α → List β) (g : β → Option γ) : ∀ l : List α, (l.flatMap f).filterMap g = l.flatMap fun x => (f x).filterMap g
  | [] => rfl
  | x :: r => by rw [List.flatMap_cons, List.flatMap_cons, List.filterMap_append, fm_flat f g r]
theorem fm_none {α β : Type} {g : α → Option β} : ∀ {l : List α}, (∀ x ∈ l, g x = none) → l.filterMap g = []
  | [], _ => rfl
  | x :: r, h => by rw [List.filterMap_cons_none (h x List.mem_cons_self), fm_none fun y hy => h y (List.mem_cons_of_mem _ hy)]
theorem fm_id {α β γ : Type} {f : α → β} {g : β → Option γ} {k : α → γ} : ∀ {l : List α}, (∀ x ∈ l, g (f x) = some (k x)) → (l.map f).filterMap g = l.map k
  | [], _ => rfl
  | x :: r, h => by rw [List.map_cons, List.filterMap_cons_some (h x List.mem_cons_self), fm_id fun y hy => h y (List.mem_cons_of_mem _ hy), List.map_cons]
theorem flat_none {α β : Type} {f : α → List β} : ∀ {l : List α}, (∀ x ∈ l, f x = []) → l.flatMap f = []
  | [], _ => rfl
  | x :: r, h => by rw [List.flatMap_cons, h x List.mem_cons_self, flat_none fun y hy => h y (List.mem_cons_of_mem _ hy)]; rfl
theorem flat_one {β : Type} (f : Ware → List β) : ∀ {ws : List Ware}, (ws.map (·.nm)).Nodup → ∀ {w : Ware}, w ∈ ws → (ws.flatMap fun v => if v.nm = w.nm then f v else []) = f w
  | [], _, w, h => by cases h
  | v :: r, nd, w, h => by
    rw [List.map_cons, List.nodup_cons] at nd
    rw [List.flatMap_cons]
    rcases List.mem_cons.mp h with rfl | h
    · rw [if_pos rfl, flat_none fun u hu => if_neg fun e => nd.1 (by rw [← e]; exact List.mem_map_of_mem (f := fun w : Ware => w.nm) hu), List.append_nil]
    · rw [if_neg fun e => nd.1 (by rw [e]; exact List.mem_map_of_mem (f := fun w : Ware => w.nm) h), flat_one f nd.2 h]
      rfl
theorem coms_wareRows (nm : Str) (w : Ware) : (wareRows w).filterMap (RowV.com? nm) = if w.nm = nm then w.com else [] := by
  unfold wareRows
  rw [List.filterMap_cons_none rfl, List.filterMap_append, fm_none (l := w.parts.map (partRow w)) fun x hx => by
    obtain ⟨p, _, rfl⟩ := List.mem_map.mp hx
    rfl, List.append_nil]
  by_cases e : w.nm = nm
  · rw [if_pos e, fm_id (k := id) fun p _ => if_pos e, List.map_id]
  · rw [if_neg e, fm_none fun x hx => by
      obtain ⟨p, _, rfl⟩ := List.mem_map.mp hx
      exact if_neg e]
theorem parts_wareRows (nm : Str) (w : Ware) : (wareRows w).filterMap (RowV.part? nm) = if w.nm = nm then w.parts else [] := by
  unfold wareRows
  rw [List.filterMap_cons_none rfl, List.filterMap_append, fm_none (l := w.com.map (comRow w)) fun x hx => by
    obtain ⟨p, _, rfl⟩ := List.mem_map.mp hx
    rfl, List.nil_append]
  by_cases e : w.nm = nm
  · rw [if_pos e, fm_id (k := id) fun p _ => if_pos e, List.map_id]
  · rw [if_neg e, fm_none fun x hx => by
      obtain ⟨p, _, rfl⟩ := List.mem_map.mp hx
      exact if_neg e]
theorem coms_rowsOf {s : Shop} (nd : s.names.Nodup) {w : Ware} (hw : w ∈ s.ws) : comsV w.nm (rowsOf s) = w.com := by
  unfold comsV rowsOf
  rw [List.filterMap_append, fm_flat, fm_none (l := s.wants.map wantRow) fun x hx => by
    obtain ⟨p, _, rfl⟩ := List.mem_map.mp hx
    rfl, List.append_nil]
  rw [show (fun x => (wareRows x).filterMap (RowV.com? w.nm)) = fun v : Ware => if v.nm = w.nm then v.com else [] from funext fun v => coms_wareRows w.nm v]
  exact flat_one (fun v => v.com) nd hw
theorem parts_rowsOf {s : Shop} (nd : s.names.Nodup) {w : Ware} (hw : w ∈ s.ws) : partsV w.nm (rowsOf s) = w.parts := by
  unfold partsV rowsOf
  rw [List.filterMap_append, fm_flat, fm_none (l := s.wants.map wantRow) fun x hx => by
    obtain ⟨p, _, rfl⟩ := List.mem_map.mp hx
    rfl, List.append_nil]
  rw [show (fun x => (wareRows x).filterMap (RowV.part? w.nm)) = fun v : Ware => if v.nm = w.nm then v.parts else [] from funext fun v => parts_wareRows w.nm v]
  exact flat_one (fun v => v.parts) nd hw
/-- what is told by the wares' rows alone -/
theorem heads_fm {β : Type} (g : RowV → Option β) (k : Ware → β) (h1 : ∀ w, g (wareRow w) = some (k w)) (h2 : ∀ w p, g (comRow w p) = none) (h3 : ∀ w p, g (partRow w p) = none) (h4 : ∀ v, g (wantRow v) = none) (s : Shop) : (rowsOf s).filterMap g = s.ws.map k := by
  unfold rowsOf
  rw [List.filterMap_append, fm_flat, fm_none (l := s.wants.map wantRow) fun x hx => by
    obtain ⟨p, _, rfl⟩ := List.mem_map.mp hx
    exact h4 p, List.append_nil]
  rw [show (fun x => (wareRows x).filterMap g) = fun w => [k w] from funext fun w => by
    unfold wareRows
    rw [List.filterMap_cons_some (h1 w), fm_none fun x hx => ?_]
    rcases List.mem_append.mp hx with hx | hx
    · obtain ⟨p, _, rfl⟩ := List.mem_map.mp hx
      exact h2 w p
    · obtain ⟨p, _, rfl⟩ := List.mem_map.mp hx
      exact h3 w p]
  induction s.ws with
  | nil => rfl
  | cons x r ih => rw [List.flatMap_cons, ih]; rfl
theorem heads_rowsOf (s : Shop) : headsV (rowsOf s) = s.names := heads_fm RowV.head? (fun w => w.nm) (fun _ => rfl) (fun _ _ => rfl) (fun _ _ => rfl) (fun _ => rfl) s
theorem wants_rowsOf (s : Shop) : (rowsOf s).filterMap RowV.want? = s.wants := by
  unfold rowsOf
  rw [List.filterMap_append, fm_flat, flat_none fun w _ => fm_none fun x hx => ?_, List.nil_append, fm_id (f := wantRow) (g := RowV.want?) (k := id) (l := s.wants) (fun v _ => rfl), List.map_id]
  unfold wareRows at hx
  rcases List.mem_cons.mp hx with rfl | hx
  · rfl
  · rcases List.mem_append.mp hx with hx | hx
    · obtain ⟨p, _, rfl⟩ := List.mem_map.mp hx
      rfl
    · obtain ⟨p, _, rfl⟩ := List.mem_map.mp hx
      rfl
theorem shop_rowsOf {s : Shop} (nd : s.names.Nodup) : shopOf (rowsOf s) = s := by
  have e1 : (rowsOf s).filterMap (RowV.ware? (rowsOf s)) = s.ws := by
    rw [heads_fm (RowV.ware? (rowsOf s)) (fun w => ⟨w.nm, w.lag, w.gives, w.floor, w.stock, comsV w.nm (rowsOf s), partsV w.nm (rowsOf s)⟩) (fun _ => rfl) (fun _ _ => rfl) (fun _ _ => rfl) (fun _ => rfl) s]
    have : s.ws.map (fun w : Ware => (⟨w.nm, w.lag, w.gives, w.floor, w.stock, comsV w.nm (rowsOf s), partsV w.nm (rowsOf s)⟩ : Ware)) = s.ws.map id := List.map_congr_left fun w hw => by
      rw [coms_rowsOf nd hw, parts_rowsOf nd hw]
      rfl
    rw [this, List.map_id]
  unfold shopOf
  rw [e1, wants_rowsOf]
theorem rows_mem {s : Shop} {r : RowV} (h : r ∈ rowsOf s) : (∃ w ∈ s.ws, r = wareRow w ∨ (∃ p ∈ w.com, r = comRow w p) ∨ ∃ p ∈ w.parts, r = partRow w p) ∨ ∃ v ∈ s.wants, r = wantRow v := by
  unfold rowsOf at h
  rcases List.mem_append.mp h with h | h
  · obtain ⟨w, hw, h⟩ := List.mem_flatMap.mp h
    refine .inl ⟨w, hw, ?_⟩
    unfold wareRows at h
    rcases List.mem_cons.mp h with rfl | h
    · exact .inl rfl
    · rcases List.mem_append.mp h with h | h
      · obtain ⟨p, hp, rfl⟩ := List.mem_map.mp h
        exact .inr (.inl ⟨p, hp, rfl⟩)
      · obtain ⟨p, hp, rfl⟩ := List.mem_map.mp h
        exact .inr (.inr ⟨p, hp, rfl⟩)
  · obtain ⟨v, hv, rfl⟩ := List.mem_map.mp h
    exact .inr ⟨v, hv, rfl⟩
theorem ShopG.n {s : Shop} (h : ShopG s) : ShopN s := ⟨h, fun z hz => by
  obtain ⟨w, hw, rfl⟩ := List.mem_map.mp hz
  exact (h.ws w hw).nm⟩
theorem amt_num {n : Int} (h : Amt n) : NumOk n := ⟨h.1, by have := h.2; omega⟩
theorem rows_ok {s : Shop} (h : ShopG s) : ∀ r ∈ rowsOf s, r.ok := fun r hr => by
  have hn := h.n.nm
  rcases rows_mem hr with ⟨w, hw, rfl | ⟨p, hp, rfl⟩ | ⟨p, hp, rfl⟩⟩ | ⟨v, hv, rfl⟩
  · have g := h.ws w hw
    exact ⟨g.nm, ⟨g.lag.1, by have := g.lag.2; omega⟩, ⟨by have := g.gives.1; omega, by have := g.gives.2; omega⟩, amt_num g.floor, amt_num g.stock⟩
  · have g := h.ws w hw
    have := g.com p hp
    exact ⟨g.nm, ⟨this.1.1, by have := this.1.2; omega⟩, amt_num this.2⟩
  · have g := h.ws w hw
    have := g.parts p hp
    exact ⟨g.nm, hn _ (h.sub w hw p hp), ⟨by omega, by omega⟩⟩
  · have := h.wants.ok v hv
    exact ⟨hn _ this.1, ⟨this.2.1.1, by have := this.2.1.2; omega⟩, amt_num this.2.2⟩
theorem rows_nm {s : Shop} (h : ShopG s) : ∀ r ∈ rowsOf s, r.nm ∈ headsV (rowsOf s) := fun r hr => by
  rw [heads_rowsOf]
  rcases rows_mem hr with ⟨w, hw, rfl | ⟨p, hp, rfl⟩ | ⟨p, hp, rfl⟩⟩ | ⟨v, hv, rfl⟩
  · exact List.mem_map_of_mem (f := fun w : Ware => w.nm) hw
  · exact List.mem_map_of_mem (f := fun w : Ware => w.nm) hw
  · exact List.mem_map_of_mem (f := fun w : Ware => w.nm) hw
  · exact (h.wants.ok v hv).1
theorem flat_len {α β : Type} {f : α → List β} {M : Nat} : ∀ {l : List α}, (∀ x ∈ l, (f x).length ≤ M) → (l.flatMap f).length ≤ l.length * M
  | [], _ => by simp
  | x :: r, h => by
    rw [List.flatMap_cons, List.length_append, List.length_cons, Nat.succ_mul]
    have h1 := h x List.mem_cons_self
    have h2 := flat_len (l := r) fun y hy => h y (List.mem_cons_of_mem _ hy)
    omega
theorem rows_len {s : Shop} (h : ShopG s) : (rowsOf s).length ≤ 248 := by
  unfold rowsOf
  rw [List.length_append, List.length_map]
  have h1 := flat_len (l := s.ws) (f := wareRows) (M := 19) fun w hw => by
    have g := h.ws w hw
    have := g.cl
    have := g.pl
    unfold wareRows
    rw [List.length_cons, List.length_append, List.length_map, List.length_map]
    omega
  have := h.hi
  have := h.wants.len
  omega
theorem rows_ne {s : Shop} (h : ShopG s) : rowsOf s ≠ [] := fun e => by
  have h1 := heads_rowsOf s
  rw [e] at h1
  have h2 : s.names = [] := h1.symm
  have h3 := h.lo
  have h4 : s.names.length = s.ws.length := List.length_map ..
  rw [h2] at h4
  have h5 : 0 = s.ws.length := h4
  omega
/-- what read_shop asks -/
theorem rows_read {s : Shop} (h : ShopG s) : rowsOf s ≠ [] ∧ (rowsOf s).length ≤ 250 ∧ (∀ r ∈ rowsOf s, r.ok) ∧ (∀ r ∈ rowsOf s, r.nm ∈ headsV (rowsOf s)) ∧ shopB (shopD (shopOf (rowsOf s))) = true :=
  ⟨rows_ne h, by have := rows_len h; omega, rows_ok h, rows_nm h, by rw [shop_rowsOf h.nd]; exact shopB_ok h.n⟩
/-! ### words that are shown -/
def wdD : Sum Str Int → D
  | .inl z => .str z
  | .inr n => .int n
def wdT : Sum Str Int → Str
  | .inl z => z
  | .inr n => numT n
def wdOk : Sum Str Int → Prop
  | .inl z => z.length ≤ 60
  | .inr n => NumOk n
theorem wd_len {x : Sum Str Int} (h : wdOk x) : (wdT x).length ≤ 60 := by
  cases x with
  | inl z => exact h
  | inr n => exact (numT_ok h).2.2.1
def lineD (r : RowV) : D := .str r.line
theorem lines_txt (rs : List RowV) : rs.map lineD = (rs.map RowV.line).map D.str := by rw [List.map_map]; rfl
theorem map_snoc {α : Type} {l : List α} {j : Nat} {x : α} (h : l[j]? = some x) (A : List RowV) (f : α → RowV) : (A ++ (l.take (j + 1)).map f).map lineD = (A ++ (l.take j).map f).map lineD ++ [lineD (f x)] := by
  rw [take_one h]
  simp [List.map_append, List.append_assoc]
theorem row_join {r : RowV} (h : r.ok) : (r.words.map (·.length)).sum + r.words.length * (" " : Str).length ≤ 1000000 := by
  obtain ⟨h1, h2⟩ := words_plain h
  have b := words_sum (ws := r.words) (M := 60) fun w hw => (h2 w hw).1
  have e : (" " : Str).length = 1 := rfl
  rw [e]
  omega
theorem text_join {rs : List RowV} (h : ∀ r ∈ rs, r.ok) (hl : rs.length ≤ 250) : ((rs.map RowV.line).map (·.length)).sum + (rs.map RowV.line).length * ("\n" : Str).length ≤ 1000000 := by
  have b := words_sum (ws := rs.map RowV.line) (M := 366) fun w hw => by
    obtain ⟨r, hr, rfl⟩ := List.mem_map.mp hw
    exact line_len (h r hr)
  have e : ("\n" : Str).length = 1 := rfl
  rw [List.length_map] at b ⊢
  rw [e]
  omega
/-- a shop's rows tell as much in another order -/
def RowV.core? : RowV → Option (Str × Int × Int × Int × Int)
  | .ware nm a b c d => some (nm, a, b, c, d)
  | _ => none
structure Alike (rs qs : List RowV) : Prop where
  com : ∀ nm, comsV nm rs = comsV nm qs
  part : ∀ nm, partsV nm rs = partsV nm qs
  want : rs.filterMap RowV.want? = qs.filterMap RowV.want?
  core : rs.filterMap RowV.core? = qs.filterMap RowV.core?
theorem ware_core (qs : List RowV) : ∀ rs : List RowV, rs.filterMap (RowV.ware? qs) = (rs.filterMap RowV.core?).map fun c => (⟨c.1, c.2.1, c.2.2.1, c.2.2.2.1, c.2.2.2.2, comsV c.1 qs, partsV c.1 qs⟩ : Ware)
  | [] => rfl
  | r :: rs => by
    cases r with
    | ware nm a b c d => rw [List.filterMap_cons_some (show RowV.ware? qs (.ware nm a b c d) = some _ from rfl), List.filterMap_cons_some (show RowV.core? (.ware nm a b c d) = some _ from rfl), List.map_cons, ware_core qs rs]
    | coming x y z => rw [List.filterMap_cons_none (show RowV.ware? qs (.coming x y z) = none from rfl), List.filterMap_cons_none (show RowV.core? (.coming x y z) = none from rfl), ware_core qs rs]
    | part x y z => rw [List.filterMap_cons_none (show RowV.ware? qs (.part x y z) = none from rfl), List.filterMap_cons_none (show RowV.core? (.part x y z) = none from rfl), ware_core qs rs]
    | want x y z => rw [List.filterMap_cons_none (show RowV.ware? qs (.want x y z) = none from rfl), List.filterMap_cons_none (show RowV.core? (.want x y z) = none from rfl), ware_core qs rs]
theorem head_core : ∀ rs : List RowV, headsV rs = (rs.filterMap RowV.core?).map (·.1)
  | [] => rfl
  | r :: rs => by
    unfold headsV
    have ih := head_core rs
    unfold headsV at ih
    cases r with
    | ware nm a b c d => rw [List.filterMap_cons_some (show RowV.head? (.ware nm a b c d) = some _ from rfl), List.filterMap_cons_some (show RowV.core? (.ware nm a b c d) = some _ from rfl), List.map_cons, ih]
    | coming x y z => rw [List.filterMap_cons_none (show RowV.head? (.coming x y z) = none from rfl), List.filterMap_cons_none (show RowV.core? (.coming x y z) = none from rfl), ih]
    | part x y z => rw [List.filterMap_cons_none (show RowV.head? (.part x y z) = none from rfl), List.filterMap_cons_none (show RowV.core? (.part x y z) = none from rfl), ih]
    | want x y z => rw [List.filterMap_cons_none (show RowV.head? (.want x y z) = none from rfl), List.filterMap_cons_none (show RowV.core? (.want x y z) = none from rfl), ih]
theorem Alike.shop {rs qs : List RowV} (h : Alike rs qs) : shopOf rs = shopOf qs := by
  unfold shopOf
  rw [ware_core, ware_core, h.core, h.want]
  simp only [h.com, h.part]
theorem Alike.heads {rs qs : List RowV} (h : Alike rs qs) : headsV rs = headsV qs := by rw [head_core, head_core, h.core]
/-- what read_shop asks, of other rows -/
theorem alike_read {s : Shop} (h : ShopG s) {rs : List RowV} (ha : Alike rs (rowsOf s)) (hp : rs.Perm (rowsOf s)) : (rs ≠ [] ∧ rs.length ≤ 250 ∧ (∀ r ∈ rs, r.ok) ∧ (∀ r ∈ rs, r.nm ∈ headsV rs) ∧ shopB (shopD (shopOf rs)) = true) ∧ shopOf rs = s := by
  obtain ⟨h1, h2, h3, h4, h5⟩ := rows_read h
  refine ⟨⟨fun e => h1 ?_, by rw [hp.length_eq]; exact h2, fun r hr => h3 r (hp.mem_iff.mp hr), fun r hr => by rw [ha.heads]; exact h4 r (hp.mem_iff.mp hr), by rw [ha.shop]; exact h5⟩, by rw [ha.shop, shop_rowsOf h.nd]⟩
  rw [e] at hp
  exact List.Perm.eq_nil hp.symm |> fun z => z
/-- the wares' rows first -/
def others (w : Ware) : List RowV := w.com.map (comRow w) ++ w.parts.map (partRow w)
def rows2 (s : Shop) : List RowV := s.ws.map wareRow ++ (s.ws.flatMap others ++ s.wants.map wantRow)
theorem flat_split : ∀ ws : List Ware, (ws.flatMap wareRows).Perm (ws.map wareRow ++ ws.flatMap others)
  | [] => .refl _
  | w :: r => by
    rw [List.flatMap_cons, List.flatMap_cons, List.map_cons]
    show (wareRow w :: (others w ++ r.flatMap wareRows)).Perm (wareRow w :: (r.map wareRow ++ (others w ++ r.flatMap others)))
    refine List.Perm.cons _ ?_
    refine (List.Perm.append_left _ (flat_split r)).trans ?_
    rw [← List.append_assoc, ← List.append_assoc]
    exact List.Perm.append_right _ List.perm_append_comm
theorem rows2_perm (s : Shop) : (rows2 s).Perm (rowsOf s) := by
  unfold rows2 rowsOf
  rw [← List.append_assoc]
  exact List.Perm.append_right _ (flat_split s.ws).symm
theorem fm_part2 {β : Type} (g : RowV → Option β) (h : ∀ w, g (wareRow w) = none) : ∀ ws : List Ware, (ws.map wareRow ++ ws.flatMap others).filterMap g = (ws.flatMap wareRows).filterMap g := fun ws => by
  rw [List.filterMap_append, fm_none (l := ws.map wareRow) fun x hx => by
    obtain ⟨w, _, rfl⟩ := List.mem_map.mp hx
    exact h w, List.nil_append, fm_flat, fm_flat]
  refine congrArg (fun f => List.flatMap f ws) (funext fun w => ?_)
  show _ = (wareRow w :: others w).filterMap g
  rw [List.filterMap_cons_none (h w)]
theorem fm_part1 {β : Type} (g : RowV → Option β) (h2 : ∀ w p, g (comRow w p) = none) (h3 : ∀ w p, g (partRow w p) = none) : ∀ ws : List Ware, (ws.map wareRow ++ ws.flatMap others).filterMap g = (ws.flatMap wareRows).filterMap g := fun ws => by
  have ho : ∀ w : Ware, (others w).filterMap g = [] := fun w => fm_none fun x hx => by
    rcases List.mem_append.mp hx with hx | hx
    · obtain ⟨p, _, rfl⟩ := List.mem_map.mp hx
      exact h2 w p
    · obtain ⟨p, _, rfl⟩ := List.mem_map.mp hx
      exact h3 w p
  rw [List.filterMap_append, fm_flat, fm_flat, flat_none fun w _ => ho w, List.append_nil]
  induction ws with
  | nil => rfl
  | cons w r ih =>
    rw [List.map_cons, List.flatMap_cons, ← ih]
    have e : (wareRows w).filterMap g = [wareRow w].filterMap g := by
      show ([wareRow w] ++ others w).filterMap g = _
      rw [List.filterMap_append, ho, List.append_nil]
    rw [e, ← List.filterMap_append]
    rfl
theorem rows2_alike (s : Shop) : Alike (rows2 s) (rowsOf s) := by
  have k : ∀ {β : Type} (g : RowV → Option β), (s.ws.map wareRow ++ s.ws.flatMap others).filterMap g = (s.ws.flatMap wareRows).filterMap g → (rows2 s).filterMap g = (rowsOf s).filterMap g := fun g e => by
    unfold rows2 rowsOf
    rw [← List.append_assoc, List.filterMap_append, e, List.filterMap_append]
  exact ⟨fun nm => k _ (fm_part2 _ (fun _ => rfl) _), fun nm => k _ (fm_part2 _ (fun _ => rfl) _), k _ (fm_part2 _ (fun _ => rfl) _), k _ (fm_part1 _ (fun _ _ => rfl) (fun _ _ => rfl) _)⟩
end N

--@uses shown
namespace N
open PySem L2 VL TL
/-! ### rows in groups, put into one another -/
def linesD (g : List RowV) : D := .lst (g.map lineD)
/-- groups behind pointers -/
structure Grp (L : List (Addr × List RowV)) (gs : List (Addr × D)) : Prop where
  nd : (L.map (·.1)).Nodup
  mem : ∀ q ∈ L, (q.1, linesD q.2) ∈ gs
theorem Grp.keys {L : List (Addr × List RowV)} {gs : List (Addr × D)} (h : Grp L gs) {a : Addr} (ha : a ∉ gs.map (·.1)) : a ∉ L.map (·.1) := fun z => by
  obtain ⟨q, hq, e⟩ := List.mem_map.mp z
  refine ha ?_
  rw [← e]
  exact List.mem_map_of_mem (f := fun q : Addr × D => q.1) (h.mem q hq)
theorem nodup_idx {α : Type} {l : List α} (nd : l.Nodup) {i j : Nat} {x : α} (hi : l[i]? = some x) (hj : l[j]? = some x) : i = j := by
  obtain ⟨h1, e1⟩ := List.getElem?_eq_some_iff.mp hi
  obtain ⟨h2, e2⟩ := List.getElem?_eq_some_iff.mp hj
  exact (List.getElem_inj nd).mp (e1.trans e2.symm)
theorem Grp.snoc {L : List (Addr × List RowV)} {gs : List (Addr × D)} (h : Grp L gs) {a : Addr} {g : List RowV} (ha : a ∉ gs.map (·.1)) : Grp (L ++ [(a, g)]) ((a, linesD g) :: gs) := by
  refine ⟨?_, fun q hq => ?_⟩
  · rw [List.map_append]
    refine List.nodup_append.mpr ⟨h.nd, by simp, fun x hx y hy e => ?_⟩
    rw [e, List.mem_singleton.mp hy] at hx
    exact h.keys ha hx
  · rcases List.mem_append.mp hq with hq | hq
    · exact List.mem_cons_of_mem _ (h.mem q hq)
    · rw [List.mem_singleton.mp hq]
      exact List.mem_cons_self
theorem Grp.put {L : List (Addr × List RowV)} {gs : List (Addr × D)} (h : Grp L gs) {a : Addr} {g : List RowV} (ha : a ∉ gs.map (·.1)) (k : Nat) : Grp (L.set k (a, g)) ((a, linesD g) :: gs) := by
  refine ⟨?_, fun q hq => ?_⟩
  · rw [List.map_set]
    refine List.pairwise_iff_getElem.mpr fun i j hi hj hij e => ?_
    have hn := h.keys ha
    have nd := h.nd
    rw [List.length_set] at hi hj
    rw [List.getElem_set, List.getElem_set] at e
    split at e
    · split at e
      · omega
      · exact hn (by have := List.getElem_mem hj; rw [← e] at this; exact this)
    · split at e
      · exact hn (by have := List.getElem_mem hi; rw [e] at this; exact this)
      · exact absurd ((List.getElem_inj nd).mp e) (by omega)
  · rcases List.mem_or_eq_of_mem_set hq with hq | rfl
    · exact List.mem_cons_of_mem _ (h.mem q hq)
    · exact List.mem_cons_self
theorem Grp.set {L : List (Addr × List RowV)} {gs : List (Addr × D)} (h : Grp L gs) {k : Nat} {a : Addr} {g : List RowV} (g' : List RowV) (hk : L[k]? = some (a, g)) : Grp (L.set k (a, g')) (setP gs a (linesD g')) := by
  have ek : (L.set k (a, g')).map (·.1) = L.map (·.1) := by
    rw [List.map_set]
    refine List.ext_getElem? fun i => ?_
    by_cases e : k = i
    · subst e
      rw [List.getElem?_set_self (by rw [List.length_map]; exact lt_of_get hk), List.getElem?_map, hk]
      rfl
    · rw [List.getElem?_set_ne e]
  refine ⟨by rw [ek]; exact h.nd, fun q hq => ?_⟩
  obtain ⟨i, hi⟩ := List.getElem?_of_mem hq
  by_cases e : k = i
  · subst e
    rw [List.getElem?_set_self (lt_of_get hk)] at hi
    cases hi
    exact setP_self (h.mem _ (List.mem_of_getElem? hk))
  · rw [List.getElem?_set_ne e] at hi
    refine setP_ne (h.mem q (List.mem_of_getElem? hi)) fun z => e ?_
    exact nodup_idx h.nd (i := k) (j := i) (x := a) (by rw [List.getElem?_map, hk]; rfl) (by rw [List.getElem?_map, hi, ← z]; rfl)
theorem Grp.sub {L M : List (Addr × List RowV)} {gs : List (Addr × D)} (h : Grp L gs) (s : M.Sublist L) : Grp M gs := ⟨(s.map _).nodup h.nd, fun q hq => h.mem q (s.subset hq)⟩
def ptrsD (L : List (Addr × List RowV)) : List D := L.map fun q => .ptr q.1
/-- the groups of a shop: with those of the first i wares -/
def gTo (s : Shop) (i : Nat) (wants : List RowV) : List (List RowV) := (s.ws.take i).map wareRow :: wants :: (s.ws.take i).flatMap fun w => [w.com.map (comRow w), w.parts.map (partRow w)]
def gAll (s : Shop) : List (List RowV) := s.ws.map wareRow :: s.wants.map wantRow :: s.ws.flatMap fun w => [w.com.map (comRow w), w.parts.map (partRow w)]
theorem flat_pairs : ∀ ws : List Ware, (ws.flatMap fun w => [w.com.map (comRow w), w.parts.map (partRow w)]).flatten = ws.flatMap others
  | [] => rfl
  | w :: r => by
    have ih := flat_pairs r
    show ([w.com.map (comRow w), w.parts.map (partRow w)] ++ (r.flatMap fun w => [w.com.map (comRow w), w.parts.map (partRow w)])).flatten = others w ++ r.flatMap others
    rw [List.flatten_append, ih]
    show (w.com.map (comRow w) ++ (w.parts.map (partRow w) ++ [])) ++ _ = _
    rw [List.append_nil]
    rfl
theorem gAll_flat (s : Shop) : (gAll s).flatten = s.ws.map wareRow ++ (s.wants.map wantRow ++ s.ws.flatMap others) := by
  show s.ws.map wareRow ++ (s.wants.map wantRow ++ (s.ws.flatMap fun w => [w.com.map (comRow w), w.parts.map (partRow w)]).flatten) = _
  rw [flat_pairs]
theorem gAll_perm (s : Shop) : (gAll s).flatten.Perm (rowsOf s) := by
  rw [gAll_flat]
  exact (List.Perm.append_left _ List.perm_append_comm).trans (rows2_perm s)
theorem gAll_alike (s : Shop) : Alike (gAll s).flatten (rowsOf s) := by
  have h := rows2_alike s
  have sw : ∀ {β : Type} (f : RowV → Option β), ((s.wants.map wantRow).filterMap f = [] ∨ (s.ws.flatMap others).filterMap f = []) → (gAll s).flatten.filterMap f = (rows2 s).filterMap f := fun f hf => by
    rw [gAll_flat]
    unfold rows2
    simp only [List.filterMap_append]
    rcases hf with e | e
    · rw [e, List.nil_append, List.append_nil]
    · rw [e, List.nil_append, List.append_nil]
  have wn : ∀ {β : Type} (f : RowV → Option β), (∀ v, f (wantRow v) = none) → (s.wants.map wantRow).filterMap f = [] := fun f hf => fm_none fun x hx => by
    obtain ⟨v, _, rfl⟩ := List.mem_map.mp hx
    exact hf v
  exact ⟨fun nm => (sw _ (.inl (wn _ fun _ => rfl))).trans (h.com nm), fun nm => (sw _ (.inl (wn _ fun _ => rfl))).trans (h.part nm), (sw _ (.inr (fm_none fun x hx => by
    obtain ⟨w, _, hx⟩ := List.mem_flatMap.mp hx
    rcases List.mem_append.mp hx with hx | hx
    · obtain ⟨p, _, rfl⟩ := List.mem_map.mp hx
      rfl
    · obtain ⟨p, _, rfl⟩ := List.mem_map.mp hx
      rfl))).trans h.want, (sw _ (.inl (wn _ fun _ => rfl))).trans h.core⟩
/-! a reading that one group alone answers stays in its order -/
structure Mix {β : Type} (f : RowV → Option β) (tgt : List β) (M : List RowV) (G : List (List RowV)) : Prop where
  eq : M.filterMap f ++ G.flatten.filterMap f = tgt
  pw : G.Pairwise fun g h => g.filterMap f = [] ∨ h.filterMap f = []
theorem Mix.pop {β : Type} {f : RowV → Option β} {tgt : List β} {M : List RowV} {A C : List (List RowV)} {x : RowV} {t : List RowV} (h : Mix f tgt M (A ++ (x :: t) :: C)) : Mix f tgt (M ++ [x]) (A ++ t :: C) := by
  obtain ⟨he, hp⟩ := h
  obtain ⟨p1, p2, p3⟩ := List.pairwise_append.mp hp
  obtain ⟨p4, p5⟩ := List.pairwise_cons.mp p2
  have ht : (x :: t).filterMap f = [] → t.filterMap f = [] := fun e => by
    rw [List.filterMap_cons] at e
    split at e
    · exact e
    · cases e
  refine ⟨?_, List.pairwise_append.mpr ⟨p1, List.pairwise_cons.mpr ⟨fun c hc => (p4 c hc).imp ht id, p5⟩, fun a ha b hb => ?_⟩⟩
  · rw [← he]
    simp only [List.flatten_append, List.flatten_cons, List.filterMap_append, List.cons_append]
    cases hx : f x with
    | none => simp [List.filterMap_cons, hx]
    | some y =>
      have hA : A.flatten.filterMap f = [] := by
        refine fm_none fun z hz => ?_
        obtain ⟨a, ha, hz⟩ := List.mem_flatten.mp hz
        rcases p3 a ha (x :: t) List.mem_cons_self with e | e
        · exact List.filterMap_eq_nil_iff.mp e z hz
        · rw [List.filterMap_cons, hx] at e
          cases e
      rw [hA]
      simp [List.filterMap_cons, hx]
  · rcases List.mem_cons.mp hb with rfl | hb
    · exact (p3 a ha (x :: b) List.mem_cons_self).imp id ht
    · exact p3 a ha b (List.mem_cons_of_mem _ hb)
theorem flat_filter : ∀ G : List (List RowV), (G.filter fun g => !g.isEmpty).flatten = G.flatten
  | [] => rfl
  | [] :: r => flat_filter r
  | (x :: t) :: r => by
    show ((x :: t) :: (r.filter fun g => !g.isEmpty)).flatten = _
    rw [List.flatten_cons, flat_filter r, List.flatten_cons]
theorem Mix.filter {β : Type} {f : RowV → Option β} {tgt : List β} {M : List RowV} {G : List (List RowV)} (h : Mix f tgt M G) : Mix f tgt M (G.filter fun g => !g.isEmpty) := ⟨by rw [flat_filter]; exact h.eq, h.pw.filter _⟩
inductive Tag where
  | ware | want | com (nm : Str) | part (nm : Str)
theorem tag_pw {β : Type} {f : RowV → Option β} (t : Tag) {T : List (Tag × List RowV)} (nd : (T.map (·.1)).Nodup) (h : ∀ q ∈ T, q.1 ≠ t → q.2.filterMap f = []) : (T.map (·.2)).Pairwise fun g h => g.filterMap f = [] ∨ h.filterMap f = [] := by
  refine List.pairwise_map.mpr ?_
  have nd2 := List.pairwise_map.mp nd
  refine List.Pairwise.imp_of_mem (fun {a b} ha hb hab => ?_) nd2
  by_cases e : a.1 = t
  · refine .inr (h b hb fun z => hab (e.trans z.symm))
  · exact .inl (h a ha e)
def tagged (s : Shop) : List (Tag × List RowV) := (.ware, s.ws.map wareRow) :: (.want, s.wants.map wantRow) :: s.ws.flatMap fun w => [(.com w.nm, w.com.map (comRow w)), (.part w.nm, w.parts.map (partRow w))]
theorem tagged_snd (s : Shop) : (tagged s).map (·.2) = gAll s := by
  show _ :: _ :: (s.ws.flatMap fun w => [((Tag.com w.nm, w.com.map (comRow w)) : Tag × List RowV), (.part w.nm, w.parts.map (partRow w))]).map (·.2) = _
  rw [List.map_flatMap]
  rfl
theorem tagged_nd {s : Shop} (nd : s.names.Nodup) : ((tagged s).map (·.1)).Nodup := by
  have e : (tagged s).map (·.1) = .ware :: .want :: s.ws.flatMap fun w => [Tag.com w.nm, Tag.part w.nm] := by
    show _ :: _ :: (s.ws.flatMap fun w => [((Tag.com w.nm, w.com.map (comRow w)) : Tag × List RowV), (.part w.nm, w.parts.map (partRow w))]).map (·.1) = _
    rw [List.map_flatMap]
    rfl
  rw [e]
  have mem : ∀ (ws : List Ware) t, t ∈ (ws.flatMap fun w => [Tag.com w.nm, Tag.part w.nm]) → ∃ z ∈ ws.map (·.nm), t = .com z ∨ t = .part z := fun ws t ht => by
    obtain ⟨w, hw, ht⟩ := List.mem_flatMap.mp ht
    refine ⟨w.nm, List.mem_map_of_mem (f := fun w : Ware => w.nm) hw, ?_⟩
    simpa using ht
  have key : ∀ ws : List Ware, (ws.map (·.nm)).Nodup → (ws.flatMap fun w => [Tag.com w.nm, Tag.part w.nm]).Nodup := fun ws => by
    induction ws with
    | nil => intro _; exact List.nodup_nil
    | cons w r ih =>
      intro h
      rw [List.map_cons, List.nodup_cons] at h
      show ([Tag.com w.nm, Tag.part w.nm] ++ r.flatMap fun w => [Tag.com w.nm, Tag.part w.nm]).Nodup
      refine List.nodup_append.mpr ⟨by simp, ih h.2, fun a ha b hb e => ?_⟩
      subst e
      obtain ⟨z, hz, e⟩ := mem r a hb
      have ha : a = .com w.nm ∨ a = .part w.nm := by simpa using ha
      rcases ha with ha | ha <;> rcases e with e | e <;> rw [ha] at e <;> first | (injection e with e; rw [← e] at hz; exact h.1 hz) | cases e
  refine List.nodup_cons.mpr ⟨fun z => ?_, List.nodup_cons.mpr ⟨fun z => ?_, key _ nd⟩⟩
  · rcases List.mem_cons.mp z with z | z
    · cases z
    · obtain ⟨_, _, e⟩ := mem _ _ z
      rcases e with e | e <;> cases e
  · obtain ⟨_, _, e⟩ := mem _ _ z
    rcases e with e | e <;> cases e
theorem tagged_mem {s : Shop} {q : Tag × List RowV} (h : q ∈ tagged s) : q = (.ware, s.ws.map wareRow) ∨ q = (.want, s.wants.map wantRow) ∨ ∃ w ∈ s.ws, q = (.com w.nm, w.com.map (comRow w)) ∨ q = (.part w.nm, w.parts.map (partRow w)) := by
  rcases List.mem_cons.mp h with h | h
  · exact .inl h
  rcases List.mem_cons.mp h with h | h
  · exact .inr (.inl h)
  obtain ⟨w, hw, h⟩ := List.mem_flatMap.mp h
  exact .inr (.inr ⟨w, hw, by simpa using h⟩)
/-- what is kept while rows are put into one another -/
structure Mixed (s : Shop) (M : List RowV) (G : List (List RowV)) : Prop where
  com : ∀ nm, Mix (RowV.com? nm) (comsV nm (rowsOf s)) M G
  part : ∀ nm, Mix (RowV.part? nm) (partsV nm (rowsOf s)) M G
  want : Mix RowV.want? ((rowsOf s).filterMap RowV.want?) M G
  core : Mix RowV.core? ((rowsOf s).filterMap RowV.core?) M G
  perm : (M ++ G.flatten).Perm (rowsOf s)
theorem mapNone {α β : Type} {g : α → RowV} {f : RowV → Option β} (h : ∀ x, f (g x) = none) (l : List α) : (l.map g).filterMap f = [] := fm_none fun x hx => by
  obtain ⟨v, _, rfl⟩ := List.mem_map.mp hx
  exact h v
theorem mixed_start {s : Shop} (nd : s.names.Nodup) : Mixed s [] (gAll s) := by
  have al := gAll_alike s
  have mk : ∀ {β : Type} (f : RowV → Option β) (t : Tag), (gAll s).flatten.filterMap f = (rowsOf s).filterMap f → (∀ q ∈ tagged s, q.1 ≠ t → q.2.filterMap f = []) → Mix f ((rowsOf s).filterMap f) [] (gAll s) := fun f t e h => ⟨by rw [List.filterMap_nil, List.nil_append]; exact e, by rw [← tagged_snd]; exact tag_pw t (tagged_nd nd) h⟩
  refine ⟨fun nm => mk _ (.com nm) (al.com nm) fun q hq ht => ?_, fun nm => mk _ (.part nm) (al.part nm) fun q hq ht => ?_, mk _ .want al.want fun q hq ht => ?_, mk _ .ware al.core fun q hq ht => ?_, gAll_perm s⟩
  · rcases tagged_mem hq with rfl | rfl | ⟨w, _, rfl | rfl⟩
    · exact mapNone (fun _ => rfl) _
    · exact mapNone (fun _ => rfl) _
    · have : ¬ w.nm = nm := fun z => ht (by rw [z])
      exact mapNone (fun p => if_neg this) _
    · exact mapNone (fun _ => rfl) _
  · rcases tagged_mem hq with rfl | rfl | ⟨w, _, rfl | rfl⟩
    · exact mapNone (fun _ => rfl) _
    · exact mapNone (fun _ => rfl) _
    · exact mapNone (fun _ => rfl) _
    · have : ¬ w.nm = nm := fun z => ht (by rw [z])
      exact mapNone (fun p => if_neg this) _
  · rcases tagged_mem hq with rfl | rfl | ⟨w, _, rfl | rfl⟩
    · exact mapNone (fun _ => rfl) _
    · exact absurd rfl ht
    · exact mapNone (fun _ => rfl) _
    · exact mapNone (fun _ => rfl) _
  · rcases tagged_mem hq with rfl | rfl | ⟨w, _, rfl | rfl⟩
    · exact absurd rfl ht
    · exact mapNone (fun _ => rfl) _
    · exact mapNone (fun _ => rfl) _
    · exact mapNone (fun _ => rfl) _
theorem Mixed.filter {s : Shop} {M : List RowV} {G : List (List RowV)} (h : Mixed s M G) : Mixed s M (G.filter fun g => !g.isEmpty) := ⟨fun nm => (h.com nm).filter, fun nm => (h.part nm).filter, h.want.filter, h.core.filter, by rw [flat_filter]; exact h.perm⟩
theorem Mixed.pop {s : Shop} {M : List RowV} {A C : List (List RowV)} {x : RowV} {t : List RowV} (h : Mixed s M (A ++ (x :: t) :: C)) : Mixed s (M ++ [x]) (A ++ t :: C) := ⟨fun nm => (h.com nm).pop, fun nm => (h.part nm).pop, h.want.pop, h.core.pop, by
  refine List.Perm.trans ?_ h.perm
  rw [List.append_assoc, List.flatten_append, List.flatten_append, List.flatten_cons, List.flatten_cons]
  refine List.Perm.append_left _ ?_
  show (x :: (A.flatten ++ (t ++ C.flatten))).Perm (A.flatten ++ (x :: (t ++ C.flatten)))
  exact List.perm_middle.symm⟩
theorem Mixed.done {s : Shop} {M : List RowV} (h : Mixed s M []) : Alike M (rowsOf s) ∧ M.Perm (rowsOf s) := by
  have e : ∀ {β : Type} {f : RowV → Option β} {tgt : List β}, Mix f tgt M [] → M.filterMap f = tgt := fun {β f tgt} hm => by
    have := hm.eq
    rw [List.flatten_nil, List.filterMap_nil, List.append_nil] at this
    exact this
  refine ⟨⟨fun nm => e (h.com nm), fun nm => e (h.part nm), e h.want, e h.core⟩, ?_⟩
  have := h.perm
  rw [List.flatten_nil, List.append_nil] at this
  exact this
end N

--@uses rows
namespace N
open PySem L2 VL
/-! shops are compared -/
theorem cmp_tup {n : Nat} {ds : List D} (h : ∀ d ∈ ds, D.cmpN n d = true) : D.cmpN (n + 1) (.tup ds) = true := List.all_eq_true.mpr h
theorem cmp_map {α : Type} {f : α → D} {n : Nat} {l : List α} (h : ∀ x ∈ l, D.cmpN n (f x) = true) : D.cmpN (n + 1) (.tup (l.map f)) = true := cmp_tup fun d hd => by
  obtain ⟨x, hx, rfl⟩ := List.mem_map.mp hd
  exact h x hx
theorem cmp_str {z : Str} (n : Nat) (h : PyData.strOk z = true) : D.cmpN n (.str z) = true := by cases n <;> exact h
theorem cmp_int (i : Int) (n : Nat) : D.cmpN n (.int i) = true := by cases n <;> rfl
theorem cmp_want {w : Want} {n : Nat} (h : PyData.strOk w.1 = true) : D.cmpN (n + 1) (wantD w) = true := cmp_tup fun d hd => by
  rcases List.mem_cons.mp hd with rfl | hd
  · exact cmp_str n h
  rcases List.mem_cons.mp hd with rfl | hd
  · exact cmp_int _ n
  cases List.mem_singleton.mp hd
  exact cmp_int _ n
theorem cmp_ware {w : Ware} {n : Nat} (h : PyData.strOk w.nm = true) (hp : ∀ p ∈ w.parts, PyData.strOk p.1 = true) : D.cmpN (n + 3) (wareD w) = true := cmp_tup fun d hd => by
  rcases List.mem_cons.mp hd with rfl | hd
  · exact cmp_str _ h
  rcases List.mem_cons.mp hd with rfl | hd
  · exact cmp_int _ _
  rcases List.mem_cons.mp hd with rfl | hd
  · exact cmp_int _ _
  rcases List.mem_cons.mp hd with rfl | hd
  · exact cmp_int _ _
  rcases List.mem_cons.mp hd with rfl | hd
  · exact cmp_int _ _
  rcases List.mem_cons.mp hd with rfl | hd
  · exact cmp_map fun p _ => cmp_tup fun d hd => by
      rcases List.mem_cons.mp hd with rfl | hd
      · exact cmp_int _ _
      cases List.mem_singleton.mp hd
      exact cmp_int _ _
  cases List.mem_singleton.mp hd
  exact cmp_map fun p hp' => cmp_tup fun d hd => by
    rcases List.mem_cons.mp hd with rfl | hd
    · exact cmp_str _ (hp p hp')
    cases List.mem_singleton.mp hd
    exact cmp_int _ _
theorem cmp_shop {s : Shop} (hw : ∀ w ∈ s.ws, PyData.strOk w.nm = true ∧ ∀ p ∈ w.parts, PyData.strOk p.1 = true) (hv : ∀ v ∈ s.wants, PyData.strOk v.1 = true) : D.cmpN 60 (shopD s) = true := cmp_tup fun d hd => by
  rcases List.mem_cons.mp hd with rfl | hd
  · exact cmp_map (n := 58) fun w h => cmp_ware (hw w h).1 (hw w h).2
  cases List.mem_singleton.mp hd
  exact cmp_map (n := 58) fun v h => cmp_want (hv v h)
theorem ShopG.cmpW {s : Shop} (h : ShopG s) : ∀ w ∈ s.ws, PyData.strOk w.nm = true ∧ ∀ p ∈ w.parts, PyData.strOk p.1 = true := fun w hw => ⟨(h.ws w hw).nm.str, fun p hp => h.strs _ (h.sub w hw p hp)⟩
end N

--@uses groups
namespace N
open PySem L2 VL TL
/-! groups that are emptied row by row, behind pointers -/
def gne (q : Addr × List RowV) : Bool := !q.2.isEmpty
theorem gne_f (q : Addr × List RowV) : (if q.2 = [] then none else some q) = if gne q then some q else none := by
  obtain ⟨a, g⟩ := q
  cases g <;> rfl
theorem fm_gne : ∀ L : List (Addr × List RowV), (L.filterMap fun q => if q.2 = [] then none else some q) = L.filter gne
  | [] => rfl
  | (a, []) :: r => fm_gne r
  | (a, x :: t) :: r => by
    show (a, x :: t) :: (r.filterMap fun q => if q.2 = [] then none else some q) = (a, x :: t) :: r.filter gne
    rw [fm_gne r]
theorem filter_snd (L : List (Addr × List RowV)) : (L.filter gne).map (·.2) = (L.map (·.2)).filter fun g => !g.isEmpty := by
  rw [List.filter_map]
  rfl
theorem own_grp {gs : List (Addr × D)} : ∀ {L : List (Addr × List RowV)}, (∀ q ∈ L, (q.1, linesD q.2) ∈ gs) → OwnL gs (L.map fun q => linesD q.2) (ptrsD L)
  | [], _ => .nil
  | q :: r, h => .cons (.lst (h q List.mem_cons_self)) (own_grp fun p hp => h p (List.mem_cons_of_mem _ hp))
theorem eqv_nilL : ∀ ds : List D, D.eqv (.lst ds) (.lst []) = decide (ds = [])
  | [] => rfl
  | _ :: _ => rfl
def Low (z : Str) : Prop := ∀ c ∈ z.cps.toList, c < 1114112
theorem low_name {z : Str} (h : NameOk z) : Low z := fun c hc => by have := h.ab c hc; omega
theorem low_num {n : Int} (h : NumOk n) : Low (numT n) := fun c hc => by have := (numT_ok h).2.2.2 c hc; omega
theorem low_w {z : Str} (h : (z = "ware" ∨ z = "coming") ∨ (z = "part" ∨ z = "want")) : Low z := by
  rcases h with (rfl | rfl) | (rfl | rfl) <;> exact (by unfold Low; decide +kernel)
theorem words_low {r : RowV} (h : r.ok) : ∀ w ∈ r.words, Low w := by
  intro w hw
  cases r with
  | ware nm a b c d =>
    obtain ⟨h1, h2, h3, h4, h5⟩ := h
    simp only [RowV.words, List.mem_cons, List.not_mem_nil, or_false] at hw
    rcases hw with rfl | rfl | rfl | rfl | rfl | rfl
    · exact low_w (.inl (.inl rfl))
    · exact low_name h1
    · exact low_num h2
    · exact low_num h3
    · exact low_num h4
    · exact low_num h5
  | coming nm d a =>
    obtain ⟨h1, h2, h3⟩ := h
    simp only [RowV.words, List.mem_cons, List.not_mem_nil, or_false] at hw
    rcases hw with rfl | rfl | rfl | rfl
    · exact low_w (.inl (.inr rfl))
    · exact low_name h1
    · exact low_num h2
    · exact low_num h3
  | part nm p a =>
    obtain ⟨h1, h2, h3⟩ := h
    simp only [RowV.words, List.mem_cons, List.not_mem_nil, or_false] at hw
    rcases hw with rfl | rfl | rfl | rfl
    · exact low_w (.inr (.inl rfl))
    · exact low_name h1
    · exact low_name h2
    · exact low_num h3
  | want nm d a =>
    obtain ⟨h1, h2, h3⟩ := h
    simp only [RowV.words, List.mem_cons, List.not_mem_nil, or_false] at hw
    rcases hw with rfl | rfl | rfl | rfl
    · exact low_w (.inr (.inr rfl))
    · exact low_name h1
    · exact low_num h2
    · exact low_num h3
theorem line_str {r : RowV} (h : r.ok) : PyData.strOk r.line = true := by
  unfold PyData.strOk
  rw [Array.all_eq_true_iff_forall_mem]
  intro c hc
  have hc2 : c ∈ (Txt.join " " r.words).cps.toList := (by simpa using hc : c ∈ r.line.cps.toList)
  rw [join_eq] at hc2
  have : c < 1114112 := by
    rcases join_mem hc2 with h1 | ⟨w, hw, h1⟩
    · have e : (" " : Str).cps.toList = [32] := by decide +kernel
      rw [e] at h1
      rw [List.mem_singleton.mp h1]
      decide
    · exact words_low h w hw c h1
  simpa using this
theorem Mixed.row {s : Shop} {M : List RowV} {L : List (Addr × List RowV)} (h : Mixed s M (L.map (·.2))) : ∀ q ∈ L, ∀ r ∈ q.2, r ∈ rowsOf s := fun q hq r hr => h.perm.mem_iff.mp (List.mem_append_right _ (List.mem_flatten.mpr ⟨q.2, List.mem_map_of_mem (f := fun x : Addr × List RowV => x.2) hq, hr⟩))
theorem cmpN_lines {g : List RowV} (h : ∀ r ∈ g, r.ok) (n : Nat) : D.cmpN (n + 2) (linesD g) = true := cmpN_list fun d hd => by
  obtain ⟨r, hr, rfl⟩ := List.mem_map.mp hd
  show D.cmpN (n + 1) (.str r.line) = true
  simp only [D.cmpN]
  exact line_str (h r hr)
theorem cmpN_groups {L : List (Addr × List RowV)} (h : ∀ q ∈ L, ∀ r ∈ q.2, r.ok) : D.cmpN 60 (.lst (L.map fun q => linesD q.2)) = true := cmpN_list fun d hd => by
  obtain ⟨q, hq, rfl⟩ := List.mem_map.mp hd
  exact cmpN_lines (h q hq) 57
theorem linesD_ne (g : List RowV) : D.eqv (linesD g) (.lst []) = decide (g = []) := by
  unfold linesD
  rw [eqv_nilL]
  cases g <;> rfl
theorem groups_ne (L : List (Addr × List RowV)) : D.eqv (.lst (L.map fun q => linesD q.2)) (.lst []) = decide (L = []) := by
  rw [eqv_nilL]
  cases L <;> rfl
def restN (G : List (List RowV)) : Nat := G.flatten.length
theorem split_get {α : Type} {l : List α} {k : Nat} {x : α} (h : l[k]? = some x) : ∃ A C, l = A ++ x :: C ∧ ∀ y, l.set k y = A ++ y :: C := by
  obtain ⟨hk, e⟩ := List.getElem?_eq_some_iff.mp h
  refine ⟨l.take k, l.drop (k + 1), ?_, fun y => ?_⟩
  · rw [← e, List.getElem_cons_drop, List.take_append_drop]
  · rw [List.set_eq_take_append_cons_drop, if_pos hk]
theorem len_rest : ∀ {L : List (Addr × List RowV)}, (∀ q ∈ L, q.2 ≠ []) → L.length ≤ restN (L.map (·.2))
  | [], _ => Nat.le_refl _
  | (a, g) :: r, h => by
    have h1 := len_rest fun q hq => h q (List.mem_cons_of_mem _ hq)
    have h2 : g ≠ [] := h (a, g) List.mem_cons_self
    have h3 : 1 ≤ g.length := by
      cases g with
      | nil => exact absurd rfl h2
      | cons x t => rw [List.length_cons]; omega
    show r.length + 1 ≤ (g ++ (r.map (·.2)).flatten).length
    rw [List.length_append]
    unfold restN at h1
    omega
theorem Mixed.len {s : Shop} {M : List RowV} {G : List (List RowV)} (h : Mixed s M G) : M.length + restN G = (rowsOf s).length := by
  have := h.perm.length_eq
  rw [List.length_append] at this
  exact this
/-- one row is popped, empty groups go -/
theorem pop_step {s : Shop} {M : List RowV} {L : List (Addr × List RowV)} {gs : List (Addr × D)} {k : Nat} {a : Addr} {x : RowV} {t : List RowV} (hG : Grp L gs) (hM : Mixed s M (L.map (·.2))) (hk : L[k]? = some (a, x :: t)) :
    Grp ((L.set k (a, t)).filter gne) (setP gs a (linesD t)) ∧ Grp (L.set k (a, t)) (setP gs a (linesD t)) ∧ Mixed s (M ++ [x]) (((L.set k (a, t)).filter gne).map (·.2)) ∧ (∀ q ∈ (L.set k (a, t)).filter gne, q.2 ≠ []) ∧
      restN (((L.set k (a, t)).filter gne).map (·.2)) + 1 = restN (L.map (·.2)) ∧ ptrsD (L.set k (a, t)) = ptrsD L := by
  have h1 := hG.set t hk
  obtain ⟨A, C, e1, e2⟩ := split_get hk
  have hM2 : Mixed s (M ++ [x]) (((L.set k (a, t)).filter gne).map (·.2)) := by
    rw [filter_snd, e2]
    rw [e1] at hM
    rw [List.map_append, List.map_cons] at hM ⊢
    exact (Mixed.pop hM).filter
  refine ⟨h1.sub List.filter_sublist, h1, hM2, fun q hq e => ?_, ?_, ?_⟩
  · have := (List.mem_filter.mp hq).2
    unfold gne at this
    rw [e] at this
    cases this
  · have p1 := hM.perm.length_eq
    have p2 := hM2.perm.length_eq
    unfold restN
    rw [List.length_append] at p1 p2
    rw [List.length_append] at p2
    have : [x].length = 1 := rfl
    omega
  · unfold ptrsD
    rw [e2, e1]
    simp
theorem take_filter {L : List (Addr × List RowV)} {i : Nat} {q : Addr × List RowV} (h : L[i]? = some q) (A : List D) : ((L.take (i + 1)).filter gne) = (L.take i).filter gne ++ if gne q then [q] else [] := by
  rw [take_one h, List.filter_append]
  congr 1
  by_cases e : gne q = true
  · rw [if_pos e, List.filter_cons_of_pos e]
    rfl
  · rw [if_neg e, List.filter_cons_of_neg e]
    rfl
end N

namespace N
open PySem L2 VL
def topS (i : Nat) : Stmt := PySem.Challenge.pw_needplan_k52_shops_read.main.body.getD i (.Pass ⟨0, 0, 0, 0⟩)
abbrev Gd (K : PySem.W.Frag) : Gs := ⟨GoodSt1, none⟩
abbrev spLawN (K : PySem.W.Frag) := spLaw K (Gd K)
local macro_rules | `(tactic| walk_at "u") => `(tactic| first
  | (with_reducible refine fz_p ?_) | (with_reducible refine fz_o ?_) | (with_reducible refine fz_m ?_)
  | (with_reducible refine ex_bl ?_) | (with_reducible refine ex_int ?_) | (with_reducible refine ex_io ?_)
  | ((with_reducible refine' ex_plains ?h1 ?h2 ?_); (case h1 => exact rfl); (case h2 => exact rfl))
  | ((with_reducible refine' ex_keys ?h1 ?h2 ?_); (case h1 => exact rfl); (case h2 => exact rfl))
  | ((with_reducible refine' vs_append ?h ?_); (case h => exact rfl))
  | ((with_reducible refine' vs_insPop ?h ?_); (case h => exact rfl)) | ((with_reducible refine' vs_reverse ?h ?_); (case h => exact rfl)) | ((with_reducible refine' vs_dclear ?h ?_); (case h => exact rfl))
  | (with_reducible refine vs_asg ?_) | (with_reducible refine vs_ret ?_) | (with_reducible refine vs_expr ?_)
  | ((with_reducible refine' vs_aug ?h ?_); (case h => exact rfl))
  | (with_reducible refine vs_next ?_) | (with_reducible refine vs_break ?_) | (with_reducible refine vs_cont ?_) | (with_reducible refine vs_retN ?_)
  | ((with_reducible refine vg_p ?h ?_); (case h => exact Nat.le_of_ble_eq_true rfl))
  | ((with_reducible refine vg_o ?h ?_); (case h => exact Nat.le_of_ble_eq_true rfl))
  | ((with_reducible refine vg_tup ?h ?_); (case h => exact rfl))
  | ((with_reducible refine vg_lst ?h ?_); (case h => exact rfl))
  | (with_reducible refine vgs_cons ?_) | (with_reducible refine vgs_nil ?_)
  | ((with_reducible refine' ve_var ?h ?_); (case h => exact rfl))
  | ((with_reducible refine' ve_varm ?h ?_); (case h => exact rfl))
  | (with_reducible refine ve_ref ?_) | (with_reducible refine ve_int ?_) | (with_reducible refine ve_str ?_) | (with_reducible refine ve_bl ?_) | (with_reducible refine ve_non ?_)
  | (with_reducible refine ve_op ?_) | (with_reducible refine ve_un ?_) | (with_reducible refine ve_cb ?_)
  | (with_reducible refine ve_tup ?_) | (with_reducible refine ve_tupKq ?_) | (with_reducible refine ve_lst ?_) | (with_reducible refine ve_dnew ?_) | (with_reducible refine ve_dnewT ?_) | (with_reducible refine ve_slice ?_)
  | (with_reducible refine va_cons ?_) | (with_reducible refine va_nil ?_)
  | (with_reducible refine vp_none ?_) | (with_reducible refine vp_some ?_)
  | (with_reducible refine vt_B ?_) | (with_reducible refine vt_test ?_) | (with_reducible refine vt_and ?_) | (with_reducible refine vt_or ?_) | (with_reducible refine vt_not ?_) | (with_reducible refine vt_yes ?_)
  | (with_reducible refine ve_andV ?_) | (with_reducible refine ve_orV ?_) | (with_reducible refine ve_notV ?_) | (with_reducible refine ve_if ?_)
  | (with_reducible refine vo_I0 ?_) | (with_reducible refine vo_B0 ?_) | (with_reducible refine vo_ip ?_) | (with_reducible refine vu_I ?_)
  | (with_reducible refine vo_eq_int ?_) | (with_reducible refine vo_ne_int ?_) | (with_reducible refine vo_eq_str ?_) | (with_reducible refine vo_ne_str ?_) | (with_reducible refine vo_eq_bl ?_) | (with_reducible refine vo_ne_bl ?_)
  | (with_reducible refine vo_isN ?_) | (with_reducible refine vo_notN ?_)
  | ((with_reducible refine' vc_lenL ?h ?_); (case h => exact rfl)) | (with_reducible refine vc_lenT ?_)
  | ((with_reducible refine' vc_listL ?h ?_); (case h => exact rfl)) | (with_reducible refine vc_listT ?_)
  | ((with_reducible refine' vc_tupL ?h ?_); (case h => exact rfl))
  | (with_reducible refine vc_max2 ?_) | (with_reducible refine vc_min2 ?_) | (with_reducible refine vc_abs ?_) | (with_reducible refine vc_intB ?_)
  | ((with_reducible refine' vsl_list ?h ?_); (case h => exact rfl)) | (with_reducible refine vsl_tup ?_)
  | ((with_reducible refine vo_pow ?h ?_); (case h => exact ⟨by decide, by decide, by decide⟩))
  | ((with_reducible refine vo_mulq ?_ ?h); (case h => first | exact .inl (.inr ⟨by decide, by decide⟩) | exact .inl (.inl ⟨by decide, by decide⟩) | exact .inl (.inl ⟨by omega, by omega⟩) | exact .inl (.inr ⟨by omega, by omega⟩)))
  | (with_reducible refine vo_mulq ?_ ?hmul)
  | ((with_reducible refine vo_divq ?_ ?h); (case h => exact ⟨by first | decide | omega, by decide⟩))
  | (with_reducible refine vo_divq ?_ ?hdiv)
  | ((with_reducible refine vo_modq ?_ ?h); (case h => first | decide | omega))
  | (with_reducible refine vo_modq ?_ ?hmod)
  | (with_reducible refine ve_ty ?_)
  | ((with_reducible refine' vc_isi ?h1 ?h2 ?_); (case h1 => exact rfl); (case h2 => exact rfl))
  | (with_reducible refine vq_dget ?_) | (with_reducible refine vq_din ?_) | (with_reducible refine vq_dnotin ?_) | (with_reducible refine vq_dget1 ?_) | (with_reducible refine ve_dget ?_) | (with_reducible refine ve_din ?_) | (with_reducible refine ve_dnotin ?_))
local macro_rules | `(tactic| walk_at "c") => `(tactic| (with_reducible refine ve_call lets_none ?_))
local macro_rules | `(tactic| walk_at "co") => `(tactic| (with_reducible refine ve_callO lets_none ?_))
local macro_rules | `(tactic| walk_at "v") => `(tactic| first | walk_at "u" | (with_reducible refine vs_seq ?_))
local macro_rules | `(tactic| walk_at "cm") => `(tactic| (with_reducible refine ve_callM lets_none ?_))
local macro_rules | `(tactic| walk_at "cmo") => `(tactic| (with_reducible refine ve_callMO lets_none ?_))

structure Glb (K : PySem.W.Frag) (mg : Str → Option Value) (w : World) : Prop where
  one : True
  ns : ∀ (x : Str) (v : Value), PySem.W.nsIn K mainGlobals x = some (some v) → mg x = some v
  b_all : mg "all" = none
  b_bool : mg "bool" = none
  b_enumerate : mg "enumerate" = none
  b_int : mg "int" = none
  b_isinstance : mg "isinstance" = none
  b_len : mg "len" = none
  b_list : mg "list" = none
  b_range : mg "range" = none
  b_set : mg "set" = none
  b_str : mg "str" = none
  b_tuple : mg "tuple" = none
  c_FIGURES : ∃ u, mg "FIGURES" = some u ∧ RelV (.str "0123456789") u
  c_LETTERS : ∃ u, mg "LETTERS" = some u ∧ RelV (.str "abcdefghijklmnopqrstuvwxyz") u
  c_MOST : ∃ u, mg "MOST" = some u ∧ RelV (.int 60) u
  c_MOST_COMING : ∃ u, mg "MOST_COMING" = some u ∧ RelV (.int 12) u
  c_MOST_DAY : ∃ u, mg "MOST_DAY" = some u ∧ RelV (.int 400) u
  c_MOST_LAG : ∃ u, mg "MOST_LAG" = some u ∧ RelV (.int 30) u
  c_MOST_LETTERS : ∃ u, mg "MOST_LETTERS" = some u ∧ RelV (.int 8) u
  c_MOST_PARTS : ∃ u, mg "MOST_PARTS" = some u ∧ RelV (.int 6) u
  c_MOST_WANTS : ∃ u, mg "MOST_WANTS" = some u ∧ RelV (.int 20) u
  c_MOST_WARES : ∃ u, mg "MOST_WARES" = some u ∧ RelV (.int 12) u
  d_is_coming : ∃ f : Addr, Is K "is_coming" f
  d_is_part : ∃ f : Addr, Is K "is_part" f
  d_is_want : ∃ f : Addr, Is K "is_want" f
  d_is_ware : ∃ f : Addr, Is K "is_ware" f
  t_FORMS : KDs K w mg "FORMS" [("ware", [.int 1, .int 4]), ("coming", [.int 1, .int 2]), ("part", [.int 2, .int 1]), ("want", [.int 1, .int 2])]
/-! ### _law_drawn -/
abbrev s__law_drawn : Stmt := topS 33
abbrev N__law_drawn : List Str := ["script", "seed", "cell"]
theorem sc__law_drawn : FnScope N__law_drawn ["script"] (defScope s__law_drawn) := ⟨rfl, rfl, rfl, by decide +kernel, rfl, by decide +kernel, by decide +kernel⟩
section
variable {P : Program} {w : World} {K : PySem.W.Frag} {mg : Str → Option Value} {base : Heap}
abbrev sp__law_drawn (K : PySem.W.Frag) : Sp := SpA K (Gd K) true (fun ns : List Int => [.ro (ns.map D.int)]) (fun ns => ns.length ≤ 63) (fun _ d => ∃ l : List Int, d = .lst (l.map D.int) ∧ GoodSt1 l) noRs
theorem c__law_drawn (Dn : Dfn K mg "_law_drawn" s__law_drawn ["script"]) (Z : Glb K mg w)  : Cal P w K mg base 1 "_law_drawn" (sp__law_drawn K) [] := by
  obtain ⟨f, fd, F, hm, hb⟩ := Dn.ex
  refine ⟨f, fd, ["script"], [], ?_, hm, F.kp, hb, .nil⟩
  refine F.ok sc__law_drawn (fun vs H Q E h => spA_len (fun _ => rfl) h) (fun cdv A outer s H vs Q E hr h => ?_)
  refine ⟨_, (pss_cons (ps_set (i := 1) sc__law_drawn.nd rfl (.inl rfl) pe_int)
    (pss_cons (ps_for PassesOwn.never rfl (pi_list (pv 0)) (pg_name (i := 2) sc__law_drawn.nd rfl (.inl rfl))
    (pss_one (ps_set (i := 1) sc__law_drawn.nd rfl (.inl rfl) (pe_op op_mod (pe_op op_add (pe_op op_add (pe_op (op_mul.or op_mulW) (pv 1) pe_int) (pe_op op_mod (pv 2) (pe_op op_pow pe_int pe_int))) pe_int) (pe_op op_sub (pe_op op_pow pe_int pe_int) pe_int)))))
    (pss_cons (ps_if ((pw_and (pt_cmpR op_gt (pe_callB call_len_seq (by rfl) Z.b_len PySem.boot_len (pa_cons (pv 0) pa_nil)) pe_int (nomark _)) (pw_and1 (pt_cmpR op_eq (pe_op op_mod (pe_ix ix_list (pv 0) pe_int (fun _ _ => rfl)) pe_int) pe_int (nomark _))))).pt
    (pss_one (ps_ret (pe_op op_cat (pe_op op_cat (pe_lst (pa_cons (pe_op op_fdivW (pe_ix ix_list (pv 0) pe_int (fun _ _ => rfl)) pe_int) pa_nil)) (pe_slice sl_list (pv 0) (po_some pe_int) (po_some pe_int))) (pe_lst (pa_cons (pv 1) pa_nil)))))
    pss_nil)
    (pss_one (ps_ret (pe_lst (pa_cons (pv 1) pa_nil))))))), ?_⟩
  try dsimp only [cxOf, Cx.nox, Cx.wish]
  refine run_def (N := N__law_drawn) (fun _ => Nat.le_of_ble_eq_true rfl) (env0 := fun ns => [.p (.ro (ns.map D.int)), .u, .u]) (fun _ => rfl) (fun B ns hp L => ?_) h
  repeat walk_at "v"
  refine vs_for (vi_l ?_)
  repeat walk_at "v"
  refine ⟨_, rfl, fun i e => ∃ s x, e = [.p (.ro (ns.map D.int)), .p (.int s), x], ⟨_, _, rfl⟩, ?_, ?_⟩
  · rintro i d e hi ⟨s, x, rfl⟩
    obtain ⟨n, hn, rfl⟩ := map_get hi
    repeat walk_at "v"
    exact ⟨_, _, rfl⟩
  · rintro e ⟨s, x, rfl⟩
    repeat walk_at "v"
    refine vs_if ?_
    repeat walk_at "v"
    refine ⟨fun hb => ?_, fun hb => ?_⟩
    · obtain ⟨n, r, rfl⟩ := cons_of_ne (l := ns) (fun z => by subst z; simp at hb)
      repeat walk_at "v"
      refine vo_ixL rfl (atI_nat (j := 0) rfl) ?_
      repeat walk_at "v"
      refine ⟨fun _ => ?_, fun _ => ?_⟩
      · repeat walk_at "v"
        refine vo_ixL rfl (atI_nat (j := 0) rfl) ?_
        repeat walk_at "v"
        rw [cutD_ints]
        have hlen : (List.take (HT.sIx (n :: r).length (n :: r).length (some 63) - HT.sIx (n :: r).length 0 (some 1)) (List.drop (HT.sIx (n :: r).length 0 (some 1)) (n :: r))).length ≤ 63 := by
          rw [List.length_take, List.length_drop]
          omega
        refine vo_cat rfl rfl (by rw [List.length_map]; show 1 + _ ≤ 100000; omega) ?_
        repeat walk_at "v"
        refine vo_cat rfl rfl (by rw [List.length_append, List.length_map]; show 1 + _ + 1 ≤ 100000; omega) ?_
        refine ⟨[n / 2] ++ List.take (HT.sIx (n :: r).length (n :: r).length (some 63) - HT.sIx (n :: r).length 0 (some 1)) (List.drop (HT.sIx (n :: r).length 0 (some 1)) (n :: r)) ++ [s], by rw [List.map_append, List.map_append]; rfl, by simp, ?_⟩
        rw [List.length_append, List.length_append]
        show 1 + _ + 1 ≤ 100
        omega
      · repeat walk_at "v"
        exact ⟨[s], rfl, by simp, by simp⟩
    · refine and_f rfl ?_
      repeat walk_at "v"
      exact ⟨[s], rfl, by simp, by simp⟩

end
/-! ### _law_next -/
abbrev s__law_next : Stmt := topS 32
abbrev N__law_next : List Str := ["state", "many", "digit"]
theorem sc__law_next : FnScope N__law_next ["state", "many"] (defScope s__law_next) := ⟨rfl, rfl, rfl, by decide +kernel, rfl, by decide +kernel, by decide +kernel⟩
section
variable {P : Program} {w : World} {K : PySem.W.Frag} {mg : Str → Option Value} {base : Heap}
abbrev sp__law_next (K : PySem.W.Frag) : Sp := SpA K (Gd K) false (fun m : Int => [.st, .int m]) (fun m => 0 < m ∧ m ≤ 10 ^ 50) (fun m d => ∃ k, d = .int k ∧ 0 ≤ k ∧ k < m) noRs
theorem c__law_next (Dn : Dfn K mg "_law_next" s__law_next ["state", "many"]) (Z : Glb K mg w)  : Cal P w K mg base 1 "_law_next" (sp__law_next K) [] := by
  obtain ⟨f, fd, F, hm, hb⟩ := Dn.ex
  refine ⟨f, fd, ["state", "many"], [], ?_, hm, F.kp, hb, .nil⟩
  refine F.ok sc__law_next (fun vs H Q E h => spA_len (fun _ => rfl) h) (fun cdv A outer s H vs Q E hr h => ?_)
  refine ⟨_, (pss_cons (ps_if (pt_cmpR op_gt (pe_callB call_len_seq (by rfl) Z.b_len PySem.boot_len (pa_cons (pv 0) pa_nil)) pe_int (nomark _))
    (pss_cons (ps_set (i := 2) sc__law_next.nd rfl (.inl rfl) (pe_op op_mod (pe_ix ix_list (pv 0) pe_int (fun _ _ => rfl)) (pv 1)))
      (pss_cons (ps_asg (pe_op op_fdivW (pe_ix ix_list (pv 0) pe_int (fun _ _ => rfl)) (pv 1)) (pg_sub (pv 0) pe_int set_list))
      (pss_cons (ps_if (pt_cmpR op_in_seq (pe_ix ix_list (pv 0) pe_int (fun _ _ => rfl)) (pe_tup (pa_cons pe_int (pa_cons (pe_un un_neg pe_int) pa_nil))) (by rfl))
      (pss_one (ps_expr (pe_bm PySem.F.plainAttrs_list PySem.F.slot_list_pop PySem.F.type_list_pop mt_popAt (pv 0) (pa_cons pe_int pa_nil))))
      pss_nil)
      (pss_one (ps_ret (pv 2))))))
    pss_nil)
    (pss_cons (ps_asg (pe_op op_mod (pe_op op_add (pe_op (op_mul.or op_mulW) (pe_ix ix_list (pv 0) pe_int (fun _ _ => rfl)) pe_int) pe_int) (pe_op op_sub (pe_op op_pow pe_int pe_int) pe_int)) (pg_sub (pv 0) pe_int set_list))
    (pss_one (ps_ret (pe_op op_mod (pe_op op_fdivW (pe_ix ix_list (pv 0) pe_int (fun _ _ => rfl)) pe_int) (pv 1)))))), ?_⟩
  try dsimp only [cxOf, Cx.nox, Cx.wish]
  obtain ⟨R, m, ⟨s, _⟩, ha, ⟨hm, hm2⟩, q, _⟩ := h
  have hlog : m.natAbs.log2 < 9000 := by
    rw [Nat.log2_lt (by omega)]
    exact Nat.lt_of_le_of_lt (show m.natAbs ≤ 10 ^ 50 by omega) (by decide)
  cases ha with
  | cons h1 t =>
  cases t with
  | cons h2 t =>
  cases t
  cases h2
  obtain ⟨a, φ, rfl, hR⟩ := st_at h1
  obtain ⟨ns, hH, hg1, hg2⟩ := s a _ hR
  obtain ⟨x, r, rfl⟩ : ∃ x r, ns = x :: r := by
    cases ns with
    | nil => exact absurd rfl hg1
    | cons x r => exact ⟨x, r, rfl⟩
  have hL : SqL K H a ((x :: r).map V.int) := .inl (.inl hH)
  have at0 : ∀ (y : Int), atI ((y :: r).map V.int) 0 = some (.int y) := fun y => atI_nat (j := 0) rfl
  have ix0 : ∀ (y : Int), ixN ((y :: r).map V.int).length 0 = some 0 := fun y => by simp [ixN]
  have sq0 : seqIndex? 0 ((x / m :: r).map V.int).length = some 0 := by
    rw [seqIndex_of (by decide) (by simp <;> omega)]
    rfl
  have fin : ∀ (k : Int) (H' : Hp), 0 ≤ k → k < m → VL.Step K (Gd K) R H R H' → Q (.int k) H' := fun k H' k0 k1 st => q _ R H' (.int k) st (.int k) (fun z => by cases z) ⟨k, rfl, k0, k1⟩
  refine ⟨.ref a, rfl, a, _, rfl, .inl hL, _, _, rfl, rfl, _, rfl, ite2 (fun hc => ?_) (fun hc => ?_)⟩
  · have hc1 : (1 : Int) < (((x :: r).map V.int).length : Int) := of_decide_eq_true hc
    have hr1 : r ≠ [] := fun z => by
      subst z
      exact absurd hc1 (by show ¬ (1 : Int) < 1; decide)
    have g1 : GoodSt1 (x / m :: r) := ⟨by simp, by simpa using hg2⟩
    have g2 : GoodSt1 r := ⟨hr1, by simp at hg2; omega⟩
    have st1 := step_st s hR g1
    refine ⟨.ref a, rfl, a, _, 0, .int x, rfl, rfl, hL, at0 x, .int m, rfl, _, _, rfl, rfl, hm, ?_⟩
    refine ⟨.ref a, rfl, a, _, 0, .int x, rfl, rfl, hL, at0 x, .int m, rfl, _, _, rfl, rfl, ⟨hm, hlog⟩, .ref a, rfl, a, _, 0, 0, rfl, rfl, hH, ix0 x, ?_⟩
    have hH1 : (upd H a (.lst ((x / m :: r).map V.int))) a = some (.lst ((x / m :: r).map V.int)) := upd_same
    have hL1 : SqL K (upd H a (.lst ((x / m :: r).map V.int))) a ((x / m :: r).map V.int) := .inl (.inl hH1)
    refine ⟨.ref a, rfl, a, _, 0, .int (x / m), rfl, rfl, hL1, at0 _, _, rfl, by show 2 ≤ sizeLine; decide, fun T hT => ?_⟩
    have naT : a ≠ T := ne_of_none hH1 hT
    have st2 := st1.trans (step_new (o := .tup [.int 0, .int (-1)]) st1.sub hT)
    have hH2 : (upd (upd H a (.lst ((x / m :: r).map V.int))) T (.tup [.int 0, .int (-1)])) a = some (.lst ((x / m :: r).map V.int)) := by
      rw [upd_ne naT]
      exact hH1
    refine ⟨T, _, rfl, .inr (.inl (.inl upd_same)), rfl, rfl, _, rfl, ite2 (fun _ => ?_) (fun _ => ?_)⟩
    · refine ⟨.ref a, rfl, .inl ⟨rfl, _, .inl (.inl hH2)⟩, a, _, 0, 0, .int (x / m), rfl, rfl, hH2, by decide, by decide, sq0, rfl, ?_⟩
      refine ⟨_, rfl, fin _ _ (Int.emod_nonneg _ (by omega)) (Int.emod_lt_of_pos _ hm) ?_⟩
      exact st2.trans (step_st st2.sub hR g2)
    · exact ⟨_, rfl, fin _ _ (Int.emod_nonneg _ (by omega)) (Int.emod_lt_of_pos _ hm) st2⟩
  · refine ⟨.ref a, rfl, a, _, 0, .int x, rfl, rfl, hL, at0 x, ?_⟩
    refine .inl ⟨_, _, rfl, rfl, .inr ⟨by decide, by decide⟩, _, _, rfl, rfl, _, _, rfl, rfl, ⟨by decide, by decide, by decide⟩, _, _, rfl, rfl, _, _, rfl, rfl, (by show (0 : Int) < 2 ^ (61 : Int).toNat - 1; decide), .ref a, rfl, a, _, 0, 0, rfl, rfl, hH, ix0 x, ?_⟩
    have g3 : GoodSt1 ((x * 1181783497276652981 + 12345678910987) % (2 ^ (61 : Int).toNat - 1) :: r) := ⟨by simp, by simpa using hg2⟩
    have st3 := step_st s hR g3
    refine ⟨.ref a, rfl, a, _, 0, .int ((x * 1181783497276652981 + 12345678910987) % (2 ^ (61 : Int).toNat - 1)), rfl, rfl, .inl (.inl upd_same), at0 _, _, _, rfl, rfl, ⟨by decide, by decide⟩, .int m, rfl, _, _, rfl, rfl, hm, fin _ _ (Int.emod_nonneg _ (by omega)) (Int.emod_lt_of_pos _ hm) st3⟩

end
/-! ### _law_names -/
abbrev s__law_names : Stmt := topS 35
abbrev N__law_names : List Str := ["state", "many", "letters", "k"]
theorem sc__law_names : FnScope N__law_names ["state", "many"] (defScope s__law_names) := ⟨rfl, rfl, rfl, by decide +kernel, rfl, by decide +kernel, by decide +kernel⟩
section
variable {P : Program} {w : World} {K : PySem.W.Frag} {mg : Str → Option Value} {base : Heap}
abbrev sp__law_names (K : PySem.W.Frag) : Sp := SpA K (Gd K) true (fun m : Int => [.st, .int m]) (fun m => 1 ≤ m ∧ m ≤ 12) (fun m d => ∃ zs : List Str, d = strsD zs ∧ (zs.length : Int) = m ∧ Sfx zs) noRs
theorem c__law_names (Dn : Dfn K mg "_law_names" s__law_names ["state", "many"]) (Z : Glb K mg w) (C__law_next : Cal P w K mg base 1 "_law_next" (sp__law_next K) []) : Cal P w K mg base 2 "_law_names" (sp__law_names K) [] := by
  obtain ⟨f, fd, F, hm, hb⟩ := Dn.ex
  refine ⟨f, fd, ["state", "many"], [], ?_, hm, F.kp, hb, .nil⟩
  refine F.ok sc__law_names (fun vs H Q E h => spA_len (fun _ => rfl) h) (fun cdv A outer s H vs Q E hr h => ?_)
  refine ⟨_, (pss_cons (ps_set (i := 2) sc__law_names.nd rfl (.inr rfl) pe_str)
    (pss_one (ps_ret (pe_lc (own := [("k", 3)]) rfl sc__law_names.nd (pi_range1 (by rfl) Z.b_range (pa_cons (pv 1) pa_nil)) (blkOk_by (N := N__law_names) (sc := defScope s__law_names) (by decide +kernel)) (fun _ _ _ _ _ => (pg_name (i := 3) sc__law_names.nd rfl (.inl rfl))) (fun _ _ _ _ _ => pts_nil) (fun _ _ _ _ _ => (pe_op op_add_str (pe_op op_repS (pe_ix ix_str (pv 2) (pe_c C__law_next hr (by first | decide | omega) (by rfl) (pa_cons (pv 0) (pa_cons pe_int pa_nil))) (fun _ _ => rfl)) (pe_c C__law_next hr (by first | decide | omega) (by rfl) (pa_cons (pv 0) (pa_cons pe_int pa_nil)))) (pe_ix ix_str pe_str (pv 3) (fun _ _ => rfl)))))))), ?_⟩
  try dsimp only [cxOf, Cx.nox, Cx.wish]
  refine run_def (N := N__law_names) (fun _ => Nat.le_of_ble_eq_true rfl) (env0 := fun m : Int => [.p .st, .p (.int m), .u, .u]) (fun _ => rfl) (fun B m hp L => ?_) h
  repeat walk_at "v"
  refine ve_lc (hu1 rfl) (only_name (by decide)) (vi_range1 ?_)
  repeat walk_at "v"
  refine ⟨_, rfl, ⟨by omega, by omega⟩, by rw [rangeD_len]; omega, fun j acc => ∃ zs : List Str, acc = zs.map D.str ∧ zs.length = j ∧ Sfx zs, ⟨[], rfl, rfl, .nil⟩, ?_, ?_⟩
  · rintro q j d acc hj ⟨zs, rfl, hl, hs⟩
    obtain ⟨hj2, rfl⟩ := rangeD_get hj
    have hj12 : j < 12 := by omega
    rw [show (0 : Int) + ((j : Nat) : Int) = ((j : Nat) : Int) by omega]
    obtain ⟨c, hc1, hc2, hc3⟩ := sfx_at hj12
    repeat walk_at "v"
    refine ⟨.set .refl (by decide), ?_⟩
    repeat walk_at "v"
    refine and_t rfl ?_
    repeat walk_at "v"
    walk_at "c"
    repeat walk_at "v"
    refine ⟨_, rfl, ⟨by first | decide | omega, by first | decide | omega⟩, fun _ h => h, ?_⟩
    rintro _ ⟨a, rfl, a0, a1⟩
    repeat walk_at "v"
    refine vo_ixS (by decide) (abc_at a0 (by omega)) ?_
    repeat walk_at "v"
    walk_at "c"
    repeat walk_at "v"
    refine ⟨_, rfl, ⟨by first | decide | omega, by first | decide | omega⟩, fun _ h => h, ?_⟩
    rintro _ ⟨n, rfl, n0, n1⟩
    repeat walk_at "v"
    refine vo_repS (by omega) (by omega) fun y hy => ?_
    have hyl : y.length ≤ 7 := by rw [str_len, hy, List.length_replicate]; omega
    repeat walk_at "v"
    refine vo_ixS (by decide) hc1 ?_
    repeat walk_at "v"
    refine vo_add_str (by show _ + 1 ≤ 100000; omega) ?_
    refine fz_p ⟨_, rfl, zs ++ [_], by rw [List.map_append]; rfl, by rw [List.length_append, hl]; rfl, hs.snoc hy (by omega) (by omega) (by rw [hl]; exact hc2) hc3⟩
  · rintro acc ⟨zs, rfl, hl, hs⟩
    rw [rangeD_len] at hl
    exact ⟨zs, rfl, by omega, hs⟩

end
/-! ### _law_amount -/
abbrev s__law_amount : Stmt := topS 34
abbrev N__law_amount : List Str := ["state", "number"]
theorem sc__law_amount : FnScope N__law_amount ["state"] (defScope s__law_amount) := ⟨rfl, rfl, rfl, by decide +kernel, rfl, by decide +kernel, by decide +kernel⟩
section
variable {P : Program} {w : World} {K : PySem.W.Frag} {mg : Str → Option Value} {base : Heap}
abbrev sp__law_amount (K : PySem.W.Frag) : Sp := SpA K (Gd K) false (fun _ : Unit => [.st]) (fun _ => True) (fun _ d => ∃ n, d = .int n ∧ 0 ≤ n ∧ n < 10 ^ 41) noRs
theorem c__law_amount (Dn : Dfn K mg "_law_amount" s__law_amount ["state"]) (Z : Glb K mg w) (C__law_next : Cal P w K mg base 1 "_law_next" (sp__law_next K) []) : Cal P w K mg base 2 "_law_amount" (sp__law_amount K) [] := by
  obtain ⟨f, fd, F, hm, hb⟩ := Dn.ex
  refine ⟨f, fd, ["state"], [], ?_, hm, F.kp, hb, .nil⟩
  refine F.ok sc__law_amount (fun vs H Q E h => spA_len (fun _ => rfl) h) (fun cdv A outer s H vs Q E hr h => ?_)
  refine ⟨_, (pss_cons (ps_set (i := 1) sc__law_amount.nd rfl (.inl rfl) (pe_c C__law_next hr (by first | decide | omega) (by rfl) (pa_cons (pv 0) (pa_cons pe_int pa_nil))))
    (pss_cons (ps_if (pt_cmpR op_eq (pe_c C__law_next hr (by first | decide | omega) (by rfl) (pa_cons (pv 0) (pa_cons pe_int pa_nil))) pe_int (nomark _))
    (pss_one (ps_ret (pe_op op_add (pe_op (op_mul.or op_mulW) (pv 1) (pe_op op_pow pe_int pe_int)) (pe_c C__law_next hr (by first | decide | omega) (by rfl) (pa_cons (pv 0) (pa_cons pe_int pa_nil))))))
    pss_nil)
    (pss_one (ps_ret (pv 1))))), ?_⟩
  try dsimp only [cxOf, Cx.nox, Cx.wish]
  refine run_def (N := N__law_amount) (fun _ => Nat.le_of_ble_eq_true rfl) (env0 := fun _ => [.p .st, .u]) (fun _ => rfl) (fun B _ _ L => ?_) h
  repeat walk_at "v"
  walk_at "c"
  repeat walk_at "v"
  refine ⟨_, rfl, ⟨by first | decide | omega, by first | decide | omega⟩, fun _ h => h, ?_⟩
  rintro _ ⟨n, rfl, n0, n1⟩
  repeat walk_at "v"
  refine vs_if ?_
  repeat walk_at "v"
  walk_at "c"
  repeat walk_at "v"
  refine ⟨_, rfl, ⟨by first | decide | omega, by first | decide | omega⟩, fun _ h => h, ?_⟩
  rintro _ ⟨k, rfl, k0, k1⟩
  repeat walk_at "v"
  have e1 : (10 : Int) ^ (40 : Int).toNat = 10 ^ 40 := rfl
  refine ⟨fun _ => ?_, fun _ => ?_⟩
  · repeat walk_at "v"
    repeat walk_at "v"
    walk_at "c"
    repeat walk_at "v"
    refine ⟨_, rfl, ⟨by first | decide | omega, by first | decide | omega⟩, fun _ h => h, ?_⟩
    rintro _ ⟨m, rfl, m0, m1⟩
    repeat walk_at "v"
    rw [e1]
    exact ⟨rfl, _, rfl, by omega, by omega⟩
  · repeat walk_at "v"
    exact ⟨rfl, n, rfl, n0, by omega⟩

end
/-! ### _law_parts -/
abbrev s__law_parts : Stmt := topS 36
abbrev N__law_parts : List Str := ["state", "names", "parts", "name"]
theorem sc__law_parts : FnScope N__law_parts ["state", "names"] (defScope s__law_parts) := ⟨rfl, rfl, rfl, by decide +kernel, rfl, by decide +kernel, by decide +kernel⟩
section
variable {P : Program} {w : World} {K : PySem.W.Frag} {mg : Str → Option Value} {base : Heap}
abbrev sp__law_parts (K : PySem.W.Frag) : Sp := SpA K (Gd K) false (fun zs : List Str => [.st, strsD zs]) (fun zs => zs.length ≤ 12 ∧ zs.Nodup) (fun zs d => ∃ ps : List (Str × Int), d = .tup (ps.map partD) ∧ ps.length ≤ 6 ∧ (ps.map (·.1)).Nodup ∧ (∀ p ∈ ps, p.1 ∈ zs) ∧ ∀ p ∈ ps, 1 ≤ p.2 ∧ p.2 ≤ 4) noRs
theorem c__law_parts (Dn : Dfn K mg "_law_parts" s__law_parts ["state", "names"]) (Z : Glb K mg w) (C__law_next : Cal P w K mg base 1 "_law_next" (sp__law_next K) []) : Cal P w K mg base 2 "_law_parts" (sp__law_parts K) [] := by
  obtain ⟨f, fd, F, hm, hb⟩ := Dn.ex
  refine ⟨f, fd, ["state", "names"], [], ?_, hm, F.kp, hb, .nil⟩
  refine F.ok sc__law_parts (fun vs H Q E h => spA_len (fun _ => rfl) h) (fun cdv A outer s H vs Q E hr h => ?_)
  refine ⟨_, (pss_cons (ps_set (i := 2) sc__law_parts.nd rfl (.inl rfl) (pe_lst pa_nil))
    (pss_cons (ps_for PassesOwn.never rfl (pi_list (pv 1)) (pg_name (i := 3) sc__law_parts.nd rfl (.inl rfl))
    (pss_one (ps_if (pt_cmpR op_eq (pe_c C__law_next hr (by first | decide | omega) (by rfl) (pa_cons (pv 0) (pa_cons pe_int pa_nil))) pe_int (nomark _))
      (pss_one (ps_expr (pe_bm PySem.F.plainAttrs_list PySem.F.slot_list_append PySem.F.type_list_append mt_append (pv 2) (pa_cons (pe_tup (pa_cons (pv 3) (pa_cons (pe_op op_add pe_int (pe_c C__law_next hr (by first | decide | omega) (by rfl) (pa_cons (pv 0) (pa_cons pe_int pa_nil)))) pa_nil))) pa_nil))))
      pss_nil)))
    (pss_cons (ps_if (pt_cmpR op_eq (pe_c C__law_next hr (by first | decide | omega) (by rfl) (pa_cons (pv 0) (pa_cons pe_int pa_nil))) pe_int (nomark _))
    (pss_one (ps_expr (pe_bm0 PySem.F.plainAttrs_list PySem.F.slot_list_reverse PySem.F.type_list_reverse mt_reverse (pv 2))))
    pss_nil)
    (pss_one (ps_ret (pe_callTy call_tuple_of (by rfl) Z.b_tuple (by decide +kernel) (pa_cons (pe_slice sl_list (pv 2) po_none (po_some pe_int)) pa_nil))))))), ?_⟩
  try dsimp only [cxOf, Cx.nox, Cx.wish]
  refine run_def (N := N__law_parts) (fun _ => Nat.le_of_ble_eq_true rfl) (env0 := fun zs : List Str => [.p .st, .p (strsD zs), .u, .u]) (fun _ => rfl) (fun B zs hp L => ?_) h
  obtain ⟨hl, nd⟩ := hp
  repeat walk_at "v"
  refine vs_for (vi_l ?_)
  repeat walk_at "v"
  refine ⟨_, rfl, fun i e => ∃ (ps : List (Str × Int)) (x : Slot), e = [.p .st, .p (strsD zs), .mu (.lst (ps.map partD)), x] ∧ (ps.map (·.1)).Sublist (zs.take i) ∧ ∀ p ∈ ps, 1 ≤ p.2 ∧ p.2 ≤ 4, ⟨[], .u, rfl, List.nil_sublist _, fun p hp => by cases hp⟩, ?_, ?_⟩
  · rintro i d e hi ⟨ps, x, rfl, hs, hb⟩
    obtain ⟨z, hz, rfl⟩ := map_get hi
    have hpl : ps.length ≤ 12 := by
      have := hs.length_le
      rw [List.length_map, List.length_take] at this
      omega
    repeat walk_at "v"
    refine vs_if ?_
    repeat walk_at "v"
    walk_at "c"
    repeat walk_at "v"
    refine ⟨_, rfl, ⟨by first | decide | omega, by first | decide | omega⟩, fun _ h => h, ?_⟩
    rintro _ ⟨k, rfl, k0, k1⟩
    repeat walk_at "v"
    refine ⟨fun _ => ?_, fun _ => ?_⟩
    · repeat walk_at "v"
      walk_at "c"
      repeat walk_at "v"
      refine ⟨_, rfl, ⟨by first | decide | omega, by first | decide | omega⟩, fun _ h => h, ?_⟩
      rintro _ ⟨a, rfl, a0, a1⟩
      repeat walk_at "v"
      refine ⟨_, rfl, by rw [List.length_map]; omega, ?_⟩
      refine ⟨ps ++ [(z, 1 + a)], _, by rw [List.map_append]; rfl, ?_, fun p hp => ?_⟩
      · rw [take_one hz, List.map_append]
        exact List.Sublist.append hs (.refl _)
      · rcases List.mem_append.mp hp with q | q
        · exact hb p q
        · cases List.mem_singleton.mp q
          exact ⟨by show 1 ≤ 1 + a; omega, by show 1 + a ≤ 4; omega⟩
    · repeat walk_at "v"
      refine ⟨ps, _, rfl, ?_, hb⟩
      rw [take_one hz]
      exact hs.trans (List.sublist_append_left _ _)
  · rintro e ⟨ps, x, rfl, hs, hb⟩
    rw [List.length_map, List.take_length] at hs
    have hpl : ps.length ≤ 12 := by
      have := hs.length_le
      rw [List.length_map] at this
      omega
    repeat walk_at "v"
    refine vs_cut (fun e => ∃ (qs : List (Str × Int)), e = [.p .st, .p (strsD zs), .mu (.lst (qs.map partD)), x] ∧ qs.Perm ps) (vs_if ?_) ?_
    · repeat walk_at "v"
      walk_at "c"
      repeat walk_at "v"
      refine ⟨_, rfl, ⟨by first | decide | omega, by first | decide | omega⟩, fun _ h => h, ?_⟩
      rintro _ ⟨k, rfl, k0, k1⟩
      repeat walk_at "v"
      refine ⟨fun _ => ?_, fun _ => ?_⟩
      · repeat walk_at "v"
        exact ⟨ps.reverse, by rw [List.map_reverse]; rfl, List.reverse_perm _⟩
      · repeat walk_at "v"
        exact ⟨ps, rfl, .refl _⟩
    · rintro e ⟨qs, rfl, hq⟩
      repeat walk_at "v"
      rw [cutD_take partD qs (by decide)]
      have sub : (qs.take (6 : Int).toNat).Sublist qs := List.take_sublist _ _
      have nq : (qs.map (·.1)).Nodup := ((hq.map (·.1)).nodup_iff).mpr (hs.nodup nd)
      refine ⟨rfl, qs.take (6 : Int).toNat, rfl, by rw [List.length_take]; show min 6 _ ≤ 6; omega, (sub.map _).nodup nq, fun p hp => hs.subset (List.mem_map_of_mem (f := (·.1)) (hq.mem_iff.mp (sub.subset hp))), fun p hp => hb p (hq.mem_iff.mp (sub.subset hp))⟩

end
/-! ### _law_shop -/
abbrev s__law_shop : Stmt := topS 37
abbrev N__law_shop : List Str := ["state", "top", "names", "wares", "k", "name", "lag", "gives", "floor", "stock", "coming", "wants", "shift", "place"]
theorem sc__law_shop : FnScope N__law_shop ["state", "top"] (defScope s__law_shop) := ⟨rfl, rfl, rfl, by decide +kernel, rfl, by decide +kernel, by decide +kernel⟩
section
variable {P : Program} {w : World} {K : PySem.W.Frag} {mg : Str → Option Value} {base : Heap}
abbrev sp__law_shop (K : PySem.W.Frag) : Sp := SpA K (Gd K) false (fun m : Int => [.st, .int m]) (fun m => 1 ≤ m ∧ m ≤ 12) (fun m d => ∃ s : Shop, d = shopD s ∧ ShopG s ∧ Acyclic (partsOf s) ∧ (s.ws.length : Int) ≤ m ∧ s.wants.length ≤ 5) noRs
theorem c__law_shop (Dn : Dfn K mg "_law_shop" s__law_shop ["state", "top"]) (Z : Glb K mg w) (C__law_next : Cal P w K mg base 1 "_law_next" (sp__law_next K) []) (C__law_amount : Cal P w K mg base 2 "_law_amount" (sp__law_amount K) []) (C__law_parts : Cal P w K mg base 2 "_law_parts" (sp__law_parts K) []) (C__law_names : Cal P w K mg base 2 "_law_names" (sp__law_names K) []) : Cal P w K mg base 3 "_law_shop" (sp__law_shop K) [] := by
  obtain ⟨f, fd, F, hm, hb⟩ := Dn.ex
  refine ⟨f, fd, ["state", "top"], [], ?_, hm, F.kp, hb, .nil⟩
  refine F.ok sc__law_shop (fun vs H Q E h => spA_len (fun _ => rfl) h) (fun cdv A outer s H vs Q E hr h => ?_)
  refine ⟨_, (pss_cons (ps_set (i := 2) sc__law_shop.nd rfl (.inl rfl) (pe_c C__law_names hr (by first | decide | omega) (by rfl) (pa_cons (pv 0) (pa_cons (pe_op op_add pe_int (pe_c C__law_next hr (by first | decide | omega) (by rfl) (pa_cons (pv 0) (pa_cons (pv 1) pa_nil)))) pa_nil))))
    (pss_cons (ps_set (i := 3) sc__law_shop.nd rfl (.inl rfl) (pe_lst pa_nil))
    (pss_cons (ps_for PassesOwn.never rfl (pi_enum (by rfl) Z.b_enumerate (pa_cons (pv 2) pa_nil)) (pg_tup rfl (pgs_cons (pg_name (i := 4) sc__law_shop.nd rfl (.inl rfl)) (pgs_cons (pg_name (i := 5) sc__law_shop.nd rfl (.inl rfl)) pgs_nil)))
    (pss_cons (ps_set (i := 6) sc__law_shop.nd rfl (.inl rfl) (pe_c C__law_next hr (by first | decide | omega) (by rfl) (pa_cons (pv 0) (pa_cons pe_int pa_nil))))
      (pss_cons (ps_set (i := 7) sc__law_shop.nd rfl (.inl rfl) (pe_op op_add pe_int (pe_c C__law_next hr (by first | decide | omega) (by rfl) (pa_cons (pv 0) (pa_cons pe_int pa_nil)))))
      (pss_cons (ps_set (i := 8) sc__law_shop.nd rfl (.inl rfl) (pe_ix ix_list (pe_lst (pa_cons pe_int (pa_cons pe_int (pa_cons (pe_c C__law_next hr (by first | decide | omega) (by rfl) (pa_cons (pv 0) (pa_cons pe_int pa_nil))) pa_nil)))) (pe_c C__law_next hr (by first | decide | omega) (by rfl) (pa_cons (pv 0) (pa_cons pe_int pa_nil))) (fun _ _ => rfl)))
      (pss_cons (ps_set (i := 9) sc__law_shop.nd rfl (.inl rfl) (pe_ix ix_list (pe_lst (pa_cons (pv 8) (pa_cons (pe_op op_add (pv 8) (pe_c C__law_amount hr (by first | decide | omega) (by rfl) (pa_cons (pv 0) pa_nil))) (pa_cons (pe_c C__law_amount hr (by first | decide | omega) (by rfl) (pa_cons (pv 0) pa_nil)) pa_nil)))) (pe_c C__law_next hr (by first | decide | omega) (by rfl) (pa_cons (pv 0) (pa_cons pe_int pa_nil))) (fun _ _ => rfl)))
      (pss_cons (ps_set (i := 10) sc__law_shop.nd rfl (.inl rfl) (pe_callTy call_tuple_of (by rfl) Z.b_tuple (by decide +kernel) (pa_cons (pe_lc (own := [("place", 13)]) rfl sc__law_shop.nd (pi_range1 (by rfl) Z.b_range (pa_cons (pe_c C__law_next hr (by first | decide | omega) (by rfl) (pa_cons (pv 0) (pa_cons pe_int pa_nil))) pa_nil)) (blkOk_by (N := N__law_shop) (sc := defScope s__law_shop) (by decide +kernel)) (fun _ _ _ _ _ => (pg_name (i := 13) sc__law_shop.nd rfl (.inl rfl))) (fun _ _ _ _ _ => pts_nil) (fun _ _ _ _ _ => (pe_tup (pa_cons (pe_c C__law_next hr (by first | decide | omega) (by rfl) (pa_cons (pv 0) (pa_cons pe_int pa_nil))) (pa_cons (pe_c C__law_amount hr (by first | decide | omega) (by rfl) (pa_cons (pv 0) pa_nil)) pa_nil))))) pa_nil)))
      (pss_one (ps_expr (pe_bm PySem.F.plainAttrs_list PySem.F.slot_list_append PySem.F.type_list_append mt_append (pv 3) (pa_cons (pe_tup (pa_cons (pv 5) (pa_cons (pv 6) (pa_cons (pv 7) (pa_cons (pv 8) (pa_cons (pv 9) (pa_cons (pv 10) (pa_cons (pe_c C__law_parts hr (by first | decide | omega) (by rfl) (pa_cons (pv 0) (pa_cons (pe_slice sl_list (pv 2) (po_some (pe_op op_add (pv 4) pe_int)) po_none) pa_nil))) pa_nil)))))))) pa_nil))))))))))
    (pss_cons (ps_set (i := 11) sc__law_shop.nd rfl (.inl rfl) (pe_lst pa_nil))
    (pss_cons (ps_for PassesOwn.never rfl (pi_range1 (by rfl) Z.b_range (pa_cons (pe_c C__law_next hr (by first | decide | omega) (by rfl) (pa_cons (pv 0) (pa_cons pe_int pa_nil))) pa_nil)) (pg_name (i := 4) sc__law_shop.nd rfl (.inl rfl))
    (pss_one (ps_expr (pe_bm PySem.F.plainAttrs_list PySem.F.slot_list_append PySem.F.type_list_append mt_append (pv 11) (pa_cons (pe_tup (pa_cons (pe_ix ix_list (pv 2) (pe_c C__law_next hr (by first | decide | omega) (by rfl) (pa_cons (pv 0) (pa_cons (pe_callB call_len_seq (by rfl) Z.b_len PySem.boot_len (pa_cons (pv 2) pa_nil)) pa_nil))) (fun _ _ => rfl)) (pa_cons (pe_c C__law_next hr (by first | decide | omega) (by rfl) (pa_cons (pv 0) (pa_cons pe_int pa_nil))) (pa_cons (pe_c C__law_amount hr (by first | decide | omega) (by rfl) (pa_cons (pv 0) pa_nil)) pa_nil)))) pa_nil)))))
    (pss_cons (ps_set (i := 12) sc__law_shop.nd rfl (.inl rfl) (pe_c C__law_next hr (by first | decide | omega) (by rfl) (pa_cons (pv 0) (pa_cons (pe_callB call_len_seq (by rfl) Z.b_len PySem.boot_len (pa_cons (pv 2) pa_nil)) pa_nil))))
    (pss_one (ps_ret (pe_tup (pa_cons (pe_callTy call_tuple_of (by rfl) Z.b_tuple (by decide +kernel) (pa_cons (pe_op op_cat (pe_slice sl_list (pv 3) (po_some (pv 12)) po_none) (pe_slice sl_list (pv 3) po_none (po_some (pv 12)))) pa_nil)) (pa_cons (pe_callTy call_tuple_of (by rfl) Z.b_tuple (by decide +kernel) (pa_cons (pv 11) pa_nil)) pa_nil))))))))))), ?_⟩
  try dsimp only [cxOf, Cx.nox, Cx.wish]
  refine run_def (N := N__law_shop) (fun _ => Nat.le_of_ble_eq_true rfl) (env0 := fun m : Int => [.p .st, .p (.int m), .u, .u, .u, .u, .u, .u, .u, .u, .u, .u, .u, .u]) (fun _ => rfl) (fun B m hp L => ?_) h
  refine vs_seq ?_
  refine vs_asg ?_
  walk_at "c"
  repeat walk_at "v"
  walk_at "c"
  repeat walk_at "v"
  refine ⟨_, rfl, ⟨by first | decide | omega, by first | decide | omega⟩, fun _ h => h, ?_⟩
  rintro _ ⟨n, rfl, n0, n1⟩
  repeat walk_at "v"
  refine ⟨_, rfl, ⟨by omega, by omega⟩, fun _ h => h, ?_⟩
  rintro _ ⟨zs, rfl, hzl, hs⟩
  have hnd := hs.nodup (by omega)
  repeat walk_at "v"
  refine vs_for (vi_enum ?_)
  repeat walk_at "v"
  refine ⟨_, _, rfl, rfl, fun i e => ∃ (ws : List Ware) (x4 x5 x6 x7 x8 x9 x10 : Slot), e = [.p .st, .p (.int m), .p (strsD zs), .mu (.lst (ws.map wareD)), x4, x5, x6, x7, x8, x9, x10, .u, .u, .u] ∧ Chained zs ws i, ⟨[], .u, .u, .u, .u, .u, .u, .u, rfl, .nil⟩, ?_, ?_⟩
  · rintro i d e hi ⟨ws, x4, x5, x6, x7, x8, x9, x10, rfl, hc⟩
    obtain ⟨d, hd, rfl⟩ := enumD_get hi
    obtain ⟨z, hz, rfl⟩ := map_get hd
    have hiz := lt_of_get hz
    have hzok := hs.ok z (List.mem_of_getElem? hz)
    repeat walk_at "v"
    walk_at "c"
    repeat walk_at "v"
    refine ⟨_, rfl, ⟨by first | decide | omega, by first | decide | omega⟩, fun _ h => h, ?_⟩
    rintro _ ⟨lag, rfl, lag0, lag1⟩
    repeat walk_at "v"
    walk_at "c"
    repeat walk_at "v"
    refine ⟨_, rfl, ⟨by first | decide | omega, by first | decide | omega⟩, fun _ h => h, ?_⟩
    rintro _ ⟨g, rfl, g0, g1⟩
    repeat walk_at "v"
    walk_at "c"
    repeat walk_at "v"
    refine ⟨_, rfl, ⟨by first | decide | omega, by first | decide | omega⟩, fun _ h => h, ?_⟩
    rintro _ ⟨f, rfl, f0, f1⟩
    repeat walk_at "v"
    walk_at "c"
    repeat walk_at "v"
    refine ⟨_, rfl, ⟨by first | decide | omega, by first | decide | omega⟩, fun _ h => h, ?_⟩
    rintro _ ⟨q, rfl, q0, q1⟩
    repeat walk_at "v"
    obtain ⟨fl, hfl, hfl2⟩ := pickL (P := fun v => 0 ≤ v ∧ v ≤ 6) (l := [0, 0, f]) (k := q) q0 (by show q < (3 : Int); omega) (by
      intro x hx
      simp only [List.mem_cons, List.not_mem_nil, or_false] at hx
      omega)
    refine vo_ixL rfl hfl ?_
    repeat walk_at "v"
    walk_at "c"
    repeat walk_at "v"
    refine ⟨(), rfl, trivial, fun _ h => h, ?_⟩
    rintro _ ⟨a1, rfl, a10, a11⟩
    repeat walk_at "v"
    walk_at "c"
    repeat walk_at "v"
    refine ⟨(), rfl, trivial, fun _ h => h, ?_⟩
    rintro _ ⟨a2, rfl, a20, a21⟩
    repeat walk_at "v"
    walk_at "c"
    repeat walk_at "v"
    refine ⟨_, rfl, ⟨by first | decide | omega, by first | decide | omega⟩, fun _ h => h, ?_⟩
    rintro _ ⟨q', rfl, q0', q1'⟩
    repeat walk_at "v"
    obtain ⟨st, hst, hst2⟩ := pickL (P := fun v => 0 ≤ v ∧ v < 10 ^ 42) (l := [fl, fl + a1, a2]) (k := q') q0' (by show q' < (3 : Int); omega) (by
      intro x hx
      simp only [List.mem_cons, List.not_mem_nil, or_false] at hx
      omega)
    refine vo_ixL rfl hst ?_
    repeat walk_at "v"
    refine ve_lc (hu1 rfl) (only_name (by decide)) (vi_range1 ?_)
    repeat walk_at "v"
    walk_at "c"
    repeat walk_at "v"
    refine ⟨_, rfl, ⟨by first | decide | omega, by first | decide | omega⟩, fun _ h => h, ?_⟩
    rintro _ ⟨c, rfl, c0, c1⟩
    repeat walk_at "v"
    refine ⟨_, rfl, ⟨by omega, by omega⟩, by rw [rangeD_len]; omega, fun j acc => ∃ ps : List (Int × Int), acc = ps.map pairD ∧ ps.length = j ∧ ∀ p ∈ ps, (0 ≤ p.1 ∧ p.1 ≤ 400) ∧ Amt p.2, ⟨[], rfl, rfl, fun p hp => by cases hp⟩, ?_, ?_⟩
    · rintro q j d acc hj ⟨ps, rfl, hl, hok⟩
      repeat walk_at "v"
      refine ⟨.set .refl (by decide), ?_⟩
      repeat walk_at "v"
      refine and_t rfl ?_
      repeat walk_at "v"
      walk_at "c"
      repeat walk_at "v"
      refine ⟨_, rfl, ⟨by first | decide | omega, by first | decide | omega⟩, fun _ h => h, ?_⟩
      rintro _ ⟨r, rfl, r0, r1⟩
      repeat walk_at "v"
      walk_at "c"
      repeat walk_at "v"
      refine ⟨(), rfl, trivial, fun _ h => h, ?_⟩
      rintro _ ⟨u, rfl, u0, u1⟩
      repeat walk_at "v"
      refine ⟨_, rfl, ps ++ [(r, u)], by rw [List.map_append]; rfl, by rw [List.length_append, hl]; rfl, fun p hp => ?_⟩
      rcases List.mem_append.mp hp with q | q
      · exact hok p q
      · cases List.mem_singleton.mp q
        exact ⟨⟨r0, by show r ≤ 400; omega⟩, u0, by show u < 10 ^ 42; omega⟩
    rintro acc ⟨cs, rfl, hcl, hcok⟩
    rw [rangeD_len] at hcl
    repeat walk_at "v"
    walk_at "c"
    repeat walk_at "v"
    rw [cutD_drop D.str zs (by omega), show ((i : Int) + 1).toNat = i + 1 by omega]
    refine ⟨zs.drop (i + 1), rfl, ⟨by rw [List.length_drop]; omega, (List.drop_sublist _ _).nodup hnd⟩, fun _ h => h, ?_⟩
    rintro _ ⟨ps, rfl, hpl, hpn, hpm, hpb⟩
    repeat walk_at "v"
    refine ⟨_, rfl, by rw [List.length_map, hc.len]; omega, ?_⟩
    have hw : WareG ⟨z, lag, 1 + g, fl, st, cs, ps⟩ := ⟨hzok, ⟨lag0, by show lag ≤ 30; omega⟩, ⟨by show 1 ≤ 1 + g; omega, by show 1 + g < 10 ^ 42; omega⟩, ⟨hfl2.1, by show fl < 10 ^ 42; omega⟩, hst2, by show cs.length ≤ 12; omega, hcok, hpl, hpn, fun p hp => ⟨(hpb p hp).1, by have := (hpb p hp).2; omega⟩⟩
    exact ⟨ws ++ [⟨z, lag, 1 + g, fl, st, cs, ps⟩], _, _, _, _, _, _, _, by rw [List.map_append]; rfl, hc.snoc hz hw rfl hpm⟩
  · rintro e ⟨ws, x4, x5, x6, x7, x8, x9, x10, rfl, hc⟩
    rw [enumD_len, List.length_map] at hc
    have hwl := hc.len
    refine vs_forget 4 ?_
    repeat walk_at "v"
    refine vs_for (vi_range1 ?_)
    repeat walk_at "v"
    walk_at "c"
    repeat walk_at "v"
    refine ⟨_, rfl, ⟨by first | decide | omega, by first | decide | omega⟩, fun _ h => h, ?_⟩
    rintro _ ⟨c, rfl, c0, c1⟩
    repeat walk_at "v"
    refine ⟨_, rfl, ⟨by omega, by omega⟩, fun i e => ∃ (vs : List Want) (x4 : Slot), e = [.p .st, .p (.int m), .p (strsD zs), .mu (.lst (ws.map wareD)), x4, x5, x6, x7, x8, x9, x10, .mu (.lst (vs.map wantD)), .u, .u] ∧ vs.length = i ∧ WantsG zs vs 20 400, ⟨[], .u, rfl, rfl, ⟨Nat.zero_le _, fun v hv => by cases hv⟩⟩, ?_, ?_⟩
    · rintro i d e hi ⟨vs, x4, rfl, hvl, hv⟩
      obtain ⟨hi2, rfl⟩ := rangeD_get hi
      repeat walk_at "v"
      walk_at "c"
      repeat walk_at "v"
      refine ⟨_, rfl, ⟨by rw [List.length_map]; omega, by rw [List.length_map]; omega⟩, fun _ h => h, ?_⟩
      rintro _ ⟨k, rfl, k0, k1⟩
      rw [List.length_map] at k1
      obtain ⟨j, y, rfl, hy, haty⟩ := atI_lt D.str (l := zs) k0 k1
      refine vo_ixL rfl haty ?_
      repeat walk_at "v"
      walk_at "c"
      repeat walk_at "v"
      refine ⟨_, rfl, ⟨by first | decide | omega, by first | decide | omega⟩, fun _ h => h, ?_⟩
      rintro _ ⟨dd, rfl, dd0, dd1⟩
      repeat walk_at "v"
      walk_at "c"
      repeat walk_at "v"
      refine ⟨(), rfl, trivial, fun _ h => h, ?_⟩
      rintro _ ⟨u, rfl, u0, u1⟩
      repeat walk_at "v"
      refine ⟨_, rfl, by rw [List.length_map]; omega, ?_⟩
      refine ⟨vs ++ [(y, dd, u)], _, by rw [List.map_append]; rfl, by rw [List.length_append, hvl]; rfl, ⟨by rw [List.length_append, hvl]; show i + 1 ≤ 20; omega, fun v hvm => ?_⟩⟩
      rcases List.mem_append.mp hvm with q | q
      · exact hv.ok v q
      · cases List.mem_singleton.mp q
        exact ⟨List.mem_of_getElem? hy, ⟨dd0, by show dd ≤ 400; omega⟩, u0, by show u < 10 ^ 42; omega⟩
    · rintro e ⟨vs, x4, rfl, hvl, hv⟩
      rw [rangeD_len] at hvl
      repeat walk_at "v"
      walk_at "c"
      repeat walk_at "v"
      refine ⟨_, rfl, ⟨by rw [List.length_map]; omega, by rw [List.length_map]; omega⟩, fun _ h => h, ?_⟩
      rintro _ ⟨k, rfl, k0, k1⟩
      repeat walk_at "v"
      rw [cutD_drop wareD ws (by omega), cutD_take wareD ws (by omega)]
      refine vo_catE (fs := (ws.drop k.toNat ++ ws.take k.toNat).map wareD) rfl rfl (by rw [List.map_append]) (by rw [List.length_map, List.length_append, List.length_drop, List.length_take]; omega) ?_
      repeat walk_at "v"
      obtain ⟨g1, g2⟩ := hc.shop hnd (turnAt_perm k.toNat ws) (by omega) (by omega) hv
      refine ⟨rfl, ⟨turnAt k.toNat ws, vs⟩, rfl, g1, g2, ?_, ?_⟩
      · show ((turnAt k.toNat ws).length : Int) ≤ m
        rw [(turnAt_perm k.toNat ws).length_eq]
        omega
      · show vs.length ≤ 5
        omega

end
/-! ### _law_any_shop -/
abbrev s__law_any_shop : Stmt := topS 38
abbrev N__law_any_shop : List Str := ["state", "shop", "wares", "spot", "ware", "other", "parts", "part"]
theorem sc__law_any_shop : FnScope N__law_any_shop ["state"] (defScope s__law_any_shop) := ⟨rfl, rfl, rfl, by decide +kernel, rfl, by decide +kernel, by decide +kernel⟩
section
variable {P : Program} {w : World} {K : PySem.W.Frag} {mg : Str → Option Value} {base : Heap}
abbrev sp__law_any_shop (K : PySem.W.Frag) : Sp := SpA K (Gd K) false (fun _ : Unit => [.st]) (fun _ => True) (fun _ d => ∃ s : Shop, d = shopD s ∧ ShopG s) noRs
theorem c__law_any_shop (Dn : Dfn K mg "_law_any_shop" s__law_any_shop ["state"]) (Z : Glb K mg w) (C__law_next : Cal P w K mg base 1 "_law_next" (sp__law_next K) []) (C__law_shop : Cal P w K mg base 3 "_law_shop" (sp__law_shop K) []) : Cal P w K mg base 4 "_law_any_shop" (sp__law_any_shop K) [] := by
  obtain ⟨f, fd, F, hm, hb⟩ := Dn.ex
  refine ⟨f, fd, ["state"], [], ?_, hm, F.kp, hb, .nil⟩
  refine F.ok sc__law_any_shop (fun vs H Q E h => spA_len (fun _ => rfl) h) (fun cdv A outer s H vs Q E hr h => ?_)
  refine ⟨_, (pss_cons (ps_set (i := 1) sc__law_any_shop.nd rfl (.inl rfl) (pe_c C__law_shop hr (by first | decide | omega) (by rfl) (pa_cons (pv 0) (pa_cons (pe_ix ix_list (pe_lst (pa_cons pe_int (pa_cons pe_int pa_nil))) (pe_callTy call_int1 (by rfl) Z.b_int (by decide +kernel) (pa_cons (pe_cmpR op_eq (pe_c C__law_next hr (by first | decide | omega) (by rfl) (pa_cons (pv 0) (pa_cons pe_int pa_nil))) pe_int (nomark _)) pa_nil)) (fun _ _ => rfl)) pa_nil))))
    (pss_cons (ps_if (pt_cmpR op_gt (pe_c C__law_next hr (by first | decide | omega) (by rfl) (pa_cons (pv 0) (pa_cons pe_int pa_nil))) pe_int (nomark _))
    (pss_one (ps_ret (pv 1)))
    pss_nil)
    (pss_cons (ps_set (i := 2) sc__law_any_shop.nd rfl (.inl rfl) (pe_callTy call_list_of (by rfl) Z.b_list (by decide +kernel) (pa_cons (pe_ix ix_tup (pv 1) pe_int (fun _ _ => rfl)) pa_nil)))
    (pss_cons (ps_set (i := 3) sc__law_any_shop.nd rfl (.inl rfl) (pe_c C__law_next hr (by first | decide | omega) (by rfl) (pa_cons (pv 0) (pa_cons (pe_callB call_len_seq (by rfl) Z.b_len PySem.boot_len (pa_cons (pv 2) pa_nil)) pa_nil))))
    (pss_cons (ps_set (i := 4) sc__law_any_shop.nd rfl (.inl rfl) (pe_ix ix_list (pv 2) (pv 3) (fun _ _ => rfl)))
    (pss_cons (ps_set (i := 5) sc__law_any_shop.nd rfl (.inr rfl) (pe_ix ix_tup (pe_ix ix_list (pv 2) (pe_c C__law_next hr (by first | decide | omega) (by rfl) (pa_cons (pv 0) (pa_cons (pe_callB call_len_seq (by rfl) Z.b_len PySem.boot_len (pa_cons (pv 2) pa_nil)) pa_nil))) (fun _ _ => rfl)) pe_int (fun _ _ => rfl)))
    (pss_cons (ps_set (i := 6) sc__law_any_shop.nd rfl (.inl rfl) (pe_op op_catA (pe_callTy call_tuple_of (by rfl) Z.b_tuple (by decide +kernel) (pa_cons (pe_slice sl_list (pe_lc (own := [("part", 7)]) rfl sc__law_any_shop.nd (pi_tup (pe_ix ix_tup (pv 4) pe_int (fun _ _ => rfl))) (blkOk_by (N := N__law_any_shop) (sc := defScope s__law_any_shop) (by decide +kernel)) (fun _ _ _ _ _ => (pg_name (i := 7) sc__law_any_shop.nd rfl (.inl rfl))) (fun _ _ _ _ _ => (pts_one (pt_cmpR op_ne (pe_ix (show IxR _ (rIxT K) from ix_tup) (pv 7) pe_int (fun _ _ => rfl)) (pv 5) (nomark _)))) (fun _ _ _ _ _ => (pv 7))) po_none (po_some pe_int)) pa_nil)) (pe_tup (pa_cons (pe_tup (pa_cons (pv 5) (pa_cons (pe_op op_add pe_int (pe_c C__law_next hr (by first | decide | omega) (by rfl) (pa_cons (pv 0) (pa_cons pe_int pa_nil)))) pa_nil))) pa_nil))))
    (pss_cons (ps_asg (pe_op op_catA (pe_op op_catA (pe_tup (pa_cons (pe_ix ix_tup (pv 4) pe_int (fun _ _ => rfl)) (pa_cons (pe_c C__law_next hr (by first | decide | omega) (by rfl) (pa_cons (pv 0) (pa_cons pe_int pa_nil))) pa_nil))) (pe_slice sl_tupA (pv 4) (po_some pe_int) (po_some pe_int))) (pe_tup (pa_cons (pv 6) pa_nil))) (pg_sub (pv 2) (pv 3) set_list))
    (pss_one (ps_ret (pe_tup (pa_cons (pe_callTy call_tuple_of (by rfl) Z.b_tuple (by decide +kernel) (pa_cons (pv 2) pa_nil)) (pa_cons (pe_ix ix_tup (pv 1) pe_int (fun _ _ => rfl)) pa_nil))))))))))))), ?_⟩
  try dsimp only [cxOf, Cx.nox, Cx.wish]
  refine run_def (N := N__law_any_shop) (fun _ => Nat.le_of_ble_eq_true rfl) (env0 := fun _ : Unit => [.p .st, .u, .u, .u, .u, .u, .u, .u]) (fun _ => rfl) (fun B _ hp L => ?_) h
  refine vs_seq ?_
  refine vs_asg ?_
  walk_at "c"
  repeat walk_at "v"
  walk_at "c"
  repeat walk_at "v"
  refine ⟨_, rfl, ⟨by first | decide | omega, by first | decide | omega⟩, fun _ h => h, ?_⟩
  rintro _ ⟨a, rfl, a0, a1⟩
  repeat walk_at "v"
  obtain ⟨m, hm, hm2⟩ := pickB (P := fun v => 1 ≤ v ∧ v ≤ 12) (a := 5) (b := 12) (decide (a = 0)) (by omega) (by omega)
  refine vo_ixL rfl hm ?_
  repeat walk_at "v"
  refine ⟨m, rfl, hm2, fun _ h => h, ?_⟩
  rintro _ ⟨s, rfl, hg, hac, hlm, hwl⟩
  have h12 := hg.hi
  have h1 := hg.lo
  repeat walk_at "v"
  refine vs_if ?_
  repeat walk_at "v"
  walk_at "c"
  repeat walk_at "v"
  refine ⟨_, rfl, ⟨by first | decide | omega, by first | decide | omega⟩, fun _ h => h, ?_⟩
  rintro _ ⟨b, rfl, b0, b1⟩
  repeat walk_at "v"
  refine ⟨fun _ => ?_, fun _ => ?_⟩
  · repeat walk_at "v"
    exact ⟨rfl, s, rfl, hg⟩
  · repeat walk_at "v"
    refine vo_ixT (d := .tup (s.ws.map wareD)) (atI_nat (j := 0) rfl) ?_
    repeat walk_at "v"
    walk_at "c"
    repeat walk_at "v"
    refine ⟨_, rfl, ⟨by rw [List.length_map]; omega, by rw [List.length_map]; omega⟩, fun _ h => h, ?_⟩
    rintro _ ⟨k, rfl, k0, k1⟩
    rw [List.length_map] at k1
    obtain ⟨j, w, rfl, hw, hatw⟩ := atI_lt wareD (l := s.ws) k0 k1
    have hjl := lt_of_get hw
    have hwm := List.mem_of_getElem? hw
    have hwg := hg.ws w hwm
    have hpl := hwg.pl
    repeat walk_at "v"
    refine vo_ixL rfl hatw ?_
    repeat walk_at "v"
    walk_at "c"
    repeat walk_at "v"
    refine ⟨_, rfl, ⟨by rw [List.length_map]; omega, by rw [List.length_map]; omega⟩, fun _ h => h, ?_⟩
    rintro _ ⟨k', rfl, k0', k1'⟩
    rw [List.length_map] at k1'
    obtain ⟨j', u, rfl, hu, hatu⟩ := atI_lt wareD (l := s.ws) k0' k1'
    have hum := List.mem_of_getElem? hu
    refine vo_ixL rfl hatu ?_
    repeat walk_at "v"
    refine vo_ixT (d := .str u.nm) (atI_nat (j := 0) rfl) ?_
    repeat walk_at "v"
    refine ve_lcT (xs := w.parts) (g := partD) (h := partD) (fun p => if p.1 ≠ u.nm then some p else none) (hu1 rfl) (only_name (by decide)) (vi_tup ?_)
    repeat walk_at "v"
    refine vo_ixT (d := .tup (w.parts.map partD)) (atI_nat (j := 6) rfl) ?_
    refine ⟨_, rfl, rfl, by omega, fun q i p hpi => ?_, ?_⟩
    · repeat walk_at "v"
      refine ⟨.set .refl (by decide), ?_⟩
      repeat walk_at "v"
      refine vo_ixT (d := .str p.1) (atI_nat (j := 0) rfl) ?_
      repeat walk_at "v"
      by_cases e : p.1 = u.nm
      · exact and_f (by rw [decide_eq_true e]; rfl) (if_neg fun z => z e)
      · refine and_t (by rw [decide_eq_false e]; rfl) ?_
        repeat walk_at "v"
        exact ⟨p, rfl, if_pos e⟩
    obtain ⟨qs, hqs⟩ : ∃ qs, qs = (w.parts.filterMap fun p => if p.1 ≠ u.nm then some p else none).take (5 : Int).toNat := ⟨_, rfl⟩
    have hqm : ∀ p ∈ qs, p ∈ w.parts ∧ p.1 ≠ u.nm := fun p hp => by
      rw [hqs] at hp
      obtain ⟨x, hx, e⟩ := List.mem_filterMap.mp (List.mem_of_mem_take hp)
      split at e
      · cases e
        exact ⟨hx, by assumption⟩
      · cases e
    have hql : qs.length ≤ 5 := by
      rw [hqs, List.length_take]
      show min 5 _ ≤ 5
      omega
    have hqn : (qs.map (·.1)).Nodup := by
      have sub : qs.Sublist w.parts := by
        rw [hqs]
        refine (List.take_sublist _ _).trans ?_
        rw [show (w.parts.filterMap fun p => if p.1 ≠ u.nm then some p else none) = w.parts.filter fun p => decide (p.1 ≠ u.nm) from by
          rw [← List.filterMap_eq_filter]
          refine congrArg (fun f => List.filterMap f w.parts) (funext fun p => ?_)
          by_cases e : p.1 = u.nm
          · simp [Option.guard, e]
          · simp [Option.guard, e]]
        exact List.filter_sublist
      exact (sub.map _).nodup hwg.pn
    repeat walk_at "v"
    rw [cutD_take partD _ (by decide), ← hqs]
    repeat walk_at "v"
    walk_at "c"
    repeat walk_at "v"
    refine ⟨_, rfl, ⟨by first | decide | omega, by first | decide | omega⟩, fun _ h => h, ?_⟩
    rintro _ ⟨c, rfl, c0, c1⟩
    repeat walk_at "v"
    refine vo_catA (by rw [List.length_map]; show _ + 1 ≤ 100000; omega) ?_
    repeat walk_at "v"
    refine vo_ixT (d := .str w.nm) (atI_nat (j := 0) rfl) ?_
    repeat walk_at "v"
    walk_at "c"
    repeat walk_at "v"
    refine ⟨_, rfl, ⟨by first | decide | omega, by first | decide | omega⟩, fun _ h => h, ?_⟩
    rintro _ ⟨g, rfl, g0, g1⟩
    repeat walk_at "v"
    refine vsl_tup (ds := [.str w.nm, .int w.lag, .int w.gives, .int w.floor, .int w.stock, .tup (w.com.map pairD), .tup (w.parts.map partD)]) ?_
    repeat walk_at "v"
    refine vo_catA (by show 2 + 4 ≤ 100000; decide) ?_
    repeat walk_at "v"
    refine vo_catA (by show 6 + 1 ≤ 100000; decide) ?_
    refine vg_subL rfl ?_
    repeat walk_at "v"
    refine ⟨_, j, rfl, by rw [List.length_map]; exact ixN_nat hjl, ?_⟩
    obtain ⟨ps, hps⟩ : ∃ ps, ps = qs ++ [(u.nm, 1 + c)] := ⟨_, rfl⟩
    obtain ⟨w2, hw2⟩ : ∃ w2 : Ware, w2 = ⟨w.nm, g, w.gives, w.floor, w.stock, w.com, ps⟩ := ⟨_, rfl⟩
    have ew : D.tup ([D.str w.nm, .int g] ++ cutD [.str w.nm, .int w.lag, .int w.gives, .int w.floor, .int w.stock, .tup (w.com.map pairD), .tup (w.parts.map partD)] (some 2) (some 6) ++ [.tup (qs.map partD ++ [.tup [.str u.nm, .int (1 + c)]])]) = wareD w2 := by
      rw [hw2, hps]
      show _ = D.tup [_, _, _, _, _, _, .tup (List.map partD _)]
      rw [List.map_append]
      rfl
    rw [ew]
    have hset : (s.ws.map wareD).set j (wareD w2) = (s.ws.set j w2).map wareD := by rw [List.map_set]
    rw [hset]
    have hpn : (ps.map (·.1)).Nodup := by
      rw [hps, List.map_append]
      refine List.nodup_append.mpr ⟨hqn, by simp, fun a ha b hb => ?_⟩
      obtain ⟨p, hp, rfl⟩ := List.mem_map.mp ha
      cases List.mem_singleton.mp hb
      exact (hqm p hp).2
    have hg2 : WareG w2 := by
      rw [hw2]
      refine ⟨hwg.nm, ⟨g0, by show g ≤ 30; omega⟩, hwg.gives, hwg.floor, hwg.stock, hwg.cl, hwg.com, by show ps.length ≤ 6; rw [hps, List.length_append]; show _ + 1 ≤ 6; omega, hpn, fun p hp => ?_⟩
      have hp : p ∈ ps := hp
      rw [hps] at hp
      rcases List.mem_append.mp hp with q | q
      · exact hwg.parts p (hqm p q).1
      · cases List.mem_singleton.mp q
        exact ⟨by show 1 ≤ 1 + c; omega, by show 1 + c < 10 ^ 42; omega⟩
    have hnm : (Shop.mk (s.ws.set j w2) s.wants).names = s.names := by
      show (s.ws.set j w2).map (·.nm) = s.ws.map (·.nm)
      rw [List.map_set]
      refine List.ext_getElem? fun k => ?_
      by_cases q : j = k
      · subst q
        rw [List.getElem?_set_self (by rw [List.length_map]; exact hjl), List.getElem?_map, hw, hw2]
        rfl
      · rw [List.getElem?_set_ne q]
    repeat walk_at "v"
    refine vo_ixT (d := .tup (s.wants.map wantD)) (atI_nat (j := 1) rfl) ?_
    repeat walk_at "v"
    refine ⟨rfl, ⟨s.ws.set j w2, s.wants⟩, rfl, ⟨by show 1 ≤ (s.ws.set j w2).length; rw [List.length_set]; exact h1, by show (s.ws.set j w2).length ≤ 12; rw [List.length_set]; exact h12, by rw [hnm]; exact hg.nd, fun v hv => ?_, fun v hv p hp => ?_, by rw [hnm]; exact hg.wants⟩⟩
    · rcases List.mem_or_eq_of_mem_set hv with q | rfl
      · exact hg.ws v q
      · exact hg2
    · rw [hnm]
      rcases List.mem_or_eq_of_mem_set hv with q | rfl
      · exact hg.sub v q p hp
      · rw [hw2] at hp
        have hp : p ∈ ps := hp
        rw [hps] at hp
        rcases List.mem_append.mp hp with q | q
        · exact hg.sub w hwm p (hqm p q).1
        · cases List.mem_singleton.mp q
          exact List.mem_map_of_mem (f := fun w : Ware => w.nm) hum

end
/-! ### read_number -/
abbrev s_read_number : Stmt := topS 27
abbrev N_read_number : List Str := ["word", "sign"]
theorem sc_read_number : FnScope N_read_number ["word"] (defScope s_read_number) := ⟨rfl, rfl, rfl, by decide +kernel, rfl, by decide +kernel, by decide +kernel⟩
section
variable {P : Program} {w : World} {K : PySem.W.Frag} {mg : Str → Option Value} {base : Heap}
abbrev sp_read_number (K : PySem.W.Frag) : Sp := SpA K (Gd K) false (fun x : Str × Int => [.str x.1]) (fun x => numB x.1 = true ∧ PySem.intText? x.1 = some x.2) (fun x d => d = .int x.2) noRs
theorem c_read_number (Dn : Dfn K mg "read_number" s_read_number ["word"]) (Z : Glb K mg w)  : Cal P w K mg base 1 "read_number" (sp_read_number K) [] := by
  obtain ⟨f, fd, F, hm, hb⟩ := Dn.ex
  refine ⟨f, fd, ["word"], [], ?_, hm, F.kp, hb, .nil⟩
  refine F.ok sc_read_number (fun vs H Q E h => spA_len (fun _ => rfl) h) (fun cdv A outer s H vs Q E hr h => ?_)
  refine ⟨_, (pss_cons (ps_if ((pw_or (pt_not (pt_val (pe_callB call_isi (by rfl) Z.b_isinstance (by decide +kernel) (pa_cons (pv 0) (pa_cons (pe_bltn (v := .ty "str") (by rfl) Z.b_str (show bootBuiltins "str" = some (.type "str") by decide +kernel) rfl) pa_nil))))) (pw_or1 (pt_not (pt_chain op_le op_le pe_int (pe_callB call_len_str (by rfl) Z.b_len PySem.boot_len (pa_cons (pv 0) pa_nil)) (pe_gc (by rfl) Z.c_MOST)))))).pt
    (pss_one ps_dead)
    pss_nil)
    (pss_cons (ps_if (pt_not (pt_val (pe_callB (cr_all rfl) (by rfl) Z.b_all (by decide +kernel) (pa_cons (pe_lc (own := [("sign", 1)]) rfl sc_read_number.nd (pi_str (pv 0)) (blkOk_by (N := N_read_number) (sc := defScope s_read_number) (by decide +kernel)) (fun _ _ _ _ _ => (pg_name (i := 1) sc_read_number.nd rfl (.inl rfl))) (fun _ _ _ _ _ => pts_nil) (fun _ _ _ _ _ => (pe_cmpR op_in_sign (pv 1) (pe_gc (by rfl) Z.c_FIGURES) (by rfl)))) pa_nil))))
    (pss_one ps_dead)
    pss_nil)
    (pss_cons (ps_if ((pw_and (pt_val (pe_bm PySem.F.plainAttrs_str PySem.F.slot_str_startswith PySem.F.type_str_startswith mt_startswith (pv 0) (pa_cons pe_str pa_nil))) (pw_and1 (pt_cmpR op_ne (pv 0) pe_str (nomark _))))).pt
    (pss_one ps_dead)
    pss_nil)
    (pss_one (ps_ret (pe_callTy call_int_str (by rfl) Z.b_int (by decide +kernel) (pa_cons (pv 0) pa_nil))))))), ?_⟩
  try dsimp only [cxOf, Cx.nox, Cx.wish]
  refine run_def (N := N_read_number) (fun _ => Nat.le_of_ble_eq_true rfl) (env0 := fun x : Str × Int => [.p (.str x.1), .u]) (fun _ => rfl) (fun B x hp L => ?_) h
  obtain ⟨z, n⟩ := x
  obtain ⟨hz, hn⟩ := hp
  dsimp only at hz hn ⊢
  obtain ⟨h1, h2, h3, h4⟩ := numB_iff.mp hz
  refine vs_seq ?_
  refine vs_if ?_
  repeat walk_at "v"
  refine and_f rfl ?_
  repeat walk_at "v"
  refine ve_chain ?_
  repeat walk_at "v"
  refine vc_lenS (by omega) ?_
  repeat walk_at "v"
  refine ⟨fun _ => ?_, fun q => absurd (of_decide_eq_false q) (by omega)⟩
  repeat walk_at "v"
  rw [decide_eq_true (show ((z.length : Nat) : Int) ≤ 60 by omega)]
  refine and_f rfl ?_
  repeat walk_at "v"
  refine vs_if ?_
  repeat walk_at "v"
  refine ve_lcT (xs := z.cps.toList) (g := fun c => D.str ⟨#[c]⟩) (h := D.bl) (fun c => some (figB c)) (hu1 rfl) (only_name (by decide)) (vi_str ?_)
  repeat walk_at "v"
  have hzl := slen z
  refine ⟨_, rfl, rfl, by omega, fun q i c hc => ?_, ?_⟩
  · repeat walk_at "v"
    refine ⟨.set .refl (by decide), ?_⟩
    repeat walk_at "v"
    refine and_t rfl ?_
    repeat walk_at "v"
    refine vo_inSign ?_
    rw [figs_mem]
    exact fz_p ⟨_, rfl, rfl⟩
  rw [fm_some]
  repeat walk_at "v"
  refine vc_all rfl ?_
  repeat walk_at "v"
  rw [List.all_map, show z.cps.toList.all (id ∘ figB) = true from h3]
  refine and_f rfl ?_
  repeat walk_at "v"
  refine vs_if ?_
  repeat walk_at "v"
  refine ve_starts ?_
  repeat walk_at "v"
  refine ⟨_, rfl, ?_⟩
  repeat walk_at "v"
  refine ⟨_, rfl, ?_⟩
  rw [starts0]
  refine ⟨_, rfl, fun hb => ?_, fun hb => ?_⟩
  · repeat walk_at "v"
    have he : z.cps.toList.head? = some 48 := of_decide_eq_true hb
    have hz0 : z = "0" := h4.resolve_right fun q => q he
    refine and_f (by rw [decide_eq_true hz0]; rfl) ?_
    repeat walk_at "v"
    refine vc_intS hn (by omega) ?_
    repeat walk_at "v"
    exact ⟨rfl, rfl⟩
  · repeat walk_at "v"
    refine and_f rfl ?_
    repeat walk_at "v"
    refine vc_intS hn (by omega) ?_
    repeat walk_at "v"
    exact ⟨rfl, rfl⟩

end
/-! ### is_name -/
abbrev s_is_name : Stmt := topS 13
abbrev N_is_name : List Str := ["found", "sign"]
theorem sc_is_name : FnScope N_is_name ["found"] (defScope s_is_name) := ⟨rfl, rfl, rfl, by decide +kernel, rfl, by decide +kernel, by decide +kernel⟩
section
variable {P : Program} {w : World} {K : PySem.W.Frag} {mg : Str → Option Value} {base : Heap}
abbrev sp_is_name (K : PySem.W.Frag) : Sp := SpA K (Gd K) false (fun d : D => [d]) (fun d => Any d) (fun d e => e = .bl (nameB d)) noRs
theorem c_is_name (Dn : Dfn K mg "is_name" s_is_name ["found"]) (Z : Glb K mg w)  : Cal P w K mg base 1 "is_name" (sp_is_name K) [] := by
  obtain ⟨f, fd, F, hm, hb⟩ := Dn.ex
  refine ⟨f, fd, ["found"], [], ?_, hm, F.kp, hb, .nil⟩
  refine F.ok sc_is_name (fun vs H Q E h => spA_len (fun _ => rfl) h) (fun cdv A outer s H vs Q E hr h => ?_)
  refine ⟨_, (pss_cons (ps_if ((pw_or (pt_not (pt_val (pe_callB call_isi (by rfl) Z.b_isinstance (by decide +kernel) (pa_cons (pv 0) (pa_cons (pe_bltn (v := .ty "str") (by rfl) Z.b_str (show bootBuiltins "str" = some (.type "str") by decide +kernel) rfl) pa_nil))))) (pw_or1 (pt_not (pt_chain op_le op_le pe_int (pe_callB call_len_str (by rfl) Z.b_len PySem.boot_len (pa_cons (pv 0) pa_nil)) (pe_gc (by rfl) Z.c_MOST_LETTERS)))))).pt
    (pss_one (ps_ret pe_bl))
    pss_nil)
    (pss_one (ps_ret (pe_callB (cr_all rfl) (by rfl) Z.b_all (by decide +kernel) (pa_cons (pe_lc (own := [("sign", 1)]) rfl sc_is_name.nd (pi_str (pv 0)) (blkOk_by (N := N_is_name) (sc := defScope s_is_name) (by decide +kernel)) (fun _ _ _ _ _ => (pg_name (i := 1) sc_is_name.nd rfl (.inl rfl))) (fun _ _ _ _ _ => pts_nil) (fun _ _ _ _ _ => (pe_cmpR op_in_sign (pv 1) (pe_gc (by rfl) Z.c_LETTERS) (by rfl)))) pa_nil))))), ?_⟩
  try dsimp only [cxOf, Cx.nox, Cx.wish]
  refine run_def (N := N_is_name) (fun _ => Nat.le_of_ble_eq_true rfl) (env0 := fun d : D => [.p d, .u]) (fun _ => rfl) (fun B d hp L => ?_) h
  refine vs_seq ?_
  refine vs_if ?_
  cases hp
  case str z hl =>
    repeat walk_at "v"
    refine and_f rfl ?_
    repeat walk_at "v"
    refine ve_chain ?_
    repeat walk_at "v"
    refine vc_lenS (by omega) ?_
    repeat walk_at "v"
    refine ⟨fun h1 => ?_, fun h1 => ?_⟩
    · have h1' : 1 ≤ z.length := by have := of_decide_eq_true h1; omega
      repeat walk_at "v"
      refine ⟨fun h2 => ?_, fun h2 => ?_⟩
      · have h2' : ¬ z.length ≤ 8 := fun q => by
          have : decide (((z.length : Nat) : Int) ≤ 8) = true := decide_eq_true (by omega)
          rw [this] at h2
          cases h2
        repeat walk_at "v"
        refine ⟨rfl, ?_⟩
        show D.bl false = D.bl (decide (1 ≤ z.length) && (decide (z.length ≤ 8) && z.cps.toList.all abcB))
        rw [decide_eq_false h2', Bool.false_and, Bool.and_false]
      · have h2' : z.length ≤ 8 := by
          have : decide (((z.length : Nat) : Int) ≤ 8) = true := by simpa using h2
          have := of_decide_eq_true this
          omega
        repeat walk_at "v"
        refine ve_lcT (xs := z.cps.toList) (g := fun c => D.str ⟨#[c]⟩) (h := D.bl) (fun c => some (abcB c)) (hu1 rfl) (only_name (by decide)) (vi_str ?_)
        repeat walk_at "v"
        have hzl := slen z
        refine ⟨_, rfl, rfl, by omega, fun q i c hc => ?_, ?_⟩
        · repeat walk_at "v"
          refine ⟨.set .refl (by decide), ?_⟩
          repeat walk_at "v"
          refine and_t rfl ?_
          repeat walk_at "v"
          refine vo_inSign ?_
          rw [abc_mem]
          exact fz_p ⟨_, rfl, rfl⟩
        rw [fm_some]
        repeat walk_at "v"
        refine vc_all rfl ?_
        repeat walk_at "v"
        rw [List.all_map]
        refine ⟨rfl, ?_⟩
        show D.bl (z.cps.toList.all (id ∘ abcB)) = D.bl (decide (1 ≤ z.length) && (decide (z.length ≤ 8) && z.cps.toList.all abcB))
        rw [decide_eq_true h1', decide_eq_true h2', Bool.true_and, Bool.true_and]
        rfl
    · have h1' : ¬ 1 ≤ z.length := by have := of_decide_eq_false h1; omega
      repeat walk_at "v"
      refine and_t rfl ?_
      repeat walk_at "v"
      refine ⟨rfl, ?_⟩
      show D.bl false = D.bl (decide (1 ≤ z.length) && (decide (z.length ≤ 8) && z.cps.toList.all abcB))
      rw [decide_eq_false h1', Bool.false_and]
  all_goals
    repeat walk_at "v"
    refine and_t rfl ?_
    refine and_t rfl ?_
    repeat walk_at "v"
    exact ⟨rfl, rfl⟩

end
/-! ### read_row -/
abbrev s_read_row : Stmt := topS 28
abbrev N_read_row : List Str := ["row", "words", "names", "numbers", "word"]
theorem sc_read_row : FnScope N_read_row ["row"] (defScope s_read_row) := ⟨rfl, rfl, rfl, by decide +kernel, rfl, by decide +kernel, by decide +kernel⟩
section
variable {P : Program} {w : World} {K : PySem.W.Frag} {mg : Str → Option Value} {base : Heap}
abbrev sp_read_row (K : PySem.W.Frag) : Sp := SpA K (Gd K) false (fun x : Str × List D => [.str x.1]) (fun x => x.1.length ≤ 50000 ∧ parseRow (Txt.split x.1 " ") = some x.2) (fun x d => d = .lst x.2) noRs
theorem c_read_row (Dn : Dfn K mg "read_row" s_read_row ["row"]) (Z : Glb K mg w) (C_read_number : Cal P w K mg base 1 "read_number" (sp_read_number K) []) (C_is_name : Cal P w K mg base 1 "is_name" (sp_is_name K) []) : Cal P w K mg base 2 "read_row" (sp_read_row K) [] := by
  obtain ⟨d_FORMS, es_FORMS, n_FORMS, m_FORMS, D_FORMS, z_FORMS, v_FORMS⟩ := Z.t_FORMS.ex
  obtain ⟨f, fd, F, hm, hb⟩ := Dn.ex
  refine ⟨f, fd, ["row"], [], ?_, hm, F.kp, hb, .nil⟩
  refine F.ok sc_read_row (fun vs H Q E h => spA_len (fun _ => rfl) h) (fun cdv A outer s H vs Q E hr h => ?_)
  refine ⟨_, (pss_cons (ps_set (i := 1) sc_read_row.nd rfl (.inl rfl) (pe_split (pv 0) pe_str))
    (pss_cons (ps_if (pt_cmpR (op_notIn_kd D_FORMS) (pe_ix ix_list (pv 1) pe_int (fun _ _ => rfl)) (pe_glob (v := .ref d_FORMS) (by rfl) m_FORMS rfl) (by rfl))
    (pss_one ps_dead)
    pss_nil)
    (pss_cons (ps_asg (pe_ix (ix_kd D_FORMS) (pe_glob (v := .ref d_FORMS) (by rfl) m_FORMS rfl) (pe_ix ix_list (pv 1) pe_int (fun _ _ => rfl)) (fun _ _ => rfl)) (pg_tup rfl (pgs_cons (pg_name (i := 2) sc_read_row.nd rfl (.inl rfl)) (pgs_cons (pg_name (i := 3) sc_read_row.nd rfl (.inl rfl)) pgs_nil))))
    (pss_cons (ps_if (pt_cmpR op_ne (pe_callB call_len_seq (by rfl) Z.b_len PySem.boot_len (pa_cons (pv 1) pa_nil)) (pe_op op_add (pe_op op_add pe_int (pv 2)) (pv 3)) (nomark _))
    (pss_one ps_dead)
    pss_nil)
    (pss_cons (ps_if (pt_not (pt_val (pe_callB (cr_all rfl) (by rfl) Z.b_all (by decide +kernel) (pa_cons (pe_lc (own := [("word", 4)]) rfl sc_read_row.nd (pi_list (pe_slice sl_list (pv 1) (po_some pe_int) (po_some (pe_op op_add pe_int (pv 2))))) (blkOk_by (N := N_read_row) (sc := defScope s_read_row) (by decide +kernel)) (fun _ _ _ _ _ => (pg_name (i := 4) sc_read_row.nd rfl (.inl rfl))) (fun _ _ _ _ _ => pts_nil) (fun _ _ _ _ _ => (pe_c C_is_name hr (by first | decide | omega) (by rfl) (pa_cons (pv 4) pa_nil)))) pa_nil))))
    (pss_one ps_dead)
    pss_nil)
    (pss_one (ps_ret (pe_op op_cat (pe_slice sl_list (pv 1) po_none (po_some (pe_op op_add pe_int (pv 2)))) (pe_lc (own := [("word", 4)]) rfl sc_read_row.nd (pi_list (pe_slice sl_list (pv 1) (po_some (pe_op op_add pe_int (pv 2))) po_none)) (blkOk_by (N := N_read_row) (sc := defScope s_read_row) (by decide +kernel)) (fun _ _ _ _ _ => (pg_name (i := 4) sc_read_row.nd rfl (.inl rfl))) (fun _ _ _ _ _ => pts_nil) (fun _ _ _ _ _ => (pe_c C_read_number hr (by first | decide | omega) (by rfl) (pa_cons (pv 4) pa_nil)))))))))))), ?_⟩
  try dsimp only [cxOf, Cx.nox, Cx.wish]
  refine run_def (N := N_read_row) (fun _ => Nat.le_of_ble_eq_true rfl) (env0 := fun x : Str × List D => [.p (.str x.1), .u, .u, .u, .u]) (fun _ => rfl) (fun B x hp L => ?_) h
  obtain ⟨z, ds⟩ := x
  obtain ⟨hl, hpr⟩ := hp
  dsimp only at hl hpr ⊢
  obtain ⟨y, r, n, m, hW, hf, hr, hn, hm, rfl⟩ := parse_row hpr
  obtain ⟨hmem, n1, n2, m1, m2⟩ := form_mem hf
  obtain ⟨t, ht1, ht2⟩ := v_FORMS _ hmem
  refine vs_seq ?_
  refine vs_asg ?_
  refine ve_split ?_
  repeat walk_at "v"
  refine ⟨_, rfl, ?_⟩
  repeat walk_at "v"
  refine ⟨_, rfl, by decide, by omega, ?_⟩
  rw [hW]
  refine vg_o (Nat.le_of_ble_eq_true rfl) ?_
  refine vs_frz 1 (.inr rfl) ?_
  refine vs_seq ?_
  refine vs_if ?_
  repeat walk_at "v"
  refine vo_ixL (d := .str y) rfl (atI_nat (j := 0) rfl) ?_
  repeat walk_at "v"
  refine vo_notInKd ht1 ?_
  repeat walk_at "v"
  refine and_f rfl ?_
  repeat walk_at "v"
  refine vo_ixL (d := .str y) rfl (atI_nat (j := 0) rfl) ?_
  repeat walk_at "v"
  refine vo_itKd ht1 ht2 (ds := [.int n, .int m]) (fun R => .cons (.int _) (.cons (.int _) .nil)) ?_
  repeat walk_at "v"
  refine vs_if ?_
  repeat walk_at "v"
  refine and_f (by
    rw [List.length_map, List.length_cons, hr]
    simp
    omega) ?_
  refine vs_next ?_
  refine vs_seq ?_
  refine vs_if ?_
  repeat walk_at "v"
  have hdrop : ((y :: r).take (1 + (n : Int)).toNat).drop (1 : Int).toNat = r.take n := by
    rw [show (1 + (n : Int)).toNat = n + 1 by omega]
    rfl
  refine ve_lcT (xs := r.take n) (g := D.str) (h := D.bl) (fun w => some (nameS w)) (hu1 rfl) (only_name (by decide)) (vi_l ?_)
  repeat walk_at "v"
  rw [cutD_mid D.str (y :: r) (by decide) (by omega), hdrop]
  have hr9 : r.length ≤ 9 := by omega
  refine ⟨_, rfl, rfl, by rw [List.length_take]; omega, fun q i w hw => ?_, ?_⟩
  · have hnw := hn w (List.mem_of_getElem? hw)
    have hlw := nameS_len hnw
    repeat walk_at "v"
    refine ⟨.set .refl (by decide), ?_⟩
    repeat walk_at "v"
    refine and_t rfl ?_
    walk_at "c"
    repeat walk_at "v"
    refine ⟨.str w, rfl, .str (by omega), fun _ h => h, ?_⟩
    rintro _ rfl
    exact fz_p ⟨_, rfl, rfl⟩
  rw [fm_some]
  repeat walk_at "v"
  refine vc_all rfl ?_
  rw [List.all_map, show (r.take n).all (id ∘ nameS) = true from List.all_eq_true.mpr hn]
  repeat walk_at "v"
  refine and_f rfl ?_
  repeat walk_at "v"
  have hdrop2 : (y :: r).drop (1 + (n : Int)).toNat = r.drop n := by
    rw [show (1 + (n : Int)).toNat = n + 1 by omega]
    rfl
  have htake2 : (y :: r).take (1 + (n : Int)).toNat = y :: r.take n := by
    rw [show (1 + (n : Int)).toNat = n + 1 by omega]
    rfl
  rw [cutD_take D.str (y :: r) (by omega), htake2]
  refine ve_lcT (xs := r.drop n) (g := D.str) (h := D.int) (fun w => some (numV w)) (hu1 rfl) (only_name (by decide)) (vi_l ?_)
  repeat walk_at "v"
  rw [cutD_drop D.str (y :: r) (by omega), hdrop2]
  refine ⟨_, rfl, rfl, by rw [List.length_drop]; omega, fun q i w hw => ?_, ?_⟩
  · have hnw := hm w (List.mem_of_getElem? hw)
    obtain ⟨v, hv⟩ := numB_val hnw
    repeat walk_at "v"
    refine ⟨.set .refl (by decide), ?_⟩
    repeat walk_at "v"
    refine and_t rfl ?_
    walk_at "c"
    repeat walk_at "v"
    refine ⟨(w, v), rfl, ⟨hnw, hv⟩, fun _ h => h, ?_⟩
    rintro _ rfl
    exact fz_p ⟨v, rfl, by unfold numV; rw [hv]; rfl⟩
  rw [fm_some]
  repeat walk_at "v"
  refine vo_cat rfl rfl (by rw [List.length_map, List.length_cons, List.length_take, List.length_map, List.length_map, List.length_drop]; omega) ?_
  rw [List.map_map]
  exact rfl

end
/-! ### are_unlike -/
abbrev s_are_unlike : Stmt := topS 19
abbrev N_are_unlike : List Str := ["names"]
theorem sc_are_unlike : FnScope N_are_unlike ["names"] (defScope s_are_unlike) := ⟨rfl, rfl, rfl, by decide +kernel, rfl, by decide +kernel, by decide +kernel⟩
section
variable {P : Program} {w : World} {K : PySem.W.Frag} {mg : Str → Option Value} {base : Heap}
abbrev sp_are_unlike (K : PySem.W.Frag) : Sp := SpA K (Gd K) false (fun zs : List Str => [.lst (zs.map D.str)]) (fun zs => zs.length ≤ 1000) (fun zs e => e = .bl (decide zs.Nodup)) noRs
theorem c_are_unlike (Dn : Dfn K mg "are_unlike" s_are_unlike ["names"]) (Z : Glb K mg w)  : Cal P w K mg base 1 "are_unlike" (sp_are_unlike K) [] := by
  obtain ⟨f, fd, F, hm, hb⟩ := Dn.ex
  refine ⟨f, fd, ["names"], [], ?_, hm, F.kp, hb, .nil⟩
  refine F.ok sc_are_unlike (fun vs H Q E h => spA_len (fun _ => rfl) h) (fun cdv A outer s H vs Q E hr h => ?_)
  refine ⟨_, (pss_one (ps_ret (pe_cmpR op_eq (pe_lenSetS rfl (by rfl) Z.b_len (by rfl) Z.b_set (pv 0)) (pe_callB call_len_seq (by rfl) Z.b_len PySem.boot_len (pa_cons (pv 0) pa_nil)) (nomark _)))), ?_⟩
  try dsimp only [cxOf, Cx.nox, Cx.wish]
  refine run_def (N := N_are_unlike) (fun _ => Nat.le_of_ble_eq_true rfl) (env0 := fun zs : List Str => [.p (.lst (zs.map D.str))]) (fun _ => rfl) (fun B zs hp L => ?_) h
  repeat walk_at "v"
  refine ve_lenSetD ?_
  repeat walk_at "v"
  refine ⟨zs, rfl, by omega, ?_⟩
  repeat walk_at "v"
  rw [List.length_map, dc_dec]
  exact ⟨rfl, rfl⟩

end
/-! ### is_whole -/
abbrev s_is_whole : Stmt := topS 14
abbrev N_is_whole : List Str := ["found", "least"]
theorem sc_is_whole : FnScope N_is_whole ["found", "least"] (defScope s_is_whole) := ⟨rfl, rfl, rfl, by decide +kernel, rfl, by decide +kernel, by decide +kernel⟩
section
variable {P : Program} {w : World} {K : PySem.W.Frag} {mg : Str → Option Value} {base : Heap}
abbrev sp_is_whole (K : PySem.W.Frag) : Sp := SpA K (Gd K) false (fun x : D × Int => [x.1, .int x.2]) (fun x => D.isDat x.1 = true) (fun x d => d = .bl (isWhole x.1 x.2)) noRs
theorem c_is_whole (Dn : Dfn K mg "is_whole" s_is_whole ["found", "least"]) (Z : Glb K mg w)  : Cal P w K mg base 1 "is_whole" (sp_is_whole K) [] := by
  obtain ⟨f, fd, F, hm, hb⟩ := Dn.ex
  refine ⟨f, fd, ["found", "least"], [], ?_, hm, F.kp, hb, .nil⟩
  refine F.ok sc_is_whole (fun vs H Q E h => spA_len (fun _ => rfl) h) (fun cdv A outer s H vs Q E hr h => ?_)
  refine ⟨_, (pss_one (ps_ret (pe_and (pe_callB call_isi (by rfl) Z.b_isinstance (by decide +kernel) (pa_cons (pv 0) (pa_cons (pe_bltn (v := .ty "int") (by rfl) Z.b_int (show bootBuiltins "int" = some (.type "int") by decide +kernel) rfl) pa_nil))) (pe_and (pe_not (pe_callB call_isi (by rfl) Z.b_isinstance (by decide +kernel) (pa_cons (pv 0) (pa_cons (pe_bltn (v := .ty "bool") (by rfl) Z.b_bool (show bootBuiltins "bool" = some (.type "bool") by decide +kernel) rfl) pa_nil)))) (pe_one (pe_cmpR op_ge (pv 0) (pv 1) (nomark _))))))), ?_⟩
  try dsimp only [cxOf, Cx.nox, Cx.wish]
  refine run_def (N := N_is_whole) (fun _ => Nat.le_of_ble_eq_true rfl) (env0 := fun x : D × Int => [.p x.1, .p (.int x.2)]) (fun _ => rfl) (fun B x hp L => ?_) h
  obtain ⟨d, k⟩ := x
  dsimp only at hp ⊢
  cases d <;> first | (cases hp; done) | skip
  all_goals
    repeat walk_at "v"
    first
      | exact and_f rfl ⟨rfl, rfl⟩
      | (refine and_t rfl ?_
         repeat walk_at "v"
         first
           | exact and_f rfl ⟨rfl, rfl⟩
           | (refine and_t rfl ?_
              repeat walk_at "v"
              exact ⟨rfl, rfl⟩))

end
/-! ### is_day -/
abbrev s_is_day : Stmt := topS 15
abbrev N_is_day : List Str := ["found"]
theorem sc_is_day : FnScope N_is_day ["found"] (defScope s_is_day) := ⟨rfl, rfl, rfl, by decide +kernel, rfl, by decide +kernel, by decide +kernel⟩
section
variable {P : Program} {w : World} {K : PySem.W.Frag} {mg : Str → Option Value} {base : Heap}
abbrev sp_is_day (K : PySem.W.Frag) : Sp := SpA K (Gd K) false (fun x : D => [x]) (fun x => D.isDat x = true) (fun x d => d = .bl (isDay x)) noRs
theorem c_is_day (Dn : Dfn K mg "is_day" s_is_day ["found"]) (Z : Glb K mg w) (C_is_whole : Cal P w K mg base 1 "is_whole" (sp_is_whole K) []) : Cal P w K mg base 2 "is_day" (sp_is_day K) [] := by
  obtain ⟨f, fd, F, hm, hb⟩ := Dn.ex
  refine ⟨f, fd, ["found"], [], ?_, hm, F.kp, hb, .nil⟩
  refine F.ok sc_is_day (fun vs H Q E h => spA_len (fun _ => rfl) h) (fun cdv A outer s H vs Q E hr h => ?_)
  refine ⟨_, (pss_one (ps_ret (pe_and (pe_c C_is_whole hr (by first | decide | omega) (by rfl) (pa_cons (pv 0) (pa_cons pe_int pa_nil))) (pe_one (pe_cmpR op_le (pv 0) (pe_gc (by rfl) Z.c_MOST_DAY) (nomark _)))))), ?_⟩
  try dsimp only [cxOf, Cx.nox, Cx.wish]
  refine run_def (N := N_is_day) (fun _ => Nat.le_of_ble_eq_true rfl) (env0 := fun x : D => [.p x]) (fun _ => rfl) (fun B x hp L => ?_) h
  repeat walk_at "v"
  walk_at "c"
  repeat walk_at "v"
  refine ⟨(x, 0), rfl, hp, fun _ h => h, ?_⟩
  rintro _ rfl
  repeat walk_at "v"
  dsimp only
  cases x <;> first | (cases hp; done) | exact and_f rfl ⟨rfl, rfl⟩ | skip
  rename_i i
  refine ⟨fun hb => ?_, fun hb => ?_⟩
  · repeat walk_at "v"
    refine ⟨rfl, ?_⟩
    have hb2 : decide (0 ≤ i) = true := hb
    show D.bl _ = D.bl (decide (0 ≤ i) && decide (i ≤ 400))
    rw [hb2]
    rfl
  · refine ⟨rfl, ?_⟩
    have hb2 : decide (0 ≤ i) = false := hb
    show D.bl false = D.bl (decide (0 ≤ i) && decide (i ≤ 400))
    rw [hb2]
    rfl

end
/-! ### is_coming -/
abbrev s_is_coming : Stmt := topS 16
abbrev N_is_coming : List Str := ["found"]
theorem sc_is_coming : FnScope N_is_coming ["found"] (defScope s_is_coming) := ⟨rfl, rfl, rfl, by decide +kernel, rfl, by decide +kernel, by decide +kernel⟩
section
variable {P : Program} {w : World} {K : PySem.W.Frag} {mg : Str → Option Value} {base : Heap}
abbrev sp_is_coming (K : PySem.W.Frag) : Sp := SpA K (Gd K) false (fun d : D => [d]) (fun d => Any d) (fun d e => e = .bl (comingB d)) noRs
theorem c_is_coming (Dn : Dfn K mg "is_coming" s_is_coming ["found"]) (Z : Glb K mg w) (C_is_whole : Cal P w K mg base 1 "is_whole" (sp_is_whole K) []) (C_is_day : Cal P w K mg base 2 "is_day" (sp_is_day K) []) : Cal P w K mg base 3 "is_coming" (sp_is_coming K) [] := by
  obtain ⟨f, fd, F, hm, hb⟩ := Dn.ex
  refine ⟨f, fd, ["found"], [], ?_, hm, F.kp, hb, .nil⟩
  refine F.ok sc_is_coming (fun vs H Q E h => spA_len (fun _ => rfl) h) (fun cdv A outer s H vs Q E hr h => ?_)
  refine ⟨_, (pss_one (ps_ret (pe_and (pe_callB call_isi (by rfl) Z.b_isinstance (by decide +kernel) (pa_cons (pv 0) (pa_cons (pe_bltn (v := .ty "tuple") (by rfl) Z.b_tuple (show bootBuiltins "tuple" = some (.type "tuple") by decide +kernel) rfl) pa_nil))) (pe_and (pe_cmpR op_eq (pe_callB call_len_seq (by rfl) Z.b_len PySem.boot_len (pa_cons (pv 0) pa_nil)) pe_int (nomark _)) (pe_and (pe_c C_is_day hr (by first | decide | omega) (by rfl) (pa_cons (pe_ix ix_tup (pv 0) pe_int (fun _ _ => rfl)) pa_nil)) (pe_one (pe_c C_is_whole hr (by first | decide | omega) (by rfl) (pa_cons (pe_ix ix_tup (pv 0) pe_int (fun _ _ => rfl)) (pa_cons pe_int pa_nil))))))))), ?_⟩
  try dsimp only [cxOf, Cx.nox, Cx.wish]
  refine run_def (N := N_is_coming) (fun _ => Nat.le_of_ble_eq_true rfl) (env0 := fun d : D => [.p d]) (fun _ => rfl) (fun B d hp L => ?_) h
  cases hp
  case tup ds hl hall =>
    match ds, hl, hall with
    | [a, b], hl, hall =>
      have ha := hall a (by simp)
      have hb := hall b (by simp)
      repeat walk_at "v"
      refine and_t rfl ?_
      repeat walk_at "v"
      refine and_t rfl ?_
      repeat walk_at "v"
      walk_at "c"
      repeat walk_at "v"
      refine vo_ixT (d := a) (atI_nat (j := 0) rfl) ?_
      refine fz_p ?_
      repeat walk_at "v"
      refine ⟨a, rfl, ha.dat, fun _ h => h, ?_⟩
      rintro _ rfl
      repeat walk_at "v"
      refine ⟨fun h1 => ?_, fun h1 => ?_⟩
      · repeat walk_at "v"
        walk_at "c"
        repeat walk_at "v"
        refine vo_ixT (d := b) (atI_nat (j := 1) rfl) ?_
        refine fz_p ?_
        repeat walk_at "v"
        refine ⟨(b, 0), rfl, hb.dat, fun _ h => h, ?_⟩
        rintro _ rfl
        refine ⟨rfl, ?_⟩
        show D.bl _ = D.bl (isDay a && _)
        rw [show isDay a = true from h1, Bool.true_and]
      · refine ⟨rfl, ?_⟩
        show D.bl false = D.bl (isDay a && _)
        rw [show isDay a = false from h1, Bool.false_and]
    | [], _, _ =>
      repeat walk_at "v"
      refine and_t rfl ?_
      repeat walk_at "v"
      exact and_f rfl ⟨rfl, rfl⟩
    | [x], _, _ =>
      repeat walk_at "v"
      refine and_t rfl ?_
      repeat walk_at "v"
      exact and_f rfl ⟨rfl, rfl⟩
    | x :: y :: z :: r, _, _ =>
      repeat walk_at "v"
      refine and_t rfl ?_
      repeat walk_at "v"
      exact and_f (decide_eq_false (by rw [List.length_cons, List.length_cons, List.length_cons]; omega)) ⟨rfl, rfl⟩
  all_goals
    repeat walk_at "v"
    exact and_f rfl ⟨rfl, rfl⟩

end
/-! ### is_part -/
abbrev s_is_part : Stmt := topS 17
abbrev N_is_part : List Str := ["found"]
theorem sc_is_part : FnScope N_is_part ["found"] (defScope s_is_part) := ⟨rfl, rfl, rfl, by decide +kernel, rfl, by decide +kernel, by decide +kernel⟩
section
variable {P : Program} {w : World} {K : PySem.W.Frag} {mg : Str → Option Value} {base : Heap}
abbrev sp_is_part (K : PySem.W.Frag) : Sp := SpA K (Gd K) false (fun d : D => [d]) (fun d => Any d) (fun d e => e = .bl (partB d)) noRs
theorem c_is_part (Dn : Dfn K mg "is_part" s_is_part ["found"]) (Z : Glb K mg w) (C_is_whole : Cal P w K mg base 1 "is_whole" (sp_is_whole K) []) (C_is_name : Cal P w K mg base 1 "is_name" (sp_is_name K) []) : Cal P w K mg base 2 "is_part" (sp_is_part K) [] := by
  obtain ⟨f, fd, F, hm, hb⟩ := Dn.ex
  refine ⟨f, fd, ["found"], [], ?_, hm, F.kp, hb, .nil⟩
  refine F.ok sc_is_part (fun vs H Q E h => spA_len (fun _ => rfl) h) (fun cdv A outer s H vs Q E hr h => ?_)
  refine ⟨_, (pss_one (ps_ret (pe_and (pe_callB call_isi (by rfl) Z.b_isinstance (by decide +kernel) (pa_cons (pv 0) (pa_cons (pe_bltn (v := .ty "tuple") (by rfl) Z.b_tuple (show bootBuiltins "tuple" = some (.type "tuple") by decide +kernel) rfl) pa_nil))) (pe_and (pe_cmpR op_eq (pe_callB call_len_seq (by rfl) Z.b_len PySem.boot_len (pa_cons (pv 0) pa_nil)) pe_int (nomark _)) (pe_and (pe_c C_is_name hr (by first | decide | omega) (by rfl) (pa_cons (pe_ix ix_tup (pv 0) pe_int (fun _ _ => rfl)) pa_nil)) (pe_one (pe_c C_is_whole hr (by first | decide | omega) (by rfl) (pa_cons (pe_ix ix_tup (pv 0) pe_int (fun _ _ => rfl)) (pa_cons pe_int pa_nil))))))))), ?_⟩
  try dsimp only [cxOf, Cx.nox, Cx.wish]
  refine run_def (N := N_is_part) (fun _ => Nat.le_of_ble_eq_true rfl) (env0 := fun d : D => [.p d]) (fun _ => rfl) (fun B d hp L => ?_) h
  cases hp
  case tup ds hl hall =>
    match ds, hl, hall with
    | [a, b], hl, hall =>
      have ha := hall a (by simp)
      have hb := hall b (by simp)
      repeat walk_at "v"
      refine and_t rfl ?_
      repeat walk_at "v"
      refine and_t rfl ?_
      repeat walk_at "v"
      walk_at "c"
      repeat walk_at "v"
      refine vo_ixT (d := a) (atI_nat (j := 0) rfl) ?_
      refine fz_p ?_
      repeat walk_at "v"
      refine ⟨a, rfl, ha, fun _ h => h, ?_⟩
      rintro _ rfl
      repeat walk_at "v"
      refine ⟨fun h1 => ?_, fun h1 => ?_⟩
      · repeat walk_at "v"
        walk_at "c"
        repeat walk_at "v"
        refine vo_ixT (d := b) (atI_nat (j := 1) rfl) ?_
        refine fz_p ?_
        repeat walk_at "v"
        refine ⟨(b, 1), rfl, hb.dat, fun _ h => h, ?_⟩
        rintro _ rfl
        refine ⟨rfl, ?_⟩
        show D.bl _ = D.bl (nameB a && _)
        rw [show nameB a = true from h1, Bool.true_and]
      · refine ⟨rfl, ?_⟩
        show D.bl false = D.bl (nameB a && _)
        rw [show nameB a = false from h1, Bool.false_and]
    | [], _, _ =>
      repeat walk_at "v"
      refine and_t rfl ?_
      repeat walk_at "v"
      exact and_f rfl ⟨rfl, rfl⟩
    | [x], _, _ =>
      repeat walk_at "v"
      refine and_t rfl ?_
      repeat walk_at "v"
      exact and_f rfl ⟨rfl, rfl⟩
    | x :: y :: z :: r, _, _ =>
      repeat walk_at "v"
      refine and_t rfl ?_
      repeat walk_at "v"
      exact and_f (decide_eq_false (by rw [List.length_cons, List.length_cons, List.length_cons]; omega)) ⟨rfl, rfl⟩
  all_goals
    repeat walk_at "v"
    exact and_f rfl ⟨rfl, rfl⟩

end
/-! ### are_all_low -/
abbrev s_are_all : Stmt := topS 18
abbrev N_are_all : List Str := ["found", "most", "is_one", "thing"]
theorem sc_are_all : FnScope N_are_all ["found", "most", "is_one"] (defScope s_are_all) := ⟨rfl, rfl, rfl, by decide +kernel, rfl, by decide +kernel, by decide +kernel⟩
section
variable {P : Program} {w : World} {K : PySem.W.Frag} {mg : Str → Option Value} {base : Heap}
/-- what a name asks -/
def lowB (nm : Str) : D → Bool := if nm = "is_coming" then comingB else partB
abbrev sp_are_all_low (K : PySem.W.Frag) : Sp := SpA K (Gd K) false (fun x : D × Int × Str × Addr => [x.1, .int x.2.1, .ptr x.2.2.2]) (fun x => Any x.1 ∧ (x.2.2.1 = "is_coming" ∨ x.2.2.1 = "is_part") ∧ Is K x.2.2.1 x.2.2.2) (fun x e => e = .bl (allB (lowB x.2.2.1) x.2.1 x.1)) noRs
theorem c_are_all_low (Dn : Dfn K mg "are_all" s_are_all ["found", "most", "is_one"]) (Z : Glb K mg w) (C_is_part : Cal P w K mg base 2 "is_part" (sp_is_part K) []) (C_is_coming : Cal P w K mg base 3 "is_coming" (sp_is_coming K) []) : Cal P w K mg base 4 "are_all" (sp_are_all_low K) [] := by
  obtain ⟨f, fd, F, hm, hb⟩ := Dn.ex
  refine ⟨f, fd, ["found", "most", "is_one"], [], ?_, hm, F.kp, hb, .nil⟩
  refine F.ok sc_are_all (fun vs H Q E h => spA_len (fun _ => rfl) h) (fun cdv A outer s H vs Q E hr h => ?_)
  refine ⟨_, (pss_one (ps_ret (pe_and (pe_callB call_isi (by rfl) Z.b_isinstance (by decide +kernel) (pa_cons (pv 0) (pa_cons (pe_bltn (v := .ty "tuple") (by rfl) Z.b_tuple (show bootBuiltins "tuple" = some (.type "tuple") by decide +kernel) rfl) pa_nil))) (pe_and (pe_cmpR op_le (pe_callB call_len_seq (by rfl) Z.b_len PySem.boot_len (pa_cons (pv 0) pa_nil)) (pv 1) (nomark _)) (pe_one (pe_callB (cr_all rfl) (by rfl) Z.b_all (by decide +kernel) (pa_cons (pe_lc (own := [("thing", 3)]) rfl sc_are_all.nd (pi_tup (pv 0)) (blkOk_by (N := N_are_all) (sc := defScope s_are_all) (by decide +kernel)) (fun _ _ _ _ _ => (pg_name (i := 3) sc_are_all.nd rfl (.inl rfl))) (fun _ _ _ _ _ => pts_nil) (fun _ _ _ _ _ => (pe_callR (i := 2) (cals_cons C_is_coming (by first | decide | omega) (cals_cons C_is_part (by first | decide | omega) cals_nil)) rfl hr rfl (by first | exact Or.inl rfl | exact Or.inr (Or.inl rfl) | exact Or.inr (Or.inr rfl)) (pa_cons (pv 3) pa_nil)))) pa_nil))))))), ?_⟩
  try dsimp only [cxOf, Cx.nox, Cx.wish]
  refine run_def (N := N_are_all) (fun _ => Nat.le_of_ble_eq_true rfl) (env0 := fun x : D × Int × Str × Addr => [.p x.1, .p (.int x.2.1), .p (.ptr x.2.2.2), .u]) (fun _ => rfl) (fun B x hp L => ?_) h
  obtain ⟨d, m, nm, f⟩ := x
  obtain ⟨hd, hnm, hf⟩ := hp
  dsimp only at hd hnm hf ⊢
  cases hd
  case tup ds hl hall =>
    repeat walk_at "v"
    refine and_t rfl ?_
    repeat walk_at "v"
    refine ⟨fun h1 => ?_, fun h1 => ?_⟩
    · repeat walk_at "v"
      refine ve_lcT (xs := ds) (g := id) (h := D.bl) (fun d => some (lowB nm d)) (hu1 rfl) (only_name (by decide)) (vi_tup ?_)
      repeat walk_at "v"
      refine ⟨_, rfl, (List.map_id _).symm, by omega, fun q i d hdi => ?_, ?_⟩
      · have hdm := hall d (List.mem_of_getElem? hdi)
        repeat walk_at "v"
        refine ⟨.set .refl (by decide), ?_⟩
        repeat walk_at "v"
        refine and_t rfl ?_
        rcases hnm with rfl | rfl
        · refine ve_callR rfl (.head _) (Z.ns _ _ hf) ?_
          walk_at "c"
          repeat walk_at "v"
          refine ⟨d, rfl, hdm, fun _ h => h, ?_⟩
          rintro _ rfl
          exact fz_p ⟨_, rfl, rfl⟩
        · refine ve_callR rfl (.tail _ (.head _)) (Z.ns _ _ hf) ?_
          walk_at "c"
          repeat walk_at "v"
          refine ⟨d, rfl, hdm, fun _ h => h, ?_⟩
          rintro _ rfl
          exact fz_p ⟨_, rfl, rfl⟩
      rw [fm_some]
      repeat walk_at "v"
      refine vc_all rfl ?_
      refine ⟨rfl, ?_⟩
      rw [List.all_map]
      show D.bl (ds.all (id ∘ lowB nm)) = D.bl (decide ((ds.length : Int) ≤ m) && ds.all (lowB nm))
      rw [show decide ((ds.length : Int) ≤ m) = true from h1, Bool.true_and]
      rfl
    · refine ⟨rfl, ?_⟩
      show D.bl false = D.bl (decide ((ds.length : Int) ≤ m) && ds.all (lowB nm))
      rw [show decide ((ds.length : Int) ≤ m) = false from h1, Bool.false_and]
  all_goals
    repeat walk_at "v"
    exact and_f rfl ⟨rfl, rfl⟩

end
/-! ### is_ware -/
abbrev s_is_ware : Stmt := topS 20
abbrev N_is_ware : List Str := ["found", "name", "lag", "gives", "floor", "stock", "coming", "parts", "part"]
theorem sc_is_ware : FnScope N_is_ware ["found"] (defScope s_is_ware) := ⟨rfl, rfl, rfl, by decide +kernel, rfl, by decide +kernel, by decide +kernel⟩
theorem ware_eq (a b c d e f g : D) : wareB (.tup [a, b, c, d, e, f, g]) = (nameB a && (isWhole b 0 && (topB 30 b && (isWhole c 1 && (isWhole d 0 && (isWhole e 0 && (allB comingB 12 f && (allB partB 6 g && unlikeB g)))))))) := rfl
theorem ware_not : ∀ ds : List D, ds.length ≠ 7 → wareB (.tup ds) = false
  | [], _ => rfl
  | [_], _ => rfl
  | [_, _], _ => rfl
  | [_, _, _], _ => rfl
  | [_, _, _, _], _ => rfl
  | [_, _, _, _, _], _ => rfl
  | [_, _, _, _, _, _], _ => rfl
  | [_, _, _, _, _, _, _], h => absurd rfl h
  | _ :: _ :: _ :: _ :: _ :: _ :: _ :: _ :: _, _ => rfl
theorem part_head {d : D} (h : partB d = true) : ∃ z w, d = .tup [.str z, w] := by
  unfold partB at h
  split at h
  · rename_i a b
    rw [Bool.and_eq_true] at h
    have h1 := h.1
    unfold nameB at h1
    split at h1
    · exact ⟨_, _, rfl⟩
    · cases h1
  · cases h
section
variable {P : Program} {w : World} {K : PySem.W.Frag} {mg : Str → Option Value} {base : Heap}
abbrev sp_is_ware (K : PySem.W.Frag) : Sp := SpA K (Gd K) false (fun d : D => [d]) (fun d => Any d) (fun d e => e = .bl (wareB d)) noRs
theorem c_is_ware (Dn : Dfn K mg "is_ware" s_is_ware ["found"]) (Z : Glb K mg w) (C_are_unlike : Cal P w K mg base 1 "are_unlike" (sp_are_unlike K) []) (C_are_all_low : Cal P w K mg base 4 "are_all" (sp_are_all_low K) []) (C_is_part : Cal P w K mg base 2 "is_part" (sp_is_part K) []) (C_is_coming : Cal P w K mg base 3 "is_coming" (sp_is_coming K) []) (C_is_whole : Cal P w K mg base 1 "is_whole" (sp_is_whole K) []) (C_is_name : Cal P w K mg base 1 "is_name" (sp_is_name K) []) : Cal P w K mg base 5 "is_ware" (sp_is_ware K) [] := by
  obtain ⟨f, fd, F, hm, hb⟩ := Dn.ex
  refine ⟨f, fd, ["found"], [], ?_, hm, F.kp, hb, .nil⟩
  refine F.ok sc_is_ware (fun vs H Q E h => spA_len (fun _ => rfl) h) (fun cdv A outer s H vs Q E hr h => ?_)
  refine ⟨_, (pss_cons (ps_if ((pw_or (pt_not (pt_val (pe_callB call_isi (by rfl) Z.b_isinstance (by decide +kernel) (pa_cons (pv 0) (pa_cons (pe_bltn (v := .ty "tuple") (by rfl) Z.b_tuple (show bootBuiltins "tuple" = some (.type "tuple") by decide +kernel) rfl) pa_nil))))) (pw_or1 (pt_cmpR op_ne (pe_callB call_len_seq (by rfl) Z.b_len PySem.boot_len (pa_cons (pv 0) pa_nil)) pe_int (nomark _))))).pt
    (pss_one (ps_ret pe_bl))
    pss_nil)
    (pss_cons (ps_asg (pv 0) (pg_tup rfl (pgs_cons (pg_name (i := 1) sc_is_ware.nd rfl (.inl rfl)) (pgs_cons (pg_name (i := 2) sc_is_ware.nd rfl (.inl rfl)) (pgs_cons (pg_name (i := 3) sc_is_ware.nd rfl (.inl rfl)) (pgs_cons (pg_name (i := 4) sc_is_ware.nd rfl (.inl rfl)) (pgs_cons (pg_name (i := 5) sc_is_ware.nd rfl (.inl rfl)) (pgs_cons (pg_name (i := 6) sc_is_ware.nd rfl (.inl rfl)) (pgs_cons (pg_name (i := 7) sc_is_ware.nd rfl (.inl rfl)) pgs_nil)))))))))
    (pss_cons (ps_if ((pw_or (pt_not (pt_val (pe_c C_is_name hr (by first | decide | omega) (by rfl) (pa_cons (pv 1) pa_nil)))) (pw_or (pt_not (pt_val (pe_c C_is_whole hr (by first | decide | omega) (by rfl) (pa_cons (pv 2) (pa_cons pe_int pa_nil))))) (pw_or1 (pt_cmpR op_gt (pv 2) (pe_gc (by rfl) Z.c_MOST_LAG) (nomark _)))))).pt
    (pss_one (ps_ret pe_bl))
    pss_nil)
    (pss_cons (ps_if ((pw_or (pt_not (pt_val (pe_c C_is_whole hr (by first | decide | omega) (by rfl) (pa_cons (pv 3) (pa_cons pe_int pa_nil))))) (pw_or (pt_not (pt_val (pe_c C_is_whole hr (by first | decide | omega) (by rfl) (pa_cons (pv 4) (pa_cons pe_int pa_nil))))) (pw_or1 (pt_not (pt_val (pe_c C_is_whole hr (by first | decide | omega) (by rfl) (pa_cons (pv 5) (pa_cons pe_int pa_nil))))))))).pt
    (pss_one (ps_ret pe_bl))
    pss_nil)
    (pss_cons (ps_if ((pw_or (pt_not (pt_val (pe_c C_are_all_low hr (by first | decide | omega) (by rfl) (pa_cons (pv 6) (pa_cons (pe_gc (by rfl) Z.c_MOST_COMING) (pa_cons (pe_def (by rfl)) pa_nil)))))) (pw_or1 (pt_not (pt_val (pe_c C_are_all_low hr (by first | decide | omega) (by rfl) (pa_cons (pv 7) (pa_cons (pe_gc (by rfl) Z.c_MOST_PARTS) (pa_cons (pe_def (by rfl)) pa_nil))))))))).pt
    (pss_one (ps_ret pe_bl))
    pss_nil)
    (pss_one (ps_ret (pe_c C_are_unlike hr (by first | decide | omega) (by rfl) (pa_cons (pe_lc (own := [("part", 8)]) rfl sc_is_ware.nd (pi_tup (pv 7)) (blkOk_by (N := N_is_ware) (sc := defScope s_is_ware) (by decide +kernel)) (fun _ _ _ _ _ => (pg_name (i := 8) sc_is_ware.nd rfl (.inl rfl))) (fun _ _ _ _ _ => pts_nil) (fun _ _ _ _ _ => (pe_ix (show IxR _ (rIxT K) from ix_tup) (pv 8) pe_int (fun _ _ => rfl)))) pa_nil))))))))), ?_⟩
  try dsimp only [cxOf, Cx.nox, Cx.wish]
  refine run_def (N := N_is_ware) (fun _ => Nat.le_of_ble_eq_true rfl) (env0 := fun d : D => [.p d, .u, .u, .u, .u, .u, .u, .u, .u]) (fun _ => rfl) (fun B d hp L => ?_) h
  refine vs_seq ?_
  refine vs_if ?_
  cases hp
  case tup ds hl hall =>
    repeat walk_at "v"
    refine and_f rfl ?_
    repeat walk_at "v"
    by_cases h7 : ds.length = 7
    · refine and_f (by rw [h7]; rfl) ?_
      obtain ⟨a, b, c, d, e, f, g, rfl⟩ : ∃ a b c d e f g, ds = [a, b, c, d, e, f, g] := by
        match ds, h7 with
        | [a, b, c, d, e, f, g], _ => exact ⟨a, b, c, d, e, f, g, rfl⟩
      have ha := hall a (by simp)
      have hb := hall b (by simp)
      have hc := hall c (by simp)
      have hd := hall d (by simp)
      have he := hall e (by simp)
      have hf := hall f (by simp)
      have hg := hall g (by simp)
      repeat walk_at "v"
      refine vs_if ?_
      repeat walk_at "v"
      walk_at "c"
      repeat walk_at "v"
      refine ⟨a, rfl, ha, fun _ h => h, ?_⟩
      rintro _ rfl
      repeat walk_at "v"
      cases n1 : nameB a with
      | false =>
        refine and_t rfl ?_
        try refine and_t rfl ?_
        repeat walk_at "v"
        exact ⟨rfl, by rw [ware_eq, n1]; simp only [Bool.true_and, Bool.false_and, Bool.and_false]⟩
      | true =>
        refine and_f rfl ?_
        repeat walk_at "v"
        walk_at "c"
        repeat walk_at "v"
        refine ⟨(b, 0), rfl, hb.dat, fun _ h => h, ?_⟩
        rintro _ rfl
        repeat walk_at "v"
        dsimp only
        cases n2 : isWhole b 0 with
        | false =>
          refine and_t rfl ?_
          try refine and_t rfl ?_
          repeat walk_at "v"
          exact ⟨rfl, by rw [ware_eq, n1, n2]; simp only [Bool.true_and, Bool.false_and, Bool.and_false]⟩
        | true =>
          refine and_f rfl ?_
          repeat walk_at "v"
          obtain ⟨i, rfl⟩ : ∃ i, b = .int i := by
            cases b <;> first | exact ⟨_, rfl⟩ | cases n2
          repeat walk_at "v"
          cases n3 : topB 30 (.int i) with
          | false =>
            have h3 : 30 < i := by have := of_decide_eq_false n3; omega
            refine and_t (decide_eq_true h3) ?_
            repeat walk_at "v"
            exact ⟨rfl, by rw [ware_eq, n1, n2, n3]; simp only [Bool.true_and, Bool.false_and, Bool.and_false]⟩
          | true =>
            have h3 : ¬ 30 < i := by have := of_decide_eq_true n3; omega
            refine and_f (decide_eq_false h3) ?_
            repeat walk_at "v"
            refine vs_if ?_
            repeat walk_at "v"
            walk_at "c"
            repeat walk_at "v"
            refine ⟨(c, 1), rfl, hc.dat, fun _ h => h, ?_⟩
            rintro _ rfl
            repeat walk_at "v"
            dsimp only
            cases n4 : isWhole c 1 with
            | false =>
              refine and_t rfl ?_
              try refine and_t rfl ?_
              repeat walk_at "v"
              exact ⟨rfl, by rw [ware_eq, n1, n2, n3, n4]; simp only [Bool.true_and, Bool.false_and, Bool.and_false]⟩
            | true =>
              refine and_f rfl ?_
              repeat walk_at "v"
              walk_at "c"
              repeat walk_at "v"
              refine ⟨(d, 0), rfl, hd.dat, fun _ h => h, ?_⟩
              rintro _ rfl
              repeat walk_at "v"
              dsimp only
              cases n5 : isWhole d 0 with
              | false =>
                refine and_t rfl ?_
                try refine and_t rfl ?_
                repeat walk_at "v"
                exact ⟨rfl, by rw [ware_eq, n1, n2, n3, n4, n5]; simp only [Bool.true_and, Bool.false_and, Bool.and_false]⟩
              | true =>
                refine and_f rfl ?_
                repeat walk_at "v"
                walk_at "c"
                repeat walk_at "v"
                refine ⟨(e, 0), rfl, he.dat, fun _ h => h, ?_⟩
                rintro _ rfl
                repeat walk_at "v"
                dsimp only
                cases n6 : isWhole e 0 with
                | false =>
                  refine and_t rfl ?_
                  try refine and_t rfl ?_
                  repeat walk_at "v"
                  exact ⟨rfl, by rw [ware_eq, n1, n2, n3, n4, n5, n6]; simp only [Bool.true_and, Bool.false_and, Bool.and_false]⟩
                | true =>
                  refine and_f rfl ?_
                  repeat walk_at "v"
                  refine vs_if ?_
                  repeat walk_at "v"
                  walk_at "c"
                  repeat walk_at "v"
                  obtain ⟨kf, hkf⟩ := Z.d_is_coming
                  refine ve_def ⟨kf, Z.ns _ _ hkf, ?_⟩
                  repeat walk_at "v"
                  refine ⟨(f, 12, "is_coming", kf), rfl, ⟨hf, .inl rfl, hkf⟩, fun _ h => h, ?_⟩
                  rintro _ rfl
                  repeat walk_at "v"
                  rw [show lowB "is_coming" = comingB from if_pos rfl]
                  cases n7 : allB comingB 12 f with
                  | false =>
                    refine and_t rfl ?_
                    try refine and_t rfl ?_
                    repeat walk_at "v"
                    exact ⟨rfl, by rw [ware_eq, n1, n2, n3, n4, n5, n6, n7]; simp only [Bool.true_and, Bool.false_and, Bool.and_false]⟩
                  | true =>
                    refine and_f rfl ?_
                    repeat walk_at "v"
                    walk_at "c"
                    repeat walk_at "v"
                    obtain ⟨kg, hkg⟩ := Z.d_is_part
                    refine ve_def ⟨kg, Z.ns _ _ hkg, ?_⟩
                    repeat walk_at "v"
                    refine ⟨(g, 6, "is_part", kg), rfl, ⟨hg, .inr rfl, hkg⟩, fun _ h => h, ?_⟩
                    rintro _ rfl
                    repeat walk_at "v"
                    rw [show lowB "is_part" = partB from if_neg (by decide)]
                    cases n8 : allB partB 6 g with
                    | false =>
                      refine and_t rfl ?_
                      try refine and_t rfl ?_
                      repeat walk_at "v"
                      exact ⟨rfl, by rw [ware_eq, n1, n2, n3, n4, n5, n6, n7, n8]; simp only [Bool.true_and, Bool.false_and, Bool.and_false]⟩
                    | true =>
                      refine and_f rfl ?_
                      repeat walk_at "v"
                      obtain ⟨ps, rfl⟩ : ∃ ps, g = .tup ps := by
                        unfold allB at n8
                        split at n8
                        · exact ⟨_, rfl⟩
                        · cases n8
                      have n8' : decide ((ps.length : Int) ≤ 6) = true ∧ ps.all partB = true := by
                        have : (decide ((ps.length : Int) ≤ 6) && ps.all partB) = true := n8
                        rwa [Bool.and_eq_true] at this
                      have pl := of_decide_eq_true n8'.1
                      walk_at "c"
                      repeat walk_at "v"
                      refine ve_lcT (xs := ps) (g := id) (h := D.str) (fun d => some (headS d)) (hu1 rfl) (only_name (by decide)) (vi_tup ?_)
                      repeat walk_at "v"
                      refine ⟨_, rfl, (List.map_id _).symm, by omega, fun q k d hdk => ?_, ?_⟩
                      · obtain ⟨z, w, rfl⟩ := part_head (List.all_eq_true.mp n8'.2 d (List.mem_of_getElem? hdk))
                        repeat walk_at "v"
                        refine ⟨.set .refl (by decide), ?_⟩
                        repeat walk_at "v"
                        refine and_t rfl ?_
                        repeat walk_at "v"
                        refine vo_ixT (d := .str z) (atI_nat (j := 0) rfl) ?_
                        exact fz_p ⟨_, rfl, rfl⟩
                      rw [fm_some]
                      repeat walk_at "v"
                      refine ⟨ps.map headS, rfl, by rw [List.length_map]; omega, fun _ h => h, ?_⟩
                      rintro _ rfl
                      refine ⟨rfl, ?_⟩
                      rw [ware_eq, n1, n2, n3, n4, n5, n6, n7, n8]
                      rfl
    · refine and_t (by
        have : decide (((ds.length : Nat) : Int) = 7) = false := decide_eq_false (by omega)
        rw [this]
        rfl) ?_
      repeat walk_at "v"
      exact ⟨rfl, by rw [ware_not ds h7]⟩
  all_goals
    repeat walk_at "v"
    refine and_t rfl ?_
    refine and_t rfl ?_
    repeat walk_at "v"
    exact ⟨rfl, rfl⟩

end
/-! ### is_want -/
abbrev s_is_want : Stmt := topS 21
abbrev N_is_want : List Str := ["found"]
theorem sc_is_want : FnScope N_is_want ["found"] (defScope s_is_want) := ⟨rfl, rfl, rfl, by decide +kernel, rfl, by decide +kernel, by decide +kernel⟩
section
variable {P : Program} {w : World} {K : PySem.W.Frag} {mg : Str → Option Value} {base : Heap}
abbrev sp_is_want (K : PySem.W.Frag) : Sp := SpA K (Gd K) false (fun d : D => [d]) (fun d => Any d) (fun d e => e = .bl (wantB d)) noRs
theorem c_is_want (Dn : Dfn K mg "is_want" s_is_want ["found"]) (Z : Glb K mg w) (C_is_whole : Cal P w K mg base 1 "is_whole" (sp_is_whole K) []) (C_is_day : Cal P w K mg base 2 "is_day" (sp_is_day K) []) (C_is_name : Cal P w K mg base 1 "is_name" (sp_is_name K) []) : Cal P w K mg base 3 "is_want" (sp_is_want K) [] := by
  obtain ⟨f, fd, F, hm, hb⟩ := Dn.ex
  refine ⟨f, fd, ["found"], [], ?_, hm, F.kp, hb, .nil⟩
  refine F.ok sc_is_want (fun vs H Q E h => spA_len (fun _ => rfl) h) (fun cdv A outer s H vs Q E hr h => ?_)
  refine ⟨_, (pss_cons (ps_if ((pw_or (pt_not (pt_val (pe_callB call_isi (by rfl) Z.b_isinstance (by decide +kernel) (pa_cons (pv 0) (pa_cons (pe_bltn (v := .ty "tuple") (by rfl) Z.b_tuple (show bootBuiltins "tuple" = some (.type "tuple") by decide +kernel) rfl) pa_nil))))) (pw_or1 (pt_cmpR op_ne (pe_callB call_len_seq (by rfl) Z.b_len PySem.boot_len (pa_cons (pv 0) pa_nil)) pe_int (nomark _))))).pt
    (pss_one (ps_ret pe_bl))
    pss_nil)
    (pss_one (ps_ret (pe_and (pe_c C_is_name hr (by first | decide | omega) (by rfl) (pa_cons (pe_ix ix_tup (pv 0) pe_int (fun _ _ => rfl)) pa_nil)) (pe_and (pe_c C_is_day hr (by first | decide | omega) (by rfl) (pa_cons (pe_ix ix_tup (pv 0) pe_int (fun _ _ => rfl)) pa_nil)) (pe_one (pe_c C_is_whole hr (by first | decide | omega) (by rfl) (pa_cons (pe_ix ix_tup (pv 0) pe_int (fun _ _ => rfl)) (pa_cons pe_int pa_nil))))))))), ?_⟩
  try dsimp only [cxOf, Cx.nox, Cx.wish]
  refine run_def (N := N_is_want) (fun _ => Nat.le_of_ble_eq_true rfl) (env0 := fun d : D => [.p d]) (fun _ => rfl) (fun B d hp L => ?_) h
  refine vs_seq ?_
  refine vs_if ?_
  cases hp
  case tup ds hl hall =>
    repeat walk_at "v"
    refine and_f rfl ?_
    repeat walk_at "v"
    by_cases h3 : ds.length = 3
    · refine and_f (by rw [h3]; rfl) ?_
      obtain ⟨a, b, c, rfl⟩ : ∃ a b c, ds = [a, b, c] := by
        match ds, h3 with
        | [a, b, c], _ => exact ⟨a, b, c, rfl⟩
      have ha := hall a (by simp)
      have hb := hall b (by simp)
      have hc := hall c (by simp)
      repeat walk_at "v"
      walk_at "c"
      repeat walk_at "v"
      refine vo_ixT (d := a) (atI_nat (j := 0) rfl) ?_
      refine fz_p ?_
      repeat walk_at "v"
      refine ⟨a, rfl, ha, fun _ h => h, ?_⟩
      rintro _ rfl
      repeat walk_at "v"
      refine ⟨fun h1 => ?_, fun h1 => ?_⟩
      · repeat walk_at "v"
        walk_at "c"
        repeat walk_at "v"
        refine vo_ixT (d := b) (atI_nat (j := 1) rfl) ?_
        refine fz_p ?_
        repeat walk_at "v"
        refine ⟨b, rfl, hb.dat, fun _ h => h, ?_⟩
        rintro _ rfl
        repeat walk_at "v"
        refine ⟨fun h2 => ?_, fun h2 => ?_⟩
        · repeat walk_at "v"
          walk_at "c"
          repeat walk_at "v"
          refine vo_ixT (d := c) (atI_nat (j := 2) rfl) ?_
          refine fz_p ?_
          repeat walk_at "v"
          refine ⟨(c, 0), rfl, hc.dat, fun _ h => h, ?_⟩
          rintro _ rfl
          refine ⟨rfl, ?_⟩
          show D.bl _ = D.bl (nameB a && (isDay b && _))
          rw [show nameB a = true from h1, show isDay b = true from h2, Bool.true_and, Bool.true_and]
        · refine ⟨rfl, ?_⟩
          show D.bl false = D.bl (nameB a && (isDay b && _))
          rw [show isDay b = false from h2, Bool.false_and, Bool.and_false]
      · refine ⟨rfl, ?_⟩
        show D.bl false = D.bl (nameB a && _)
        rw [show nameB a = false from h1, Bool.false_and]
    · refine and_t (by
        have : decide (((ds.length : Nat) : Int) = 3) = false := decide_eq_false (by omega)
        rw [this]
        rfl) ?_
      repeat walk_at "v"
      exact ⟨rfl, by rw [want_not ds h3]⟩
  all_goals
    repeat walk_at "v"
    refine and_t rfl ?_
    refine and_t rfl ?_
    repeat walk_at "v"
    exact ⟨rfl, rfl⟩

end
/-! ### are_all_high -/
section
variable {P : Program} {w : World} {K : PySem.W.Frag} {mg : Str → Option Value} {base : Heap}
/-- what a name asks -/
def highB (nm : Str) : D → Bool := if nm = "is_ware" then wareB else wantB
abbrev sp_are_all_high (K : PySem.W.Frag) : Sp := SpA K (Gd K) false (fun x : D × Int × Str × Addr => [x.1, .int x.2.1, .ptr x.2.2.2]) (fun x => Any x.1 ∧ (x.2.2.1 = "is_ware" ∨ x.2.2.1 = "is_want") ∧ Is K x.2.2.1 x.2.2.2) (fun x e => e = .bl (allB (highB x.2.2.1) x.2.1 x.1)) noRs
theorem c_are_all_high (Dn : Dfn K mg "are_all" s_are_all ["found", "most", "is_one"]) (Z : Glb K mg w) (C_is_want : Cal P w K mg base 3 "is_want" (sp_is_want K) []) (C_is_ware : Cal P w K mg base 5 "is_ware" (sp_is_ware K) []) : Cal P w K mg base 6 "are_all" (sp_are_all_high K) [] := by
  obtain ⟨f, fd, F, hm, hb⟩ := Dn.ex
  refine ⟨f, fd, ["found", "most", "is_one"], [], ?_, hm, F.kp, hb, .nil⟩
  refine F.ok sc_are_all (fun vs H Q E h => spA_len (fun _ => rfl) h) (fun cdv A outer s H vs Q E hr h => ?_)
  refine ⟨_, (pss_one (ps_ret (pe_and (pe_callB call_isi (by rfl) Z.b_isinstance (by decide +kernel) (pa_cons (pv 0) (pa_cons (pe_bltn (v := .ty "tuple") (by rfl) Z.b_tuple (show bootBuiltins "tuple" = some (.type "tuple") by decide +kernel) rfl) pa_nil))) (pe_and (pe_cmpR op_le (pe_callB call_len_seq (by rfl) Z.b_len PySem.boot_len (pa_cons (pv 0) pa_nil)) (pv 1) (nomark _)) (pe_one (pe_callB (cr_all rfl) (by rfl) Z.b_all (by decide +kernel) (pa_cons (pe_lc (own := [("thing", 3)]) rfl sc_are_all.nd (pi_tup (pv 0)) (blkOk_by (N := N_are_all) (sc := defScope s_are_all) (by decide +kernel)) (fun _ _ _ _ _ => (pg_name (i := 3) sc_are_all.nd rfl (.inl rfl))) (fun _ _ _ _ _ => pts_nil) (fun _ _ _ _ _ => (pe_callR (i := 2) (cals_cons C_is_ware (by first | decide | omega) (cals_cons C_is_want (by first | decide | omega) cals_nil)) rfl hr rfl (by first | exact Or.inl rfl | exact Or.inr (Or.inl rfl) | exact Or.inr (Or.inr rfl)) (pa_cons (pv 3) pa_nil)))) pa_nil))))))), ?_⟩
  try dsimp only [cxOf, Cx.nox, Cx.wish]
  refine run_def (N := N_are_all) (fun _ => Nat.le_of_ble_eq_true rfl) (env0 := fun x : D × Int × Str × Addr => [.p x.1, .p (.int x.2.1), .p (.ptr x.2.2.2), .u]) (fun _ => rfl) (fun B x hp L => ?_) h
  obtain ⟨d, m, nm, f⟩ := x
  obtain ⟨hd, hnm, hf⟩ := hp
  dsimp only at hd hnm hf ⊢
  cases hd
  case tup ds hl hall =>
    repeat walk_at "v"
    refine and_t rfl ?_
    repeat walk_at "v"
    refine ⟨fun h1 => ?_, fun h1 => ?_⟩
    · repeat walk_at "v"
      refine ve_lcT (xs := ds) (g := id) (h := D.bl) (fun d => some (highB nm d)) (hu1 rfl) (only_name (by decide)) (vi_tup ?_)
      repeat walk_at "v"
      refine ⟨_, rfl, (List.map_id _).symm, by omega, fun q i d hdi => ?_, ?_⟩
      · have hdm := hall d (List.mem_of_getElem? hdi)
        repeat walk_at "v"
        refine ⟨.set .refl (by decide), ?_⟩
        repeat walk_at "v"
        refine and_t rfl ?_
        rcases hnm with rfl | rfl
        · refine ve_callR rfl (.head _) (Z.ns _ _ hf) ?_
          walk_at "c"
          repeat walk_at "v"
          refine ⟨d, rfl, hdm, fun _ h => h, ?_⟩
          rintro _ rfl
          exact fz_p ⟨_, rfl, rfl⟩
        · refine ve_callR rfl (.tail _ (.head _)) (Z.ns _ _ hf) ?_
          walk_at "c"
          repeat walk_at "v"
          refine ⟨d, rfl, hdm, fun _ h => h, ?_⟩
          rintro _ rfl
          exact fz_p ⟨_, rfl, rfl⟩
      rw [fm_some]
      repeat walk_at "v"
      refine vc_all rfl ?_
      refine ⟨rfl, ?_⟩
      rw [List.all_map]
      show D.bl (ds.all (id ∘ highB nm)) = D.bl (decide ((ds.length : Int) ≤ m) && ds.all (highB nm))
      rw [show decide ((ds.length : Int) ≤ m) = true from h1, Bool.true_and]
      rfl
    · refine ⟨rfl, ?_⟩
      show D.bl false = D.bl (decide ((ds.length : Int) ≤ m) && ds.all (highB nm))
      rw [show decide ((ds.length : Int) ≤ m) = false from h1, Bool.false_and]
  all_goals
    repeat walk_at "v"
    exact and_f rfl ⟨rfl, rfl⟩

end
/-! ### is_shop -/
abbrev s_is_shop : Stmt := topS 22
abbrev N_is_shop : List Str := ["found", "wares", "wants", "names", "ware", "want", "part"]
theorem sc_is_shop : FnScope N_is_shop ["found"] (defScope s_is_shop) := ⟨rfl, rfl, rfl, by decide +kernel, rfl, by decide +kernel, by decide +kernel⟩
section
variable {P : Program} {w : World} {K : PySem.W.Frag} {mg : Str → Option Value} {base : Heap}
abbrev sp_is_shop (K : PySem.W.Frag) : Sp := SpA K (Gd K) false (fun d : D => [d]) (fun d => Any d) (fun d e => e = .bl (shopB d)) noRs
theorem c_is_shop (Dn : Dfn K mg "is_shop" s_is_shop ["found"]) (Z : Glb K mg w) (C_are_unlike : Cal P w K mg base 1 "are_unlike" (sp_are_unlike K) []) (C_are_all_high : Cal P w K mg base 6 "are_all" (sp_are_all_high K) []) (C_is_want : Cal P w K mg base 3 "is_want" (sp_is_want K) []) (C_is_ware : Cal P w K mg base 5 "is_ware" (sp_is_ware K) []) : Cal P w K mg base 7 "is_shop" (sp_is_shop K) [] := by
  obtain ⟨f, fd, F, hm, hb⟩ := Dn.ex
  refine ⟨f, fd, ["found"], [], ?_, hm, F.kp, hb, .nil⟩
  refine F.ok sc_is_shop (fun vs H Q E h => spA_len (fun _ => rfl) h) (fun cdv A outer s H vs Q E hr h => ?_)
  refine ⟨_, (pss_cons (ps_if ((pw_or (pt_not (pt_val (pe_callB call_isi (by rfl) Z.b_isinstance (by decide +kernel) (pa_cons (pv 0) (pa_cons (pe_bltn (v := .ty "tuple") (by rfl) Z.b_tuple (show bootBuiltins "tuple" = some (.type "tuple") by decide +kernel) rfl) pa_nil))))) (pw_or1 (pt_cmpR op_ne (pe_callB call_len_seq (by rfl) Z.b_len PySem.boot_len (pa_cons (pv 0) pa_nil)) pe_int (nomark _))))).pt
    (pss_one (ps_ret pe_bl))
    pss_nil)
    (pss_cons (ps_asg (pv 0) (pg_tup rfl (pgs_cons (pg_name (i := 1) sc_is_shop.nd rfl (.inl rfl)) (pgs_cons (pg_name (i := 2) sc_is_shop.nd rfl (.inl rfl)) pgs_nil))))
    (pss_cons (ps_if ((pw_or (pt_not (pt_val (pe_c C_are_all_high hr (by first | decide | omega) (by rfl) (pa_cons (pv 1) (pa_cons (pe_gc (by rfl) Z.c_MOST_WARES) (pa_cons (pe_def (by rfl)) pa_nil)))))) (pw_or (pt_cmpR op_eq (pe_callB call_len_seq (by rfl) Z.b_len PySem.boot_len (pa_cons (pv 1) pa_nil)) pe_int (nomark _)) (pw_or1 (pt_not (pt_val (pe_c C_are_all_high hr (by first | decide | omega) (by rfl) (pa_cons (pv 2) (pa_cons (pe_gc (by rfl) Z.c_MOST_WANTS) (pa_cons (pe_def (by rfl)) pa_nil)))))))))).pt
    (pss_one (ps_ret pe_bl))
    pss_nil)
    (pss_cons (ps_set (i := 3) sc_is_shop.nd rfl (.inr rfl) (pe_lc (own := [("ware", 4)]) rfl sc_is_shop.nd (pi_tup (pv 1)) (blkOk_by (N := N_is_shop) (sc := defScope s_is_shop) (by decide +kernel)) (fun _ _ _ _ _ => (pg_name (i := 4) sc_is_shop.nd rfl (.inl rfl))) (fun _ _ _ _ _ => pts_nil) (fun _ _ _ _ _ => (pe_ix (show IxR _ (rIxT K) from ix_tup) (pv 4) pe_int (fun _ _ => rfl)))))
    (pss_cons (ps_if ((pw_or (pt_not (pt_val (pe_c C_are_unlike hr (by first | decide | omega) (by rfl) (pa_cons (pv 3) pa_nil)))) (pw_or1 (pt_not (pt_val (pe_callB (cr_all rfl) (by rfl) Z.b_all (by decide +kernel) (pa_cons (pe_lc (own := [("want", 5)]) rfl sc_is_shop.nd (pi_tup (pv 2)) (blkOk_by (N := N_is_shop) (sc := defScope s_is_shop) (by decide +kernel)) (fun _ _ _ _ _ => (pg_name (i := 5) sc_is_shop.nd rfl (.inl rfl))) (fun _ _ _ _ _ => pts_nil) (fun _ _ _ _ _ => (pe_cmpR (show OpR _ _ (rIn K false) from op_in_seq) (pe_ix (show IxR _ (rIxT K) from ix_tup) (pv 5) pe_int (fun _ _ => rfl)) (pv 3) (by rfl)))) pa_nil))))))).pt
    (pss_one (ps_ret pe_bl))
    pss_nil)
    (pss_one (ps_ret (pe_callB (cr_all rfl) (by rfl) Z.b_all (by decide +kernel) (pa_cons (pe_lc (own := [("ware", 4)]) rfl sc_is_shop.nd (pi_tup (pv 1)) (blkOk_by (N := N_is_shop) (sc := defScope s_is_shop) (by decide +kernel)) (fun _ _ _ _ _ => (pg_name (i := 4) sc_is_shop.nd rfl (.inl rfl))) (fun _ _ _ _ _ => pts_nil) (fun _ _ _ _ _ => (pe_callB (show CallR _ _ (rAll K) from (cr_all rfl)) (by rfl) Z.b_all (by decide +kernel) (pa_cons (pe_lc (own := [("part", 6)]) rfl sc_is_shop.nd (show PI _ _ _ (iTup K _) from pi_tup (pe_ix (show IxR _ (rIxT K) from ix_tup) (pv 4) pe_int (fun _ _ => rfl))) (blkOk_by (by kernel_rfl)) (fun _ _ _ _ _ => (pg_name (i := 6) sc_is_shop.nd rfl (.inl rfl))) (fun _ _ _ _ _ => pts_nil) (fun _ _ _ _ _ => (pe_cmpR (show OpR _ _ (rIn K false) from op_in_seq) (pe_ix (show IxR _ (rIxT K) from ix_tup) (pv 6) pe_int (fun _ _ => rfl)) (pv 3) (by rfl)))) pa_nil)))) pa_nil))))))))), ?_⟩
  try dsimp only [cxOf, Cx.nox, Cx.wish]
  refine run_def (N := N_is_shop) (fun _ => Nat.le_of_ble_eq_true rfl) (env0 := fun d : D => [.p d, .u, .u, .u, .u, .u, .u]) (fun _ => rfl) (fun B d hp L => ?_) h
  refine vs_seq ?_
  refine vs_if ?_
  cases hp
  case tup ds hl hall =>
    repeat walk_at "v"
    refine and_f rfl ?_
    repeat walk_at "v"
    by_cases h2 : ds.length = 2
    · refine and_f (by rw [h2]; rfl) ?_
      obtain ⟨ws, vs, rfl⟩ : ∃ a b, ds = [a, b] := by
        match ds, h2 with
        | [a, b], _ => exact ⟨a, b, rfl⟩
      have ha := hall ws (by simp)
      have hb := hall vs (by simp)
      repeat walk_at "v"
      refine vs_if ?_
      repeat walk_at "v"
      walk_at "c"
      repeat walk_at "v"
      obtain ⟨kf, hkf⟩ := Z.d_is_ware
      refine ve_def ⟨kf, Z.ns _ _ hkf, ?_⟩
      repeat walk_at "v"
      refine ⟨(ws, 12, "is_ware", kf), rfl, ⟨ha, .inl rfl, hkf⟩, fun _ h => h, ?_⟩
      rintro _ rfl
      repeat walk_at "v"
      rw [show highB "is_ware" = wareB from if_pos rfl]
      cases n1 : allB wareB 12 ws with
      | false =>
        refine and_t rfl ?_
        try refine and_t rfl ?_
        repeat walk_at "v"
        exact ⟨rfl, by rw [badS_wares n1]⟩
      | true =>
        obtain ⟨wl, rfl, hwl, hwb⟩ := all_tup n1
        refine and_f rfl ?_
        repeat walk_at "v"
        cases n2 : wl.isEmpty with
        | true =>
          have e : wl = [] := List.isEmpty_iff.mp n2
          subst e
          refine and_t rfl ?_
          try refine and_t rfl ?_
          repeat walk_at "v"
          exact ⟨rfl, by rw [badS_none rfl]⟩
        | false =>
          have hne : 0 < wl.length := by
            cases wl with
            | nil => cases n2
            | cons a b => exact Nat.succ_pos _
          refine and_f (decide_eq_false (by omega)) ?_
          repeat walk_at "v"
          walk_at "c"
          repeat walk_at "v"
          obtain ⟨kg, hkg⟩ := Z.d_is_want
          refine ve_def ⟨kg, Z.ns _ _ hkg, ?_⟩
          repeat walk_at "v"
          refine ⟨(vs, 20, "is_want", kg), rfl, ⟨hb, .inr rfl, hkg⟩, fun _ h => h, ?_⟩
          rintro _ rfl
          repeat walk_at "v"
          rw [show highB "is_want" = wantB from if_neg (by decide)]
          cases n3 : allB wantB 20 vs with
          | false =>
            refine and_t rfl ?_
            try refine and_t rfl ?_
            repeat walk_at "v"
            exact ⟨rfl, by rw [badS_wants n3]⟩
          | true =>
            obtain ⟨vl, rfl, hvl, hvb⟩ := all_tup n3
            refine and_f rfl ?_
            repeat walk_at "v"
            refine ve_lcT (xs := wl) (g := id) (h := D.str) (fun d => some (headS d)) (hu1 rfl) (only_name (by decide)) (vi_tup ?_)
            repeat walk_at "v"
            refine ⟨_, rfl, (List.map_id _).symm, by omega, fun q k d hdk => ?_, ?_⟩
            · obtain ⟨z, b, c, e, f, g, ps, rfl, _⟩ := ware_shape (hwb d (List.mem_of_getElem? hdk))
              repeat walk_at "v"
              refine ⟨.set .refl (by decide), ?_⟩
              repeat walk_at "v"
              refine and_t rfl ?_
              repeat walk_at "v"
              refine vo_ixT (d := .str z) (atI_nat (j := 0) rfl) ?_
              exact fz_p ⟨_, rfl, rfl⟩
            rw [fm_some]
            repeat walk_at "v"
            refine vs_frz 3 (.inr rfl) ?_
            refine vs_if ?_
            repeat walk_at "v"
            walk_at "c"
            repeat walk_at "v"
            refine ⟨(wl.map headS), rfl, (by show (wl.map headS).length ≤ 1000; rw [List.length_map]; omega), fun _ h => h, ?_⟩
            rintro _ rfl
            repeat walk_at "v"
            cases n4 : decide (wl.map headS).Nodup with
            | false =>
              refine and_t rfl ?_
              try refine and_t rfl ?_
              repeat walk_at "v"
              exact ⟨rfl, congrArg D.bl (badS_unlike (ws := .tup wl) (vs := .tup vl) n4).symm⟩
            | true =>
              refine and_f rfl ?_
              repeat walk_at "v"
              refine ve_lcT (xs := vl) (g := id) (h := D.bl) (fun d => some (decide (headS d ∈ wl.map headS))) (hu1 rfl) (only_name (by decide)) (vi_tup ?_)
              repeat walk_at "v"
              refine ⟨_, rfl, (List.map_id _).symm, by omega, fun q k d hdk => ?_, ?_⟩
              · obtain ⟨z, b, c, rfl⟩ := want_shape (hvb d (List.mem_of_getElem? hdk))
                repeat walk_at "v"
                refine ⟨.set .refl (by decide), ?_⟩
                repeat walk_at "v"
                refine and_t rfl ?_
                repeat walk_at "v"
                refine vo_ixT (d := .str z) (atI_nat (j := 0) rfl) ?_
                repeat walk_at "v"
                refine vo_inS rfl ?_
                exact fz_p ⟨_, rfl, rfl⟩
              rw [fm_some]
              repeat walk_at "v"
              refine vc_all rfl ?_
              rw [List.all_map]
              repeat walk_at "v"
              have e5 : vl.all (id ∘ fun d => decide (headS d ∈ wl.map headS)) = inB (wl.map headS) vl := rfl
              rw [e5]
              cases n5 : inB (wl.map headS) vl with
              | false =>
                refine and_t rfl ?_
                repeat walk_at "v"
                exact ⟨rfl, congrArg D.bl (badS_want (ws := .tup wl) (vs := .tup vl) n5).symm⟩
              | true =>
                refine and_f rfl ?_
                repeat walk_at "v"
                refine ve_lcT (xs := wl) (g := id) (h := D.bl) (fun d => some (inB (wl.map headS) (partsD d))) (hu1 rfl) (only_name (by decide)) (vi_tup ?_)
                repeat walk_at "v"
                refine ⟨_, rfl, (List.map_id _).symm, by omega, fun q k d hdk => ?_, ?_⟩
                · obtain ⟨z, b, c, e, f, g, ps, rfl, hps, hpb⟩ := ware_shape (hwb d (List.mem_of_getElem? hdk))
                  repeat walk_at "v"
                  refine ⟨.set .refl (by decide), ?_⟩
                  repeat walk_at "v"
                  refine and_t rfl ?_
                  repeat walk_at "v"
                  refine ve_lcT (xs := ps) (g := id) (h := D.bl) (fun p => some (decide (headS p ∈ wl.map headS))) (hu1 rfl) (only_name (by decide)) (vi_tup ?_)
                  repeat walk_at "v"
                  refine vo_ixT (ds := [D.str z, b, c, e, f, g, D.tup ps]) (d := .tup ps) (atI_nat (j := 6) rfl) ?_
                  refine ⟨_, rfl, (List.map_id _).symm, by omega, fun q k p hpk => ?_, ?_⟩
                  · obtain ⟨y, w, rfl⟩ := part_head (hpb p (List.mem_of_getElem? hpk))
                    repeat walk_at "v"
                    refine ⟨.set .refl (by decide), ?_⟩
                    repeat walk_at "v"
                    refine and_t rfl ?_
                    repeat walk_at "v"
                    refine vo_ixT (ds := [D.str y, w]) (d := .str y) (atI_nat (j := 0) rfl) ?_
                    repeat walk_at "v"
                    refine vo_inS rfl ?_
                    exact fz_p ⟨_, rfl, rfl⟩
                  rw [fm_some]
                  repeat walk_at "v"
                  refine vc_all rfl ?_
                  rw [List.all_map]
                  exact fz_p ⟨_, rfl, rfl⟩
                rw [fm_some]
                repeat walk_at "v"
                refine vc_all rfl ?_
                rw [List.all_map]
                refine ⟨rfl, congrArg D.bl ?_⟩
                rw [shopB_eq, n1, n3]
                rw [show unlikeB (.tup wl) = true from n4, show inB ((dsOf (.tup wl)).map headS) (dsOf (.tup vl)) = true from n5, show (dsOf (.tup wl)).isEmpty = false from n2]
                rfl
    · refine and_t (by
        have : decide (((ds.length : Nat) : Int) = 2) = false := decide_eq_false (by omega)
        rw [this]
        rfl) ?_
      repeat walk_at "v"
      exact ⟨rfl, by rw [shop_not ds h2]⟩
  all_goals
    repeat walk_at "v"
    refine and_t rfl ?_
    refine and_t rfl ?_
    repeat walk_at "v"
    exact ⟨rfl, rfl⟩

end
/-! ### pairs_of -/
abbrev s_pairs_of : Stmt := topS 29
abbrev N_pairs_of : List Str := ["rows", "word", "name", "row"]
theorem sc_pairs_of : FnScope N_pairs_of ["rows", "word", "name"] (defScope s_pairs_of) := ⟨rfl, rfl, rfl, by decide +kernel, rfl, by decide +kernel, by decide +kernel⟩
def pairsD (b : Bool) (nm : Str) (rs : List RowV) : D := if b then .tup ((partsV nm rs).map partD) else .tup ((comsV nm rs).map pairD)
def pairW (b : Bool) : Str := if b then "part" else "coming"
def pair? (b : Bool) (nm : Str) (r : RowV) : Option D := if b then (RowV.part? nm r).map partD else (RowV.com? nm r).map pairD
theorem pairs_fm (b : Bool) (nm : Str) (rs : List RowV) : D.tup ((rs.filterMap (pair? b nm)).map id) = pairsD b nm rs := by
  rw [List.map_id]
  cases b with
  | true =>
    show D.tup (rs.filterMap fun r => (RowV.part? nm r).map partD) = D.tup ((rs.filterMap (RowV.part? nm)).map partD)
    rw [List.map_filterMap]
  | false =>
    show D.tup (rs.filterMap fun r => (RowV.com? nm r).map pairD) = D.tup ((rs.filterMap (RowV.com? nm)).map pairD)
    rw [List.map_filterMap]
section
variable {P : Program} {w : World} {K : PySem.W.Frag} {mg : Str → Option Value} {base : Heap}
abbrev sp_pairs_of (K : PySem.W.Frag) : Sp := SpA K (Gd K) false (fun x : List RowV × Bool × Str => [.lst (x.1.map RowV.d), .str (pairW x.2.1), .str x.2.2]) (fun x => x.1.length ≤ 1000) (fun x d => d = pairsD x.2.1 x.2.2 x.1) noRs
theorem c_pairs_of (Dn : Dfn K mg "pairs_of" s_pairs_of ["rows", "word", "name"]) (Z : Glb K mg w)  : Cal P w K mg base 1 "pairs_of" (sp_pairs_of K) [] := by
  obtain ⟨f, fd, F, hm, hb⟩ := Dn.ex
  refine ⟨f, fd, ["rows", "word", "name"], [], ?_, hm, F.kp, hb, .nil⟩
  refine F.ok sc_pairs_of (fun vs H Q E h => spA_len (fun _ => rfl) h) (fun cdv A outer s H vs Q E hr h => ?_)
  refine ⟨_, (pss_one (ps_ret (pe_callTy call_tuple_of (by rfl) Z.b_tuple (by decide +kernel) (pa_cons (pe_lc (own := [("row", 3)]) rfl sc_pairs_of.nd (pi_list (pv 0)) (blkOk_by (N := N_pairs_of) (sc := defScope s_pairs_of) (by decide +kernel)) (fun _ _ _ _ _ => (pg_name (i := 3) sc_pairs_of.nd rfl (.inl rfl))) (fun _ _ _ _ _ => (pts_one ((pw_and (pt_cmpR op_eq (pe_ix (show IxR _ (rIxL K) from ix_list) (pv 3) pe_int (fun _ _ => rfl)) (pv 1) (nomark _)) (pw_and1 (pt_cmpR op_eq (pe_ix (show IxR _ (rIxL K) from ix_list) (pv 3) pe_int (fun _ _ => rfl)) (pv 2) (nomark _))))).pt)) (fun _ _ _ _ _ => (pe_tup (pa_cons (pe_ix (show IxR _ (rIxL K) from ix_list) (pv 3) pe_int (fun _ _ => rfl)) (pa_cons (pe_ix (show IxR _ (rIxL K) from ix_list) (pv 3) pe_int (fun _ _ => rfl)) pa_nil))))) pa_nil)))), ?_⟩
  try dsimp only [cxOf, Cx.nox, Cx.wish]
  refine run_def (N := N_pairs_of) (fun _ => Nat.le_of_ble_eq_true rfl) (env0 := fun x : List RowV × Bool × Str => [.p (.lst (x.1.map RowV.d)), .p (.str (pairW x.2.1)), .p (.str x.2.2), .u]) (fun _ => rfl) (fun B x hp L => ?_) h
  obtain ⟨rs, b, nm⟩ := x
  dsimp only at hp ⊢
  repeat walk_at "v"
  refine ve_lcT (xs := rs) (g := RowV.d) (h := id) (pair? b nm) (hu1 rfl) (only_name (by decide)) (vi_l ?_)
  repeat walk_at "v"
  refine ⟨_, rfl, rfl, by omega, fun q i r hr => ?_, ?_⟩
  · repeat walk_at "v"
    refine ⟨.set .refl (by decide), ?_⟩
    cases r with
    | ware x a b' c d =>
      repeat walk_at "v"
      refine vo_ixL (d := .str "ware") rfl (atI_nat (j := 0) rfl) ?_
      repeat walk_at "v"
      refine and_f (by cases b <;> decide) ?_
      refine and_f rfl ?_
      cases b <;> rfl
    | want x a d =>
      repeat walk_at "v"
      refine vo_ixL (d := .str "want") rfl (atI_nat (j := 0) rfl) ?_
      repeat walk_at "v"
      refine and_f (by cases b <;> decide) ?_
      refine and_f rfl ?_
      cases b <;> rfl
    | coming x a d =>
      repeat walk_at "v"
      refine vo_ixL (d := .str "coming") rfl (atI_nat (j := 0) rfl) ?_
      repeat walk_at "v"
      cases b with
      | true =>
        refine and_f (by decide) ?_
        exact and_f rfl rfl
      | false =>
        refine and_t (by decide) ?_
        repeat walk_at "v"
        refine vo_ixL (d := .str x) rfl (atI_nat (j := 1) rfl) ?_
        repeat walk_at "v"
        refine ⟨fun hb => ?_, fun hb => ?_⟩
        · have e := of_decide_eq_true hb
          repeat walk_at "v"
          refine vo_ixL (d := .int a) rfl (atI_nat (j := 2) rfl) ?_
          repeat walk_at "v"
          refine vo_ixL (d := .int d) rfl (atI_nat (j := 3) rfl) ?_
          repeat walk_at "v"
          refine ⟨_, rfl, ?_⟩
          show (if x = nm then some (a, d) else none : Option (Int × Int)).map pairD = _
          rw [if_pos e]
          rfl
        · have e := of_decide_eq_false hb
          show (if x = nm then some (a, d) else none : Option (Int × Int)).map pairD = _
          rw [if_neg e]
          rfl
    | part x p a =>
      repeat walk_at "v"
      refine vo_ixL (d := .str "part") rfl (atI_nat (j := 0) rfl) ?_
      repeat walk_at "v"
      cases b with
      | false =>
        refine and_f (by decide) ?_
        exact and_f rfl rfl
      | true =>
        refine and_t (by decide) ?_
        repeat walk_at "v"
        refine vo_ixL (d := .str x) rfl (atI_nat (j := 1) rfl) ?_
        repeat walk_at "v"
        refine ⟨fun hb => ?_, fun hb => ?_⟩
        · have e := of_decide_eq_true hb
          repeat walk_at "v"
          refine vo_ixL (d := .str p) rfl (atI_nat (j := 2) rfl) ?_
          repeat walk_at "v"
          refine vo_ixL (d := .int a) rfl (atI_nat (j := 3) rfl) ?_
          repeat walk_at "v"
          refine ⟨_, rfl, ?_⟩
          show (if x = nm then some (p, a) else none : Option (Str × Int)).map partD = _
          rw [if_pos e]
          rfl
        · have e := of_decide_eq_false hb
          show (if x = nm then some (p, a) else none : Option (Str × Int)).map partD = _
          rw [if_neg e]
          rfl
  repeat walk_at "v"
  rw [pairs_fm]
  exact ⟨rfl, rfl⟩

end
/-! ### read_shop -/
abbrev s_read_shop : Stmt := topS 30
abbrev N_read_shop : List Str := ["text", "rows", "names", "wares", "row", "coming", "shop"]
theorem sc_read_shop : FnScope N_read_shop ["text"] (defScope s_read_shop) := ⟨rfl, rfl, rfl, by decide +kernel, rfl, by decide +kernel, by decide +kernel⟩
section
variable {P : Program} {w : World} {K : PySem.W.Frag} {mg : Str → Option Value} {base : Heap}
abbrev sp_read_shop (K : PySem.W.Frag) : Sp := SpA K (Gd K) false (fun rs : List RowV => [.str (textOf rs)]) (fun rs => rs ≠ [] ∧ rs.length ≤ 250 ∧ (∀ r ∈ rs, r.ok) ∧ (∀ r ∈ rs, r.nm ∈ headsV rs) ∧ shopB (shopD (shopOf rs)) = true) (fun rs d => d = shopD (shopOf rs)) noRs
theorem c_read_shop (Dn : Dfn K mg "read_shop" s_read_shop ["text"]) (Z : Glb K mg w) (C_is_shop : Cal P w K mg base 7 "is_shop" (sp_is_shop K) []) (C_pairs_of : Cal P w K mg base 1 "pairs_of" (sp_pairs_of K) []) (C_read_row : Cal P w K mg base 2 "read_row" (sp_read_row K) []) : Cal P w K mg base 8 "read_shop" (sp_read_shop K) [] := by
  obtain ⟨f, fd, F, hm, hb⟩ := Dn.ex
  refine ⟨f, fd, ["text"], [], ?_, hm, F.kp, hb, .nil⟩
  refine F.ok sc_read_shop (fun vs H Q E h => spA_len (fun _ => rfl) h) (fun cdv A outer s H vs Q E hr h => ?_)
  refine ⟨_, (pss_cons (ps_if (pt_not (pt_val (pe_callB call_isi (by rfl) Z.b_isinstance (by decide +kernel) (pa_cons (pv 0) (pa_cons (pe_bltn (v := .ty "str") (by rfl) Z.b_str (show bootBuiltins "str" = some (.type "str") by decide +kernel) rfl) pa_nil)))))
    (pss_one ps_dead)
    pss_nil)
    (pss_cons (ps_setLc (i := 1) (own := [("row", 4)]) rfl sc_read_shop.nd rfl rfl (sw_true rfl rfl rfl (by decide +kernel)) (pi_list (pe_split (pv 0) pe_str)) (blkOk_by (N := N_read_shop) (sc := defScope s_read_shop) (by decide +kernel)) (fun _ _ _ _ _ => (pg_name (i := 4) sc_read_shop.nd rfl (.inl rfl))) (fun _ _ _ _ _ => pts_nil) (fun _ _ _ _ _ => (pe_c C_read_row hr (by first | decide | omega) (by rfl) (pa_cons (pv 4) pa_nil))))
    (pss_cons (ps_setLc (i := 2) (own := [("row", 4)]) rfl sc_read_shop.nd rfl rfl (sw_true rfl rfl rfl (by decide +kernel)) (pi_list (pv 1)) (blkOk_by (N := N_read_shop) (sc := defScope s_read_shop) (by decide +kernel)) (fun _ _ _ _ _ => (pg_name (i := 4) sc_read_shop.nd rfl (.inl rfl))) (fun _ _ _ _ _ => (pts_one (pt_cmpR op_eq (pe_ix (show IxR _ (rIxL K) from ix_list) (pv 4) pe_int (fun _ _ => rfl)) pe_str (nomark _)))) (fun _ _ _ _ _ => (pe_ix (show IxR _ (rIxL K) from ix_list) (pv 4) pe_int (fun _ _ => rfl))))
    (pss_cons (ps_set (i := 3) sc_read_shop.nd rfl (.inl rfl) (pe_lst pa_nil))
    (pss_cons (ps_for PassesOwn.never rfl (pi_list (pv 1)) (pg_name (i := 4) sc_read_shop.nd rfl (.inl rfl))
    (pss_one (ps_if (pt_cmpR op_eq (pe_ix ix_list (pv 4) pe_int (fun _ _ => rfl)) pe_str (nomark _))
      (pss_cons (ps_set (i := 5) sc_read_shop.nd rfl (.inl rfl) (pe_c C_pairs_of hr (by first | decide | omega) (by rfl) (pa_cons (pv 1) (pa_cons pe_str (pa_cons (pe_ix ix_list (pv 4) pe_int (fun _ _ => rfl)) pa_nil)))))
        (pss_one (ps_expr (pe_bm PySem.F.plainAttrs_list PySem.F.slot_list_append PySem.F.type_list_append mt_append (pv 3) (pa_cons (pe_op op_catA (pe_callTy call_tuple_of (by rfl) Z.b_tuple (by decide +kernel) (pa_cons (pe_slice sl_list (pv 4) (po_some pe_int) po_none) pa_nil)) (pe_tup (pa_cons (pv 5) (pa_cons (pe_c C_pairs_of hr (by first | decide | omega) (by rfl) (pa_cons (pv 1) (pa_cons pe_str (pa_cons (pe_ix ix_list (pv 4) pe_int (fun _ _ => rfl)) pa_nil)))) pa_nil)))) pa_nil)))))
      (pss_one (ps_if (pt_cmpR op_notIn_seq (pe_ix ix_list (pv 4) pe_int (fun _ _ => rfl)) (pv 2) (by rfl))
        (pss_one ps_dead)
        pss_nil)))))
    (pss_cons (ps_set (i := 6) sc_read_shop.nd rfl (.inl rfl) (pe_tup (pa_cons (pe_callTy call_tuple_of (by rfl) Z.b_tuple (by decide +kernel) (pa_cons (pv 3) pa_nil)) (pa_cons (pe_callTy call_tuple_of (by rfl) Z.b_tuple (by decide +kernel) (pa_cons (pe_lc (own := [("row", 4)]) rfl sc_read_shop.nd (pi_list (pv 1)) (blkOk_by (N := N_read_shop) (sc := defScope s_read_shop) (by decide +kernel)) (fun _ _ _ _ _ => (pg_name (i := 4) sc_read_shop.nd rfl (.inl rfl))) (fun _ _ _ _ _ => (pts_one (pt_cmpR op_eq (pe_ix (show IxR _ (rIxL K) from ix_list) (pv 4) pe_int (fun _ _ => rfl)) pe_str (nomark _)))) (fun _ _ _ _ _ => (pe_callTy (show CallR _ _ (fun xs H Q => ∃ p ys, xs = [.ref p] ∧ ((SqL K H p ys ∧ ∀ l, H l = none → Q (.ref l) (upd H l (.tup ys))) ∨ (SqT K H p ys ∧ Q (.ref p) H))) from call_tuple_of) (by rfl) Z.b_tuple (by decide +kernel) (pa_cons (pe_slice (show SlR _ (rSlL K) from sl_list) (pv 4) (po_some pe_int) po_none) pa_nil)))) pa_nil)) pa_nil))))
    (pss_cons (ps_if (pt_not (pt_val (pe_c C_is_shop hr (by first | decide | omega) (by rfl) (pa_cons (pv 6) pa_nil))))
    (pss_one ps_dead)
    pss_nil)
    (pss_one (ps_ret (pv 6)))))))))), ?_⟩
  try dsimp only [cxOf, Cx.nox, Cx.wish]
  refine run_def (N := N_read_shop) (fun _ => Nat.le_of_ble_eq_true rfl) (env0 := fun rs : List RowV => [.p (.str (textOf rs)), .u, .u, .u, .u, .u, .u]) (fun _ => rfl) (fun B rs hp L => ?_) h
  obtain ⟨hne, hl, hok, hnm, hsh⟩ := hp
  have htl := text_len hok
  have hsp := split_text hne hok
  refine vs_seq ?_
  refine vs_if ?_
  repeat walk_at "v"
  refine and_f rfl ?_
  refine vs_next ?_
  refine vs_seq ?_
  refine vs_asg ?_
  refine ve_lcT (xs := rs) (g := fun r => .str (RowV.line r)) (h := RowV.d) (fun r => some r) (hu1 rfl) (only_name (by decide)) (vi_l ?_)
  refine ve_split ?_
  repeat walk_at "v"
  refine ⟨_, rfl, ?_⟩
  repeat walk_at "v"
  refine ⟨_, rfl, by decide, by omega, ?_⟩
  rw [hsp]
  refine fz_o ⟨_, rfl, by rw [List.map_map]; rfl, by omega, fun q i r hr => ?_, ?_⟩
  · have hrm := List.mem_of_getElem? hr
    have hll := line_len (hok r hrm)
    repeat walk_at "v"
    refine ⟨.set .refl (by decide), ?_⟩
    repeat walk_at "v"
    refine and_t rfl ?_
    walk_at "c"
    repeat walk_at "v"
    refine ⟨(r.line, r.ds), rfl, ⟨by show r.line.length ≤ 50000; omega, by show parseRow (Txt.split r.line " ") = _; rw [split_line (hok r hrm)]; exact parse_words (hok r hrm)⟩, fun _ h => h, ?_⟩
    rintro _ rfl
    exact fz_p ⟨r, rfl, rfl⟩
  rw [fm_some, List.map_id']
  refine vg_o (Nat.le_of_ble_eq_true rfl) ?_
  refine vs_frz 1 (.inr rfl) ?_
  refine vs_seq ?_
  refine vs_asg ?_
  refine ve_lcT (xs := rs) (g := RowV.d) (h := D.str) RowV.head? (hu1 rfl) (only_name (by decide)) (vi_l ?_)
  repeat walk_at "v"
  refine ⟨_, rfl, rfl, by omega, fun q i r hr => ?_, ?_⟩
  · repeat walk_at "v"
    refine ⟨.set .refl (by decide), ?_⟩
    cases r with
    | ware x a b c d =>
      repeat walk_at "v"
      refine vo_ixL (d := .str "ware") rfl (atI_nat (j := 0) rfl) ?_
      repeat walk_at "v"
      refine and_t (by decide) ?_
      repeat walk_at "v"
      refine vo_ixL (d := .str x) rfl (atI_nat (j := 1) rfl) ?_
      exact fz_p ⟨_, rfl, rfl⟩
    | coming x a d =>
      repeat walk_at "v"
      refine vo_ixL (d := .str "coming") rfl (atI_nat (j := 0) rfl) ?_
      repeat walk_at "v"
      exact and_f (by decide) rfl
    | part x a d =>
      repeat walk_at "v"
      refine vo_ixL (d := .str "part") rfl (atI_nat (j := 0) rfl) ?_
      repeat walk_at "v"
      exact and_f (by decide) rfl
    | want x a d =>
      repeat walk_at "v"
      refine vo_ixL (d := .str "want") rfl (atI_nat (j := 0) rfl) ?_
      repeat walk_at "v"
      exact and_f (by decide) rfl
  refine vg_o (Nat.le_of_ble_eq_true rfl) ?_
  refine vs_frz 2 (.inr rfl) ?_
  repeat walk_at "v"
  refine vs_for (vi_l ?_)
  repeat walk_at "v"
  refine ⟨_, rfl, fun i e => ∃ (x4 x5 : Slot), e = [.p (.str (textOf rs)), .p (.lst (rs.map RowV.d)), .p (.lst ((headsV rs).map D.str)), .mu (.lst (((rs.take i).filterMap (RowV.ware? rs)).map wareD)), x4, x5, .u], ⟨_, _, rfl⟩, ?_, ?_⟩
  · rintro i d e hi ⟨x4, x5, rfl⟩
    obtain ⟨r, hr, rfl⟩ := map_get hi
    have hrm := List.mem_of_getElem? hr
    have hrn := hnm r hrm
    have hfl : ((rs.take i).filterMap (RowV.ware? rs)).length ≤ 250 := Nat.le_trans (List.length_filterMap_le _ _) (by rw [List.length_take]; omega)
    have hstep : (rs.take (i + 1)).filterMap (RowV.ware? rs) = (rs.take i).filterMap (RowV.ware? rs) ++ (RowV.ware? rs r).toList := by
      rw [take_one hr, List.filterMap_append]
      cases e : RowV.ware? rs r <;> simp [e]
    cases r with
    | ware x a b c d =>
      repeat walk_at "v"
      refine vs_if ?_
      repeat walk_at "v"
      refine vo_ixL (d := .str "ware") rfl (atI_nat (j := 0) rfl) ?_
      repeat walk_at "v"
      refine and_t (by decide) ?_
      repeat walk_at "v"
      walk_at "c"
      repeat walk_at "v"
      refine vo_ixL (d := .str x) rfl (atI_nat (j := 1) rfl) ?_
      repeat walk_at "v"
      refine ⟨(rs, false, x), rfl, by show rs.length ≤ 1000; omega, fun _ h => h, ?_⟩
      rintro _ rfl
      repeat walk_at "v"
      walk_at "c"
      repeat walk_at "v"
      refine vo_ixL (d := .str x) rfl (atI_nat (j := 1) rfl) ?_
      repeat walk_at "v"
      refine ⟨(rs, true, x), rfl, by show rs.length ≤ 1000; omega, fun _ h => h, ?_⟩
      rintro _ rfl
      repeat walk_at "v"
      refine vo_catA (by show 5 + 2 ≤ 100000; decide) ?_
      refine fz_p ⟨_, rfl, by rw [List.length_map]; omega, ?_⟩
      dsimp only
      rw [hstep, List.map_append]
      exact ⟨_, _, rfl⟩
    | coming x a d =>
      repeat walk_at "v"
      refine vs_if ?_
      repeat walk_at "v"
      refine vo_ixL (d := .str "coming") rfl (atI_nat (j := 0) rfl) ?_
      repeat walk_at "v"
      refine and_f (by decide) ?_
      repeat walk_at "v"
      refine vs_if ?_
      repeat walk_at "v"
      refine vo_ixL (d := .str x) rfl (atI_nat (j := 1) rfl) ?_
      repeat walk_at "v"
      refine vo_notInS rfl ?_
      repeat walk_at "v"
      refine and_f (by rw [decide_eq_true (show x ∈ headsV rs from hrn)]; rfl) ?_
      repeat walk_at "v"
      dsimp only
      rw [hstep, show (RowV.ware? rs (RowV.coming x a d)).toList = [] from rfl, List.append_nil]
      exact ⟨_, _, rfl⟩
    | part x a d =>
      repeat walk_at "v"
      refine vs_if ?_
      repeat walk_at "v"
      refine vo_ixL (d := .str "part") rfl (atI_nat (j := 0) rfl) ?_
      repeat walk_at "v"
      refine and_f (by decide) ?_
      repeat walk_at "v"
      refine vs_if ?_
      repeat walk_at "v"
      refine vo_ixL (d := .str x) rfl (atI_nat (j := 1) rfl) ?_
      repeat walk_at "v"
      refine vo_notInS rfl ?_
      repeat walk_at "v"
      refine and_f (by rw [decide_eq_true (show x ∈ headsV rs from hrn)]; rfl) ?_
      repeat walk_at "v"
      dsimp only
      rw [hstep, show (RowV.ware? rs (RowV.part x a d)).toList = [] from rfl, List.append_nil]
      exact ⟨_, _, rfl⟩
    | want x a d =>
      repeat walk_at "v"
      refine vs_if ?_
      repeat walk_at "v"
      refine vo_ixL (d := .str "want") rfl (atI_nat (j := 0) rfl) ?_
      repeat walk_at "v"
      refine and_f (by decide) ?_
      repeat walk_at "v"
      refine vs_if ?_
      repeat walk_at "v"
      refine vo_ixL (d := .str x) rfl (atI_nat (j := 1) rfl) ?_
      repeat walk_at "v"
      refine vo_notInS rfl ?_
      repeat walk_at "v"
      refine and_f (by rw [decide_eq_true (show x ∈ headsV rs from hrn)]; rfl) ?_
      repeat walk_at "v"
      dsimp only
      rw [hstep, show (RowV.ware? rs (RowV.want x a d)).toList = [] from rfl, List.append_nil]
      exact ⟨_, _, rfl⟩
  · rintro e ⟨x4, x5, rfl⟩
    rw [List.length_map, List.take_length]
    refine vs_forget 4 (vs_frz 3 (.inr rfl) ?_)
    refine vs_seq ?_
    refine vs_asg ?_
    repeat walk_at "v"
    refine ve_lcT (xs := rs) (g := RowV.d) (h := wantD) RowV.want? (hu1 rfl) (only_name (by decide)) (vi_l ?_)
    repeat walk_at "v"
    refine ⟨_, rfl, rfl, by omega, fun q i r hr => ?_, ?_⟩
    · repeat walk_at "v"
      refine ⟨.set .refl (by decide), ?_⟩
      cases r with
      | want x a d =>
        repeat walk_at "v"
        refine vo_ixL (d := .str "want") rfl (atI_nat (j := 0) rfl) ?_
        repeat walk_at "v"
        refine and_t (by decide) ?_
        repeat walk_at "v"
        exact ⟨(x, a, d), rfl, rfl⟩
      | coming x a d =>
        repeat walk_at "v"
        refine vo_ixL (d := .str "coming") rfl (atI_nat (j := 0) rfl) ?_
        repeat walk_at "v"
        exact and_f (by decide) rfl
      | part x a d =>
        repeat walk_at "v"
        refine vo_ixL (d := .str "part") rfl (atI_nat (j := 0) rfl) ?_
        repeat walk_at "v"
        exact and_f (by decide) rfl
      | ware x a b c d =>
        repeat walk_at "v"
        refine vo_ixL (d := .str "ware") rfl (atI_nat (j := 0) rfl) ?_
        repeat walk_at "v"
        exact and_f (by decide) rfl
    repeat walk_at "v"
    refine vs_if ?_
    repeat walk_at "v"
    walk_at "c"
    repeat walk_at "v"
    refine ⟨(shopD (shopOf rs)), rfl, any_shopOf hok (by omega), fun _ h => h, ?_⟩
    rintro _ rfl
    repeat walk_at "v"
    rw [hsh]
    refine and_f rfl ?_
    repeat walk_at "v"
    exact ⟨rfl, rfl⟩

end
/-! ### _law_rows -/
abbrev s__law_rows : Stmt := topS 39
abbrev N__law_rows : List Str := ["shop", "rows", "ware", "number", "day", "amount", "name", "#0"]
theorem sc__law_rows : FnScope N__law_rows ["shop"] (defScope s__law_rows) := ⟨rfl, rfl, rfl, by decide +kernel, rfl, by decide +kernel, by decide +kernel⟩
section
variable {P : Program} {w : World} {K : PySem.W.Frag} {mg : Str → Option Value} {base : Heap}
abbrev sp__law_rows (K : PySem.W.Frag) : Sp := SpG K (Gd K) (fun s : Shop => [shopD s]) ShopG (fun s gs d => ∃ L, d = .lst (ptrsD L) ∧ Grp L gs ∧ L.map (·.2) = gAll s)
theorem c__law_rows (Dn : Dfn K mg "_law_rows" s__law_rows ["shop"]) (Z : Glb K mg w)  : Cal P w K mg base 1 "_law_rows" (sp__law_rows K) [] := by
  obtain ⟨f, fd, F, hm, hb⟩ := Dn.ex
  refine ⟨f, fd, ["shop"], [], ?_, hm, F.kp, hb, .nil⟩
  refine F.ok sc__law_rows (fun vs H Q E h => spG_len (n := 1) (fun _ => rfl) h) (fun cdv A outer s H vs Q E hr h => ?_)
  refine ⟨_, (pss_cons (ps_set (i := 1) sc__law_rows.nd rfl (.inl rfl) (pe_lst (pa_cons (pe_lst pa_nil) (pa_cons (pe_lst pa_nil) pa_nil))))
    (pss_cons (ps_for PassesOwn.never rfl (pi_tup (pe_ix ix_tup (pv 0) pe_int (fun _ _ => rfl))) (pg_name (i := 2) sc__law_rows.nd rfl (.inr rfl))
    (pss_cons (ps_expr (pe_bm PySem.F.plainAttrs_list PySem.F.slot_list_append PySem.F.type_list_append mt_append (pe_ix ix_list (pv 1) pe_int (fun _ _ => rfl)) (pa_cons (pe_join pe_str (pe_op op_cat (pe_lst (pa_cons pe_str (pa_cons (pe_ix ix_tup (pv 2) pe_int (fun _ _ => rfl)) pa_nil))) (pe_lc (own := [("number", 3)]) rfl sc__law_rows.nd (pi_tup (pe_slice sl_tupA (pv 2) (po_some pe_int) (po_some pe_int))) (blkOk_by (N := N__law_rows) (sc := defScope s__law_rows) (by decide +kernel)) (fun _ _ _ _ _ => (pg_name (i := 3) sc__law_rows.nd rfl (.inl rfl))) (fun _ _ _ _ _ => pts_nil) (fun _ _ _ _ _ => (pe_callTy call_str_int (by rfl) Z.b_str (by decide +kernel) (pa_cons (pv 3) pa_nil)))))) pa_nil)))
      (pss_cons (ps_expr (pe_bm PySem.F.plainAttrs_list PySem.F.slot_list_append PySem.F.type_list_append mt_append (pv 1) (pa_cons (pe_lc (own := [("day", 4), ("amount", 5)]) rfl sc__law_rows.nd (pi_tup (pe_ix ix_tup (pv 2) pe_int (fun _ _ => rfl))) (blkOk_by (N := N__law_rows) (sc := defScope s__law_rows) (by decide +kernel)) (fun _ _ _ _ _ => (show PG _ _ (gTup K 2 _) from pg_tup rfl (pgs_cons (pg_name (i := 4) sc__law_rows.nd rfl (.inl rfl)) (pgs_cons (pg_name (i := 5) sc__law_rows.nd rfl (.inl rfl)) pgs_nil)))) (fun _ _ _ _ _ => pts_nil) (fun _ _ _ _ _ => (show PE _ _ (tM1 (rJoin K) _ _) from pe_join pe_str (pe_lst (pa_cons pe_str (pa_cons (pe_ix (show IxR _ (rIxT K) from ix_tup) (pv 2) pe_int (fun _ _ => rfl)) (pa_cons (pe_callTy call_str_int (by rfl) Z.b_str (by decide +kernel) (pa_cons (pv 4) pa_nil)) (pa_cons (pe_callTy call_str_int (by rfl) Z.b_str (by decide +kernel) (pa_cons (pv 5) pa_nil)) pa_nil)))))))) pa_nil)))
      (pss_one (ps_expr (pe_bm PySem.F.plainAttrs_list PySem.F.slot_list_append PySem.F.type_list_append mt_append (pv 1) (pa_cons (pe_lc (own := [("name", 6), ("amount", 5)]) rfl sc__law_rows.nd (pi_tup (pe_ix ix_tup (pv 2) pe_int (fun _ _ => rfl))) (blkOk_by (N := N__law_rows) (sc := defScope s__law_rows) (by decide +kernel)) (fun _ _ _ _ _ => (show PG _ _ (gTup K 2 _) from pg_tup rfl (pgs_cons (pg_name (i := 6) sc__law_rows.nd rfl (.inl rfl)) (pgs_cons (pg_name (i := 5) sc__law_rows.nd rfl (.inl rfl)) pgs_nil)))) (fun _ _ _ _ _ => pts_nil) (fun _ _ _ _ _ => (show PE _ _ (tM1 (rJoin K) _ _) from pe_join pe_str (pe_lst (pa_cons pe_str (pa_cons (pe_ix (show IxR _ (rIxT K) from ix_tup) (pv 2) pe_int (fun _ _ => rfl)) (pa_cons (pe_callTy SkE.call_str_str (by rfl) Z.b_str (by decide +kernel) (pa_cons (pv 6) pa_nil)) (pa_cons (pe_callTy call_str_int (by rfl) Z.b_str (by decide +kernel) (pa_cons (pv 5) pa_nil)) pa_nil)))))))) pa_nil)))))))
    (pss_cons (ps_asg (pe_lc (own := [("name", 6), ("day", 4), ("amount", 5)]) rfl sc__law_rows.nd (pi_tup (pe_ix ix_tup (pv 0) pe_int (fun _ _ => rfl))) (blkOk_by (N := N__law_rows) (sc := defScope s__law_rows) (by decide +kernel)) (fun _ _ _ _ _ => (show PG _ _ (gTup K 3 _) from pg_tup rfl (pgs_cons (pg_name (i := 6) sc__law_rows.nd rfl (.inl rfl)) (pgs_cons (pg_name (i := 4) sc__law_rows.nd rfl (.inl rfl)) (pgs_cons (pg_name (i := 5) sc__law_rows.nd rfl (.inl rfl)) pgs_nil))))) (fun _ _ _ _ _ => pts_nil) (fun _ _ _ _ _ => (show PE _ _ (tM1 (rJoin K) _ _) from pe_join pe_str (pe_lst (pa_cons pe_str (pa_cons (pv 6) (pa_cons (pe_callTy call_str_int (by rfl) Z.b_str (by decide +kernel) (pa_cons (pv 4) pa_nil)) (pa_cons (pe_callTy call_str_int (by rfl) Z.b_str (by decide +kernel) (pa_cons (pv 5) pa_nil)) pa_nil)))))))) (pg_sub (pv 1) pe_int set_list))
    (pss_one (ps_ret (pv 1)))))), ?_⟩
  try dsimp only [cxOf, Cx.nox, Cx.wish]
  refine run_defG (N := N__law_rows) (fun _ => Nat.le_of_ble_eq_true rfl) (env0 := fun s : Shop => [.p (shopD s), .u, .u, .u, .u, .u, .u, .u]) (fun _ => rfl) (fun B s hp => ?_) h
  have h12 := hp.hi
  have hwl := hp.wants.len
  have hn := hp.n.nm
  refine vsr_hp0 7 rfl ?_
  refine vsr_seq ?_
  refine vs_asgLL (i := 1) (j := 7) (gs := []) (by show 1 < 8; decide) (by decide) rfl fun a b hab _ _ => ?_
  refine vsr_seq ?_
  refine vs_for (vi_tup ?_)
  repeat walk_at "v"
  refine vo_ixT (d := .tup (s.ws.map wareD)) (atI_nat (j := 0) rfl) ?_
  repeat walk_at "v"
  refine ⟨_, rfl, fun i e => ∃ (L : List (Addr × List RowV)) (gs : List (Addr × D)) (x2 : Slot), L.map (·.2) = gTo s i [] ∧ Grp L gs ∧ e = [.p (shopD s), .mu (.lst (ptrsD L)), x2, .u, .u, .u, .u, .hp gs], ⟨[(a, []), (b, [])], _, _, rfl, ⟨?_, fun q hq => ?_⟩, rfl⟩, ?_, ?_⟩
  · simpa using hab
  · rcases List.mem_cons.mp hq with rfl | hq
    · exact List.mem_cons_of_mem _ List.mem_cons_self
    · rw [List.mem_singleton.mp hq]
      exact List.mem_cons_self
  · rintro i d e hi ⟨L, gs, x2, hL, hG, rfl⟩
    obtain ⟨w, hw, rfl⟩ := map_get hi
    have hil := lt_of_get hw
    have hwm := List.mem_of_getElem? hw
    have hwg := hp.ws w hwm
    have hcl := hwg.cl
    have hpl := hwg.pl
    have hnl : w.nm.length ≤ 8 := by rw [str_len]; exact hwg.nm.hi
    repeat ((fail_if_success (with_reducible refine vs_next ?_)); (fail_if_success (with_reducible refine vs_seq ?_)); (fail_if_success (with_reducible refine vs_asg ?_)); walk_at "u")
    have okW : (wareRow w).ok := rows_ok hp _ (List.mem_append_left _ (List.mem_flatMap.mpr ⟨w, hwm, List.mem_cons_self⟩))
    have okC : ∀ p ∈ w.com, (comRow w p).ok := fun p hpm => rows_ok hp _ (List.mem_append_left _ (List.mem_flatMap.mpr ⟨w, hwm, List.mem_cons_of_mem _ (List.mem_append_left _ (List.mem_map_of_mem hpm))⟩))
    have okP : ∀ p ∈ w.parts, (partRow w p).ok := fun p hpm => rows_ok hp _ (List.mem_append_left _ (List.mem_flatMap.mpr ⟨w, hwm, List.mem_cons_of_mem _ (List.mem_append_right _ (List.mem_map_of_mem hpm))⟩))
    have lg : ∀ n : Int, NumOk n → n.natAbs.log2 < 1920 := fun n hn => log_lt hn.1 (Int.lt_trans hn.2 (by decide)) (by decide)
    have gl : (gTo s i []).length ≤ 26 := by
      show (_ :: _ :: _).length ≤ 26
      have := flat_len (l := s.ws.take i) (f := fun w => [w.com.map (comRow w), w.parts.map (partRow w)]) (M := 2) fun _ _ => Nat.le_refl _
      rw [List.length_cons, List.length_cons]
      have : (s.ws.take i).length ≤ 12 := by rw [List.length_take]; omega
      omega
    have hLl : L.length ≤ 26 := by rw [← List.length_map (f := (·.2)), hL]; exact gl
    obtain ⟨a0, g0, L2, rfl⟩ : ∃ a0 g0 L2, L = (a0, g0) :: L2 := by
      cases L with
      | nil => cases hL
      | cons q r => exact ⟨q.1, q.2, r, rfl⟩
    have hg0 : g0 = (s.ws.take i).map wareRow := (List.cons.inj hL).1
    have hL2 : L2.map (·.2) = [] :: (s.ws.take i).flatMap fun w => [w.com.map (comRow w), w.parts.map (partRow w)] := (List.cons.inj hL).2
    refine vs_seq ?_
    refine vs_appendP ?_
    repeat walk_at "v"
    refine vo_ixL (ds := ptrsD ((a0, g0) :: L2)) (d := .ptr a0) rfl (atI_nat (j := 0) rfl) ?_
    refine ⟨a0, 7, gs, _, rfl, rfl, hG.mem _ List.mem_cons_self, ?_⟩
    refine ve_join ?_
    repeat walk_at "v"
    refine ⟨_, rfl, ?_⟩
    repeat walk_at "v"
    refine vo_ixT (d := .str w.nm) (atI_nat (j := 0) rfl) ?_
    repeat walk_at "v"
    refine ve_lcT (xs := [w.lag, w.gives, w.floor, w.stock]) (g := D.int) (h := fun n => .str (numT n)) some (hu1 rfl) (only_name (by decide)) (vi_tup ?_)
    repeat walk_at "v"
    refine vsl_tup ?_
    refine ⟨_, rfl, rfl, by show 4 < 100000; decide, fun p i x hx => ?_, ?_⟩
    · have hxo : NumOk x := by
        have := List.mem_of_getElem? hx
        simp only [List.mem_cons, List.not_mem_nil, or_false] at this
        rcases this with rfl | rfl | rfl | rfl
        · exact okW.2.1
        · exact okW.2.2.1
        · exact okW.2.2.2.1
        · exact okW.2.2.2.2
      repeat walk_at "v"
      refine ⟨.set .refl (by decide), ?_⟩
      repeat walk_at "v"
      refine and_t rfl ?_
      repeat walk_at "v"
      refine vc_strI (lg x hxo) ?_
      exact fz_p ⟨x, rfl, rfl⟩
    rw [fm_some]
    refine fz_o ?_
    refine vo_catE (fs := ((wareRow w).words.map D.str)) rfl rfl rfl (by show 6 ≤ 100000; decide) ?_
    refine fz_o ⟨(wareRow w).words, .inl rfl, row_join okW, ?_⟩
    refine fz_p ⟨lineD (wareRow w), rfl, by rw [List.length_map, hg0, List.length_map, List.length_take]; omega, ?_⟩
    have hG1 := hG.set (k := 0) (a := a0) (g := g0) (g0 ++ [wareRow w]) rfl
    have e1 : linesD (g0 ++ [wareRow w]) = .lst (g0.map lineD ++ [lineD (wareRow w)]) := by unfold linesD; rw [List.map_append]; rfl
    rw [e1] at hG1
    dsimp only [List.set] at hG1
    show VS K (Gd K) B _ [.p (shopD s), .mu (.lst (ptrsD ((a0, g0 ++ [wareRow w]) :: L2))), .p (wareD w), .u, .u, .u, .u, .hp (setP gs a0 (.lst (g0.map lineD ++ [lineD (wareRow w)])))] _ _ _ _
    obtain ⟨gs1, hgs1⟩ : ∃ g, g = setP gs a0 (.lst (g0.map lineD ++ [lineD (wareRow w)])) := ⟨_, rfl⟩
    rw [← hgs1] at hG1 ⊢
    refine vs_seq ?_
    refine vs_appendO (i := 1) (j := 7) rfl rfl ?_
    refine ve_lcT (xs := w.com) (g := pairD) (h := lineD) (fun p => some (comRow w p)) (hu2 rfl rfl) (only_tup (only_cons (only_name (by decide)) (only_cons (only_name (by decide)) only_nil))) (vi_tup ?_)
    repeat walk_at "v"
    refine vo_ixT (d := .tup (w.com.map pairD)) (atI_nat (j := 5) rfl) ?_
    refine ⟨_, rfl, rfl, by omega, fun q i p hpi => ?_, ?_⟩
    · have hpm := List.mem_of_getElem? hpi
      have hpok := okC p hpm
      refine vg_tup (ds := [.int p.1, .int p.2]) rfl ?_
      repeat walk_at "v"
      refine ⟨?_, ?_⟩
      · exact .set (.set .refl (by decide)) (by decide)
      repeat walk_at "v"
      refine and_t rfl ?_
      refine ve_join ?_
      repeat walk_at "v"
      refine ⟨_, rfl, ?_⟩
      repeat walk_at "v"
      refine vo_ixT (d := .str w.nm) (atI_nat (j := 0) rfl) ?_
      repeat walk_at "v"
      refine vc_strI (lg _ hpok.2.1) ?_
      repeat walk_at "v"
      refine vc_strI (lg _ hpok.2.2) ?_
      repeat walk_at "v"
      refine ⟨(comRow w p).words, .inl rfl, row_join hpok, ?_⟩
      exact fz_p ⟨comRow w p, rfl, rfl⟩
    rw [fm_some]
    refine ⟨_, rfl, ?_, fun a1 ha1 => ?_⟩
    · unfold ptrsD
      rw [List.length_map, List.length_cons]
      rw [List.length_cons] at hLl
      omega
    have hG2 := hG1.snoc (g := w.com.map (comRow w)) ha1
    obtain ⟨L3, hL3⟩ : ∃ L3, L3 = (a0, g0 ++ [wareRow w]) :: L2 ++ [(a1, w.com.map (comRow w))] := ⟨_, rfl⟩
    have hL3l : L3.length ≤ 27 := by
      rw [hL3, List.length_append, List.length_cons]
      rw [List.length_cons] at hLl
      show _ + 1 + 1 ≤ 27
      omega
    have e3 : ptrsD ((a0, g0 ++ [wareRow w]) :: L2) ++ [.ptr a1] = ptrsD L3 := by rw [hL3]; unfold ptrsD; rw [List.map_append]; rfl
    rw [← hL3] at hG2
    rw [e3]
    obtain ⟨gs2, hgs2⟩ : ∃ g, g = (a1, linesD (w.com.map (comRow w))) :: gs1 := ⟨_, rfl⟩
    rw [← hgs2] at hG2
    show VS K (Gd K) B _ [.p (shopD s), .mu (.lst (ptrsD L3)), .p (wareD w), .u, .u, .u, .u, .hp ((a1, linesD (w.com.map (comRow w))) :: gs1)] _ _ _ _
    rw [← hgs2]
    refine vs_appendO (i := 1) (j := 7) rfl rfl ?_
    refine ve_lcT (xs := w.parts) (g := partD) (h := lineD) (fun p => some (partRow w p)) (hu2 rfl rfl) (only_tup (only_cons (only_name (by decide)) (only_cons (only_name (by decide)) only_nil))) (vi_tup ?_)
    repeat walk_at "v"
    refine vo_ixT (d := .tup (w.parts.map partD)) (atI_nat (j := 6) rfl) ?_
    refine ⟨_, rfl, rfl, by omega, fun q i p hpi => ?_, ?_⟩
    · have hpm := List.mem_of_getElem? hpi
      have hpok := okP p hpm
      refine vg_tup (ds := [.str p.1, .int p.2]) rfl ?_
      repeat walk_at "v"
      refine ⟨?_, ?_⟩
      · exact .set (.set .refl (by decide)) (by decide)
      repeat walk_at "v"
      refine and_t rfl ?_
      refine ve_join ?_
      repeat walk_at "v"
      refine ⟨_, rfl, ?_⟩
      repeat walk_at "v"
      refine vo_ixT (d := .str w.nm) (atI_nat (j := 0) rfl) ?_
      repeat walk_at "v"
      refine vc_strS ?_
      repeat walk_at "v"
      refine vc_strI (lg _ hpok.2.2) ?_
      repeat walk_at "v"
      refine ⟨(partRow w p).words, .inl rfl, row_join hpok, ?_⟩
      exact fz_p ⟨partRow w p, rfl, rfl⟩
    rw [fm_some]
    refine ⟨_, rfl, ?_, fun a2 ha2 => ?_⟩
    · unfold ptrsD
      rw [List.length_map]
      omega
    have hG3 := hG2.snoc (g := w.parts.map (partRow w)) ha2
    refine ⟨L3 ++ [(a2, w.parts.map (partRow w))], _, .p (wareD w), ?_, hG3, ?_⟩
    · rw [hL3]
      simp only [List.map_append, List.map_cons, List.map_nil, hL2, hg0]
      unfold gTo
      rw [take_one hw, List.map_append, List.flatMap_append]
      simp
    · have e4 : ptrsD L3 ++ [.ptr a2] = ptrsD (L3 ++ [(a2, w.parts.map (partRow w))]) := by unfold ptrsD; rw [List.map_append]; rfl
      rw [e4]
      rfl
  · rintro e ⟨L, gs, x2, hL, hG, rfl⟩
    rw [List.length_map] at hL
    have lg : ∀ n : Int, NumOk n → n.natAbs.log2 < 1920 := fun n hn => log_lt hn.1 (Int.lt_trans hn.2 (by decide)) (by decide)
    have hL5 := hL
    unfold gTo at hL5
    rw [List.take_length] at hL5
    refine vsr_seq ?_
    refine vs_asg ?_
    refine ve_lcT (xs := s.wants) (g := wantD) (h := lineD) (fun v => some (wantRow v)) (hu3 rfl rfl rfl) (only_tup (only_cons (only_name (by decide)) (only_cons (only_name (by decide)) (only_cons (only_name (by decide)) only_nil)))) (vi_tup ?_)
    repeat walk_at "v"
    refine vo_ixT (d := .tup (s.wants.map wantD)) (atI_nat (j := 1) rfl) ?_
    refine ⟨_, rfl, rfl, by omega, fun q i v hvi => ?_, ?_⟩
    · have hvm := List.mem_of_getElem? hvi
      have hvok : (wantRow v).ok := rows_ok hp _ (List.mem_append_right _ (List.mem_map_of_mem hvm))
      refine vg_tup (ds := [.str v.1, .int v.2.1, .int v.2.2]) rfl ?_
      repeat walk_at "v"
      refine ⟨?_, ?_⟩
      · exact .set (.set (.set .refl (by decide)) (by decide)) (by decide)
      repeat walk_at "v"
      refine and_t rfl ?_
      refine ve_join ?_
      repeat walk_at "v"
      refine ⟨_, rfl, ?_⟩
      repeat walk_at "v"
      refine vc_strI (lg _ hvok.2.1) ?_
      repeat walk_at "v"
      refine vc_strI (lg _ hvok.2.2) ?_
      repeat walk_at "v"
      refine ⟨(wantRow v).words, .inl rfl, row_join hvok, ?_⟩
      exact fz_p ⟨wantRow v, rfl, rfl⟩
    rw [fm_some]
    obtain ⟨q0, q1, L2, rfl⟩ : ∃ q0 q1 L2, L = q0 :: q1 :: L2 := by
      cases L with
      | nil => exact absurd (congrArg List.length hL5) (by simp)
      | cons q r => cases r with
        | nil => exact absurd (congrArg List.length hL5) (by simp)
        | cons q1 r => exact ⟨q, q1, r, rfl⟩
    refine vg_subO (i := 1) (j := 7) (k := 1) rfl rfl (ixN_nat (n := (ptrsD (q0 :: q1 :: L2)).length) (j := 1) (by unfold ptrsD; rw [List.length_map]; show 1 < _ + 1 + 1; omega)) fun a ha => ?_
    have hG2 := hG.put (g := s.wants.map wantRow) ha 1
    refine vsr_frz 1 rfl ?_
    refine vsr_ret (j := 7) rfl ?_
    repeat walk_at "v"
    refine ⟨_, rfl, _, rfl, hG2, ?_⟩
    show q0.2 :: s.wants.map wantRow :: L2.map (·.2) = gAll s
    unfold gAll
    have h5 := hL5
    injection h5 with h51 h52
    injection h52 with h52 h53
    rw [h53]
    show (fun x : Addr × List RowV => x.2) q0 :: _ = _
    rw [h51]

end
/-! ### law -/
abbrev s_law : Stmt := topS 40
abbrev N_law : List Str := ["script", "state", "shop", "left", "lines", "k", "found", "row", "#0"]
theorem sc_law : FnScope N_law ["script"] (defScope s_law) := ⟨rfl, rfl, rfl, by decide +kernel, rfl, by decide +kernel, by decide +kernel⟩
section
variable {P : Program} {w : World} {K : PySem.W.Frag} {mg : Str → Option Value} {base : Heap}
abbrev sp_law (K : PySem.W.Frag) : Sp := SpA K (Gd K) false (fun ns : List Int => [.ro (ns.map D.int)]) (fun ns => ns.length ≤ 63) (fun _ d => d = .bl true) noRs
theorem c_law {fl : Addr} {fdl : FuncData} (F : Fun K "law" "law" s_law fl fdl) (Z : Glb K mg w) (C_is_shop : Cal P w K mg base 7 "is_shop" (sp_is_shop K) []) (C_read_shop : Cal P w K mg base 8 "read_shop" (sp_read_shop K) []) (C__law_next : Cal P w K mg base 1 "_law_next" (sp__law_next K) []) (C__law_rows : Cal P w K mg base 1 "_law_rows" (sp__law_rows K) []) (C__law_any_shop : Cal P w K mg base 4 "_law_any_shop" (sp__law_any_shop K) []) (C__law_drawn : Cal P w K mg base 1 "_law_drawn" (sp__law_drawn K) []) : FnOk P w K mg base CX0 9 fl fdl ["script"] (sp_law K) := by
  refine F.ok sc_law (fun vs H Q E h => spA_len (fun _ => rfl) h) (fun cdv A outer s H vs Q E hr h => ?_)
  refine ⟨_, (pss_cons (ps_set (i := 1) sc_law.nd rfl (.inl rfl) (pe_c C__law_drawn hr (by first | decide | omega) (by rfl) (pa_cons (pv 0) pa_nil)))
    (pss_cons (ps_set (i := 2) sc_law.nd rfl (.inl rfl) (pe_c C__law_any_shop hr (by first | decide | omega) (by rfl) (pa_cons (pv 1) pa_nil)))
    (pss_cons (ps_setLc (i := 3) (own := [("row", 7)]) rfl sc_law.nd rfl rfl (sw_true rfl rfl rfl (by decide +kernel)) (pi_list (pe_c C__law_rows hr (by first | decide | omega) (by rfl) (pa_cons (pv 2) pa_nil))) (blkOk_by (N := N_law) (sc := defScope s_law) (by decide +kernel)) (fun _ _ _ _ _ => (pg_name (i := 7) sc_law.nd rfl (.inl rfl))) (fun _ _ _ _ _ => (pts_one (pt_cmpR (show OpR _ _ (rNeD K) from (op_neD hr.units)) (pv 7) (pe_lst pa_nil) (nomark _)))) (fun _ _ _ _ _ => (pv 7)))
    (pss_cons (ps_set (i := 4) sc_law.nd rfl (.inl rfl) (pe_lst pa_nil))
    (pss_cons (ps_while PassesOwn.never (pt_cmpR (op_neD hr.units) (pv 3) (pe_lst pa_nil) (nomark _))
    (pss_cons (ps_set (i := 5) sc_law.nd rfl (.inl rfl) (pe_c C__law_next hr (by first | decide | omega) (by rfl) (pa_cons (pv 1) (pa_cons (pe_callB call_len_seq (by rfl) Z.b_len PySem.boot_len (pa_cons (pv 3) pa_nil)) pa_nil))))
      (pss_cons (ps_expr (pe_bm PySem.F.plainAttrs_list PySem.F.slot_list_append PySem.F.type_list_append mt_append (pv 4) (pa_cons (pe_bm PySem.F.plainAttrs_list PySem.F.slot_list_pop PySem.F.type_list_pop mt_popAt (pe_ix ix_list (pv 3) (pv 5) (fun _ _ => rfl)) (pa_cons pe_int pa_nil)) pa_nil)))
      (pss_one (ps_setLc (i := 3) (own := [("row", 7)]) rfl sc_law.nd rfl rfl (sw_true rfl rfl rfl (by decide +kernel)) (pi_list (pv 3)) (blkOk_by (N := N_law) (sc := defScope s_law) (by decide +kernel)) (fun _ _ _ _ _ => (pg_name (i := 7) sc_law.nd rfl (.inl rfl))) (fun _ _ _ _ _ => (pts_one (pt_cmpR (show OpR _ _ (rNeD K) from (op_neD hr.units)) (pv 7) (pe_lst pa_nil) (nomark _)))) (fun _ _ _ _ _ => (pv 7)))))))
    (pss_cons (ps_set (i := 6) sc_law.nd rfl (.inl rfl) (pe_c C_read_shop hr (by first | decide | omega) (by rfl) (pa_cons (pe_join pe_str (pv 4)) pa_nil)))
    (pss_one (ps_ret (pe_and (pe_cmpR (op_eqD hr.units) (pv 6) (pv 2) (nomark _)) (pe_one (pe_cmpR op_isBl (pe_c C_is_shop hr (by first | decide | omega) (by rfl) (pa_cons (pv 6) pa_nil)) pe_bl (nomark _)))))))))))), ?_⟩
  try dsimp only [cxOf, Cx.nox, Cx.wish]
  refine run_def (N := N_law) (fun _ => Nat.le_of_ble_eq_true rfl) (env0 := fun ns => [.p (.ro (ns.map D.int)), .u, .u, .u, .u, .u, .u, .u, .u]) (fun _ => rfl) (fun B ns hp L => ?_) h
  repeat walk_at "u"
  refine vs_seq ?_
  repeat walk_at "u"
  walk_at "co"
  repeat walk_at "v"
  refine ⟨ns, rfl, hp, fun _ h => h, ?_⟩
  rintro _ ⟨st, rfl, gs⟩
  refine ⟨flat_ints _, .inl ⟨_, rfl⟩, ?_⟩
  repeat walk_at "u"
  refine vs_toSt 1 rfl gs ?_
  refine vs_seq ?_
  refine vs_asg ?_
  walk_at "c"
  repeat walk_at "v"
  refine ⟨(), rfl, trivial, fun _ h => h, ?_⟩
  rintro _ ⟨s, rfl, hg⟩
  repeat ((fail_if_success (with_reducible refine vs_next ?_)); (fail_if_success (with_reducible refine vs_seq ?_)); (fail_if_success (with_reducible refine vs_asg ?_)); walk_at "u")
  have h12 := hg.hi
  have hwl := hg.wants.len
  have hrl := rows_len hg
  show VS K (Gd K) B _ [.p (.ro (ns.map D.int)), .p .st, .p (shopD s), .u, .u, .u, .u, .u, .u] _ _ _ _
  refine vs_seq ?_
  refine vs_asgLcG (j := 8) rfl (hu1 rfl) (by decide) (only_name (by decide)) ?_
  repeat walk_at "v"
  refine ⟨s, rfl, hg, ?_⟩
  rintro d gs0 ⟨L, rfl, hG, hL⟩
  have hM0 : Mixed s [] (L.map (·.2)) := by rw [hL]; exact mixed_start hg.nd
  have hLl : L.length ≤ 26 := by
    rw [← List.length_map (f := (·.2)), hL]
    show (_ :: _ :: _).length ≤ 26
    have := flat_len (l := s.ws) (f := fun w => [w.com.map (comRow w), w.parts.map (partRow w)]) (M := 2) fun _ _ => Nat.le_refl _
    rw [List.length_cons, List.length_cons]
    omega
  refine ⟨ptrsD L, rfl, by unfold ptrsD; rw [List.length_map]; omega, fun i acc => acc = ptrsD ((L.take i).filter gne), rfl, ?_, ?_⟩
  · rintro p i d acc hi rfl
    obtain ⟨q, hq, rfl⟩ := map_get hi
    have hqm := List.mem_of_getElem? hq
    repeat walk_at "v"
    refine ⟨.set .refl (by decide), ?_⟩
    repeat walk_at "v"
    refine vo_neO (j := 8) (gs := gs0) rfl rfl (.lst (hG.mem q hqm)) rfl (cmpN_lines (fun r hr => rows_ok hg r (hM0.row q hqm r hr)) 58) rfl ?_
    have en := linesD_ne q.2
    unfold linesD at en
    rw [en]
    refine ⟨_, rfl, fun hb => ?_, fun hb => ?_⟩
    · have hne : gne q = true := by
        unfold gne
        cases hq2 : q.2 with
        | nil => rw [hq2] at hb; cases hb
        | cons x r => rfl
      repeat walk_at "v"
      refine ⟨_, rfl, ?_⟩
      dsimp only
      rw [take_filter hq [], if_pos hne]
      unfold ptrsD
      rw [List.map_append]
      rfl
    · have hne : ¬ gne q = true := by
        unfold gne
        cases hq2 : q.2 with
        | nil => exact fun z => by cases z
        | cons x r => rw [hq2] at hb; cases hb
      dsimp only
      rw [take_filter hq [], if_neg hne, List.append_nil]
  · rintro acc rfl
    rw [show (ptrsD L).length = L.length from List.length_map _, List.take_length]
    refine vg_o (by show 3 < 9; decide) ?_
    refine vs_seq ?_
    refine vs_asg ?_
    repeat ((fail_if_success (with_reducible refine vs_next ?_)); (fail_if_success (with_reducible refine vs_seq ?_)); (fail_if_success (with_reducible refine vs_asg ?_)); walk_at "u")
    show VS K (Gd K) B _ [.p (.ro (ns.map D.int)), .p .st, .p (shopD s), .mu (.lst (ptrsD (L.filter gne))), .mu (.lst []), .u, .u, .u, .hp gs0] _ _ _ _
    have hne0 : ∀ q ∈ L.filter gne, q.2 ≠ [] := fun q hq e => by
      have := (List.mem_filter.mp hq).2
      unfold gne at this
      rw [e] at this
      cases this
    refine vs_seq ?_
    refine vs_while (fun m e => ∃ (L : List (Addr × List RowV)) (gs : List (Addr × D)) (M : List RowV) (x5 : Slot), e = [.p (.ro (ns.map D.int)), .p .st, .p (shopD s), .mu (.lst (ptrsD L)), .mu (.lst (M.map lineD)), x5, .u, .u, .hp gs] ∧ Grp L gs ∧ Mixed s M (L.map (·.2)) ∧ (∀ q ∈ L, q.2 ≠ []) ∧ m = restN (L.map (·.2))) ⟨_, L.filter gne, gs0, [], .u, rfl, hG.sub List.filter_sublist, by rw [filter_snd]; exact hM0.filter, hne0, rfl⟩ ?_
    clear hG hL hM0 hLl
    rintro m e ⟨L, gs, M, x5, rfl, hG, hM, hne, hm⟩
    have hrow : ∀ q ∈ L, ∀ r ∈ q.2, r.ok := fun q hq r hr => rows_ok hg r (hM.row q hq r hr)
    repeat walk_at "v"
    have hml := hM.len
    have hLr := len_rest hne
    refine vo_neOM (j := 8) (gs := gs) rfl rfl (own_grp hG.mem) rfl (cmpN_groups hrow) rfl ?_
    rw [groups_ne]
    refine ⟨_, rfl, fun hb => ?_, fun hb => ?_⟩
    · have hL0 : 1 ≤ L.length := by
        cases L with
        | nil => cases hb
        | cons q r => rw [List.length_cons]; omega
      refine vs_frz 3 (.inr rfl) ?_
      refine vs_seq ?_
      refine vs_asg ?_
      walk_at "c"
      repeat walk_at "v"
      refine ⟨_, rfl, ⟨by unfold ptrsD; rw [List.length_map]; omega, by unfold ptrsD; rw [List.length_map]; omega⟩, fun _ h => h, ?_⟩
      rintro _ ⟨k, rfl, k0, k1⟩
      rw [show (ptrsD L).length = L.length from List.length_map _] at k1
      obtain ⟨k, rfl⟩ : ∃ n : Nat, k = n := ⟨k.toNat, by omega⟩
      have hkl : k < L.length := by omega
      obtain ⟨q, hq⟩ : ∃ q, L[k]? = some q := ⟨_, List.getElem?_eq_getElem hkl⟩
      have hqm := List.mem_of_getElem? hq
      obtain ⟨a, g⟩ := q
      have hg0 : g ≠ [] := hne _ hqm
      obtain ⟨x, t, rfl⟩ : ∃ x t, g = x :: t := by
        cases g with
        | nil => exact absurd rfl hg0
        | cons x t => exact ⟨x, t, rfl⟩
      have hpop := pop_step hG hM hq
      obtain ⟨hG2, hG1, hM2, hne2, hrest, hptr⟩ := hpop
      have hgl : (x :: t).length ≤ 248 := by
        have h1 := hM.perm
        have h2 : (x :: t).Sublist (L.map (·.2)).flatten := List.sublist_flatten_of_mem (List.mem_map_of_mem (f := fun z : Addr × List RowV => z.2) hqm)
        have h3 := h2.length_le
        unfold restN at hml
        omega
      repeat ((fail_if_success (with_reducible refine vs_next ?_)); (fail_if_success (with_reducible refine vs_seq ?_)); (fail_if_success (with_reducible refine vs_asg ?_)); walk_at "u")
      show VS K (Gd K) B _ [.p (.ro (ns.map D.int)), .p .st, .p (shopD s), .p (.lst (ptrsD L)), .mu (.lst (M.map lineD)), .p (.int k), .u, .u, .hp gs] _ _ _ _
      refine vs_seq ?_
      refine vs_appPopP (i := 4) rfl ?_
      repeat walk_at "v"
      refine vo_ixL (ds := ptrsD L) (d := .ptr a) rfl (atI_get (fun q : Addr × List RowV => D.ptr q.1) hq) ?_
      refine ⟨a, rfl, 8, gs, _, rfl, hG.mem _ hqm, ?_⟩
      repeat walk_at "v"
      refine ⟨0, lineD x, rfl, rfl, by rw [List.length_map]; show (x :: t).length < _; omega, by rw [List.length_map]; omega, ?_⟩
      have em : M.map lineD ++ [lineD x] = (M ++ [x]).map lineD := by rw [List.map_append]; rfl
      rw [em]
      show VS K (Gd K) B _ [.p (.ro (ns.map D.int)), .p .st, .p (shopD s), .p (.lst (ptrsD L)), .mu (.lst ((M ++ [x]).map lineD)), .p (.int k), .u, .u, .hp (setP gs a (linesD t))] _ _ _ _
      refine vs_asg ?_
      refine ve_lcT (xs := L.set k (a, t)) (g := fun q => .ptr q.1) (h := fun q => .ptr q.1) (fun q => if q.2 = [] then none else some q) (hu1 rfl) (only_name (by decide)) (vi_list ?_)
      repeat walk_at "v"
      refine ⟨_, .inl rfl, hptr.symm, by rw [List.length_set]; omega, fun p i q hqi => ?_, ?_⟩
      · have hqm := List.mem_of_getElem? hqi
        have hr2 : ∀ r ∈ q.2, r.ok := fun r hr => by
          rcases List.mem_or_eq_of_mem_set hqm with h | h
          · exact hrow q h r hr
          · rw [h] at hr
            exact hrow _ (List.mem_of_getElem? hq) r (List.mem_cons_of_mem _ hr)
        repeat walk_at "v"
        refine ⟨.set .refl (by decide), ?_⟩
        repeat walk_at "v"
        refine vo_neO (j := 8) (gs := setP gs a (linesD t)) rfl rfl (.lst (hG1.mem q hqm)) rfl (cmpN_lines hr2 58) rfl ?_
        have en := linesD_ne q.2
        unfold linesD at en
        rw [en]
        refine ⟨_, rfl, fun hb => ?_, fun hb => ?_⟩
        · have hn : ¬ q.2 = [] := by simpa using hb
          repeat walk_at "v"
          exact ⟨q, rfl, by rw [if_neg hn]⟩
        · have hn : q.2 = [] := by simpa using hb
          rw [if_pos hn]
      · rw [fm_gne]
        refine vg_o (by show 3 < 9; decide) ?_
        refine ⟨_, ?_, (L.set k (a, t)).filter gne, setP gs a (linesD t), M ++ [x], .p (.int k), rfl, hG2, hM2, hne2, rfl⟩
        omega
    · have hL0 : L = [] := by simpa using hb
      subst hL0
      obtain ⟨hal, hpm⟩ := hM.done
      obtain ⟨hrd, hsh⟩ := alike_read hg hal hpm
      have hok := hrd.2.2.1
      rw [lines_txt]
      refine vs_seq ?_
      refine vs_asg ?_
      walk_at "c"
      repeat walk_at "v"
      refine ve_join ?_
      repeat walk_at "v"
      refine ⟨_, rfl, ?_⟩
      repeat walk_at "v"
      refine ⟨M.map RowV.line, .inl rfl, text_join hok hrd.2.1, ?_⟩
      repeat walk_at "v"
      refine ⟨M, rfl, hrd, fun _ h => h, ?_⟩
      rintro _ rfl
      rw [hsh] at hrd ⊢
      repeat walk_at "v"
      refine vo_eqS (d := shopD s) rfl rfl (cmp_shop hg.cmpW fun v hv => hg.strs _ (hg.wants.ok v hv).1) ?_
      refine ⟨true, rfl, fun _ => ?_, fun z => by cases z⟩
      repeat walk_at "v"
      walk_at "c"
      repeat walk_at "v"
      refine ⟨shopD s, rfl, any_shop hg.n, fun _ h => h, ?_⟩
      rintro _ rfl
      rw [hrd.2.2.2.2]
      repeat walk_at "v"
      refine vo_isB ?_
      exact ⟨rfl, rfl⟩

end
theorem all_mk {l : PySem.W.OpenLaw} {w : World} {K : PySem.W.Frag} {h : Heap} {mg : Str → Option Value} {fa : Addr}
{od0 an0 : Option Addr} {sl0 : Array (Option Value)} {oc0 kV0 dc0 pm0 cd0 ct0 : Value} {f0 : Addr}
    {od1 an1 : Option Addr} {sl1 : Array (Option Value)} {oc1 kV1 dc1 pm1 cd1 ct1 : Value} {f1 : Addr}
    {od2 an2 : Option Addr} {sl2 : Array (Option Value)} {oc2 kV2 dc2 pm2 cd2 ct2 : Value} {f2 : Addr}
    {od3 an3 : Option Addr} {sl3 : Array (Option Value)} {oc3 kV3 dc3 pm3 cd3 ct3 : Value} {f3 : Addr}
    {od4 an4 : Option Addr} {sl4 : Array (Option Value)} {oc4 kV4 dc4 pm4 cd4 ct4 : Value} {f4 : Addr}
    {od5 an5 : Option Addr} {sl5 : Array (Option Value)} {oc5 kV5 dc5 pm5 cd5 ct5 : Value} {f5 : Addr}
    {od6 an6 : Option Addr} {sl6 : Array (Option Value)} {oc6 kV6 dc6 pm6 cd6 ct6 : Value} {f6 : Addr}
    {od7 an7 : Option Addr} {sl7 : Array (Option Value)} {oc7 kV7 dc7 pm7 cd7 ct7 : Value} {f7 : Addr}
    {od8 an8 : Option Addr} {sl8 : Array (Option Value)} {oc8 kV8 dc8 pm8 cd8 ct8 : Value} {f8 : Addr}
    {od9 an9 : Option Addr} {sl9 : Array (Option Value)} {oc9 kV9 dc9 pm9 cd9 ct9 : Value} {f9 : Addr}
    {od10 an10 : Option Addr} {sl10 : Array (Option Value)} {oc10 kV10 dc10 pm10 cd10 ct10 : Value} {f10 : Addr}
    {od11 an11 : Option Addr} {sl11 : Array (Option Value)} {oc11 kV11 dc11 pm11 cd11 ct11 : Value} {f11 : Addr}
    {od12 an12 : Option Addr} {sl12 : Array (Option Value)} {oc12 kV12 dc12 pm12 cd12 ct12 : Value} {f12 : Addr}
    {od13 an13 : Option Addr} {sl13 : Array (Option Value)} {oc13 kV13 dc13 pm13 cd13 ct13 : Value} {f13 : Addr}
    {od14 an14 : Option Addr} {sl14 : Array (Option Value)} {oc14 kV14 dc14 pm14 cd14 ct14 : Value} {f14 : Addr}
    {od15 an15 : Option Addr} {sl15 : Array (Option Value)} {oc15 kV15 dc15 pm15 cd15 ct15 : Value} {f15 : Addr}
    {od16 an16 : Option Addr} {sl16 : Array (Option Value)} {oc16 kV16 dc16 pm16 cd16 ct16 : Value} {f16 : Addr}
    {od17 an17 : Option Addr} {sl17 : Array (Option Value)} {oc17 kV17 dc17 pm17 cd17 ct17 : Value} {f17 : Addr}
    {od18 an18 : Option Addr} {sl18 : Array (Option Value)} {oc18 kV18 dc18 pm18 cd18 ct18 : Value} {f18 : Addr}
    {od19 an19 : Option Addr} {sl19 : Array (Option Value)} {oc19 kV19 dc19 pm19 cd19 ct19 : Value} {f19 : Addr}
    {od20 an20 : Option Addr} {sl20 : Array (Option Value)} {oc20 kV20 dc20 pm20 cd20 ct20 : Value} {f20 : Addr}
    {od21 an21 : Option Addr} {sl21 : Array (Option Value)} {oc21 kV21 dc21 pm21 cd21 ct21 : Value} {f21 : Addr}
    {od22 an22 : Option Addr} {sl22 : Array (Option Value)} {oc22 kV22 dc22 pm22 cd22 ct22 : Value} {f22 : Addr}
    (X : K.In h) (G : h.Ns mainGlobals mg) (hfa : mg "law" = some (.ref fa))
    (a0 : PySem.W.nsIn K mainGlobals "_law_drawn" = some (some (.ref f0))) (l0 : K.lookup f0 = some ⟨oc0, od0, .func (PySem.W.fnOf "_law_drawn" "_law_drawn" (defArgs s__law_drawn) (defBody s__law_drawn) (defScope s__law_drawn) .none kV0 dc0 pm0 an0 cd0 ct0), sl0⟩) (e0 : PySem.W.codeIn K cd0 "_law_drawn" = true) (k0 : PySem.W.keepIn K (.ref f0) = true)
    (a1 : PySem.W.nsIn K mainGlobals "_law_next" = some (some (.ref f1))) (l1 : K.lookup f1 = some ⟨oc1, od1, .func (PySem.W.fnOf "_law_next" "_law_next" (defArgs s__law_next) (defBody s__law_next) (defScope s__law_next) .none kV1 dc1 pm1 an1 cd1 ct1), sl1⟩) (e1 : PySem.W.codeIn K cd1 "_law_next" = true) (k1 : PySem.W.keepIn K (.ref f1) = true)
    (a2 : PySem.W.nsIn K mainGlobals "_law_names" = some (some (.ref f2))) (l2 : K.lookup f2 = some ⟨oc2, od2, .func (PySem.W.fnOf "_law_names" "_law_names" (defArgs s__law_names) (defBody s__law_names) (defScope s__law_names) .none kV2 dc2 pm2 an2 cd2 ct2), sl2⟩) (e2 : PySem.W.codeIn K cd2 "_law_names" = true) (k2 : PySem.W.keepIn K (.ref f2) = true)
    (a3 : PySem.W.nsIn K mainGlobals "_law_amount" = some (some (.ref f3))) (l3 : K.lookup f3 = some ⟨oc3, od3, .func (PySem.W.fnOf "_law_amount" "_law_amount" (defArgs s__law_amount) (defBody s__law_amount) (defScope s__law_amount) .none kV3 dc3 pm3 an3 cd3 ct3), sl3⟩) (e3 : PySem.W.codeIn K cd3 "_law_amount" = true) (k3 : PySem.W.keepIn K (.ref f3) = true)
    (a4 : PySem.W.nsIn K mainGlobals "_law_parts" = some (some (.ref f4))) (l4 : K.lookup f4 = some ⟨oc4, od4, .func (PySem.W.fnOf "_law_parts" "_law_parts" (defArgs s__law_parts) (defBody s__law_parts) (defScope s__law_parts) .none kV4 dc4 pm4 an4 cd4 ct4), sl4⟩) (e4 : PySem.W.codeIn K cd4 "_law_parts" = true) (k4 : PySem.W.keepIn K (.ref f4) = true)
    (a5 : PySem.W.nsIn K mainGlobals "_law_shop" = some (some (.ref f5))) (l5 : K.lookup f5 = some ⟨oc5, od5, .func (PySem.W.fnOf "_law_shop" "_law_shop" (defArgs s__law_shop) (defBody s__law_shop) (defScope s__law_shop) .none kV5 dc5 pm5 an5 cd5 ct5), sl5⟩) (e5 : PySem.W.codeIn K cd5 "_law_shop" = true) (k5 : PySem.W.keepIn K (.ref f5) = true)
    (a6 : PySem.W.nsIn K mainGlobals "_law_any_shop" = some (some (.ref f6))) (l6 : K.lookup f6 = some ⟨oc6, od6, .func (PySem.W.fnOf "_law_any_shop" "_law_any_shop" (defArgs s__law_any_shop) (defBody s__law_any_shop) (defScope s__law_any_shop) .none kV6 dc6 pm6 an6 cd6 ct6), sl6⟩) (e6 : PySem.W.codeIn K cd6 "_law_any_shop" = true) (k6 : PySem.W.keepIn K (.ref f6) = true)
    (a7 : PySem.W.nsIn K mainGlobals "read_number" = some (some (.ref f7))) (l7 : K.lookup f7 = some ⟨oc7, od7, .func (PySem.W.fnOf "read_number" "read_number" (defArgs s_read_number) (defBody s_read_number) (defScope s_read_number) .none kV7 dc7 pm7 an7 cd7 ct7), sl7⟩) (e7 : PySem.W.codeIn K cd7 "read_number" = true) (k7 : PySem.W.keepIn K (.ref f7) = true)
    (a8 : PySem.W.nsIn K mainGlobals "is_name" = some (some (.ref f8))) (l8 : K.lookup f8 = some ⟨oc8, od8, .func (PySem.W.fnOf "is_name" "is_name" (defArgs s_is_name) (defBody s_is_name) (defScope s_is_name) .none kV8 dc8 pm8 an8 cd8 ct8), sl8⟩) (e8 : PySem.W.codeIn K cd8 "is_name" = true) (k8 : PySem.W.keepIn K (.ref f8) = true)
    (a9 : PySem.W.nsIn K mainGlobals "read_row" = some (some (.ref f9))) (l9 : K.lookup f9 = some ⟨oc9, od9, .func (PySem.W.fnOf "read_row" "read_row" (defArgs s_read_row) (defBody s_read_row) (defScope s_read_row) .none kV9 dc9 pm9 an9 cd9 ct9), sl9⟩) (e9 : PySem.W.codeIn K cd9 "read_row" = true) (k9 : PySem.W.keepIn K (.ref f9) = true)
    (a10 : PySem.W.nsIn K mainGlobals "are_unlike" = some (some (.ref f10))) (l10 : K.lookup f10 = some ⟨oc10, od10, .func (PySem.W.fnOf "are_unlike" "are_unlike" (defArgs s_are_unlike) (defBody s_are_unlike) (defScope s_are_unlike) .none kV10 dc10 pm10 an10 cd10 ct10), sl10⟩) (e10 : PySem.W.codeIn K cd10 "are_unlike" = true) (k10 : PySem.W.keepIn K (.ref f10) = true)
    (a11 : PySem.W.nsIn K mainGlobals "is_whole" = some (some (.ref f11))) (l11 : K.lookup f11 = some ⟨oc11, od11, .func (PySem.W.fnOf "is_whole" "is_whole" (defArgs s_is_whole) (defBody s_is_whole) (defScope s_is_whole) .none kV11 dc11 pm11 an11 cd11 ct11), sl11⟩) (e11 : PySem.W.codeIn K cd11 "is_whole" = true) (k11 : PySem.W.keepIn K (.ref f11) = true)
    (a12 : PySem.W.nsIn K mainGlobals "is_day" = some (some (.ref f12))) (l12 : K.lookup f12 = some ⟨oc12, od12, .func (PySem.W.fnOf "is_day" "is_day" (defArgs s_is_day) (defBody s_is_day) (defScope s_is_day) .none kV12 dc12 pm12 an12 cd12 ct12), sl12⟩) (e12 : PySem.W.codeIn K cd12 "is_day" = true) (k12 : PySem.W.keepIn K (.ref f12) = true)
    (a13 : PySem.W.nsIn K mainGlobals "is_coming" = some (some (.ref f13))) (l13 : K.lookup f13 = some ⟨oc13, od13, .func (PySem.W.fnOf "is_coming" "is_coming" (defArgs s_is_coming) (defBody s_is_coming) (defScope s_is_coming) .none kV13 dc13 pm13 an13 cd13 ct13), sl13⟩) (e13 : PySem.W.codeIn K cd13 "is_coming" = true) (k13 : PySem.W.keepIn K (.ref f13) = true)
    (a14 : PySem.W.nsIn K mainGlobals "is_part" = some (some (.ref f14))) (l14 : K.lookup f14 = some ⟨oc14, od14, .func (PySem.W.fnOf "is_part" "is_part" (defArgs s_is_part) (defBody s_is_part) (defScope s_is_part) .none kV14 dc14 pm14 an14 cd14 ct14), sl14⟩) (e14 : PySem.W.codeIn K cd14 "is_part" = true) (k14 : PySem.W.keepIn K (.ref f14) = true)
    (a15 : PySem.W.nsIn K mainGlobals "are_all" = some (some (.ref f15))) (l15 : K.lookup f15 = some ⟨oc15, od15, .func (PySem.W.fnOf "are_all" "are_all" (defArgs s_are_all) (defBody s_are_all) (defScope s_are_all) .none kV15 dc15 pm15 an15 cd15 ct15), sl15⟩) (e15 : PySem.W.codeIn K cd15 "are_all" = true) (k15 : PySem.W.keepIn K (.ref f15) = true)
    (a16 : PySem.W.nsIn K mainGlobals "is_ware" = some (some (.ref f16))) (l16 : K.lookup f16 = some ⟨oc16, od16, .func (PySem.W.fnOf "is_ware" "is_ware" (defArgs s_is_ware) (defBody s_is_ware) (defScope s_is_ware) .none kV16 dc16 pm16 an16 cd16 ct16), sl16⟩) (e16 : PySem.W.codeIn K cd16 "is_ware" = true) (k16 : PySem.W.keepIn K (.ref f16) = true)
    (a17 : PySem.W.nsIn K mainGlobals "is_want" = some (some (.ref f17))) (l17 : K.lookup f17 = some ⟨oc17, od17, .func (PySem.W.fnOf "is_want" "is_want" (defArgs s_is_want) (defBody s_is_want) (defScope s_is_want) .none kV17 dc17 pm17 an17 cd17 ct17), sl17⟩) (e17 : PySem.W.codeIn K cd17 "is_want" = true) (k17 : PySem.W.keepIn K (.ref f17) = true)
    (a18 : PySem.W.nsIn K mainGlobals "is_shop" = some (some (.ref f18))) (l18 : K.lookup f18 = some ⟨oc18, od18, .func (PySem.W.fnOf "is_shop" "is_shop" (defArgs s_is_shop) (defBody s_is_shop) (defScope s_is_shop) .none kV18 dc18 pm18 an18 cd18 ct18), sl18⟩) (e18 : PySem.W.codeIn K cd18 "is_shop" = true) (k18 : PySem.W.keepIn K (.ref f18) = true)
    (a19 : PySem.W.nsIn K mainGlobals "pairs_of" = some (some (.ref f19))) (l19 : K.lookup f19 = some ⟨oc19, od19, .func (PySem.W.fnOf "pairs_of" "pairs_of" (defArgs s_pairs_of) (defBody s_pairs_of) (defScope s_pairs_of) .none kV19 dc19 pm19 an19 cd19 ct19), sl19⟩) (e19 : PySem.W.codeIn K cd19 "pairs_of" = true) (k19 : PySem.W.keepIn K (.ref f19) = true)
    (a20 : PySem.W.nsIn K mainGlobals "read_shop" = some (some (.ref f20))) (l20 : K.lookup f20 = some ⟨oc20, od20, .func (PySem.W.fnOf "read_shop" "read_shop" (defArgs s_read_shop) (defBody s_read_shop) (defScope s_read_shop) .none kV20 dc20 pm20 an20 cd20 ct20), sl20⟩) (e20 : PySem.W.codeIn K cd20 "read_shop" = true) (k20 : PySem.W.keepIn K (.ref f20) = true)
    (a21 : PySem.W.nsIn K mainGlobals "_law_rows" = some (some (.ref f21))) (l21 : K.lookup f21 = some ⟨oc21, od21, .func (PySem.W.fnOf "_law_rows" "_law_rows" (defArgs s__law_rows) (defBody s__law_rows) (defScope s__law_rows) .none kV21 dc21 pm21 an21 cd21 ct21), sl21⟩) (e21 : PySem.W.codeIn K cd21 "_law_rows" = true) (k21 : PySem.W.keepIn K (.ref f21) = true)
    (a22 : PySem.W.nsIn K mainGlobals "law" = some (some (.ref f22))) (l22 : K.lookup f22 = some ⟨oc22, od22, .func (PySem.W.fnOf "law" "law" (defArgs s_law) (defBody s_law) (defScope s_law) .none kV22 dc22 pm22 an22 cd22 ct22), sl22⟩) (e22 : PySem.W.codeIn K cd22 "law" = true) (k22 : PySem.W.keepIn K (.ref f22) = true)
    (z0 : PySem.W.nsIn K mainGlobals "all" = some none)
    (z1 : PySem.W.nsIn K mainGlobals "bool" = some none)
    (z2 : PySem.W.nsIn K mainGlobals "enumerate" = some none)
    (z3 : PySem.W.nsIn K mainGlobals "int" = some none)
    (z4 : PySem.W.nsIn K mainGlobals "isinstance" = some none)
    (z5 : PySem.W.nsIn K mainGlobals "len" = some none)
    (z6 : PySem.W.nsIn K mainGlobals "list" = some none)
    (z7 : PySem.W.nsIn K mainGlobals "range" = some none)
    (z8 : PySem.W.nsIn K mainGlobals "set" = some none)
    (z9 : PySem.W.nsIn K mainGlobals "str" = some none)
    (z10 : PySem.W.nsIn K mainGlobals "tuple" = some none)
    {tk0 : Tok} (y0 : PySem.W.nsIn K mainGlobals "FIGURES" = some (some (.str "0123456789" tk0)))
    {tk1 : Tok} (y1 : PySem.W.nsIn K mainGlobals "LETTERS" = some (some (.str "abcdefghijklmnopqrstuvwxyz" tk1)))
    {tk2 : Tok} (y2 : PySem.W.nsIn K mainGlobals "MOST" = some (some (.int 60 tk2)))
    {tk3 : Tok} (y3 : PySem.W.nsIn K mainGlobals "MOST_COMING" = some (some (.int 12 tk3)))
    {tk4 : Tok} (y4 : PySem.W.nsIn K mainGlobals "MOST_DAY" = some (some (.int 400 tk4)))
    {tk5 : Tok} (y5 : PySem.W.nsIn K mainGlobals "MOST_LAG" = some (some (.int 30 tk5)))
    {tk6 : Tok} (y6 : PySem.W.nsIn K mainGlobals "MOST_LETTERS" = some (some (.int 8 tk6)))
    {tk7 : Tok} (y7 : PySem.W.nsIn K mainGlobals "MOST_PARTS" = some (some (.int 6 tk7)))
    {tk8 : Tok} (y8 : PySem.W.nsIn K mainGlobals "MOST_WANTS" = some (some (.int 20 tk8)))
    {tk9 : Tok} (y9 : PySem.W.nsIn K mainGlobals "MOST_WARES" = some (some (.int 12 tk9)))
    {dk0 : Addr} (ka0 : PySem.W.nsIn K mainGlobals "FORMS" = some (some (.ref dk0))) (kb0 : He.dicW K dk0 = some (He.keysIn w.params ["ware", "coming", "part", "want"]))
    {te0_0 : Addr} {oe0_0 : Option Addr} {ne0_0 : Nat} {se0_0 : Array (Option Value)} {tq0_0_0 tq0_0_1 : Tok} (kc0_0 : PySem.W.nsIn K dk0 "ware" = some (some (.ref te0_0))) (kd0_0 : K.lookup te0_0 = some ⟨.type "tuple", oe0_0, .seq #[.int 1 tq0_0_0, .int 4 tq0_0_1] ne0_0, se0_0⟩)
    {te0_1 : Addr} {oe0_1 : Option Addr} {ne0_1 : Nat} {se0_1 : Array (Option Value)} {tq0_1_0 tq0_1_1 : Tok} (kc0_1 : PySem.W.nsIn K dk0 "coming" = some (some (.ref te0_1))) (kd0_1 : K.lookup te0_1 = some ⟨.type "tuple", oe0_1, .seq #[.int 1 tq0_1_0, .int 2 tq0_1_1] ne0_1, se0_1⟩)
    {te0_2 : Addr} {oe0_2 : Option Addr} {ne0_2 : Nat} {se0_2 : Array (Option Value)} {tq0_2_0 tq0_2_1 : Tok} (kc0_2 : PySem.W.nsIn K dk0 "part" = some (some (.ref te0_2))) (kd0_2 : K.lookup te0_2 = some ⟨.type "tuple", oe0_2, .seq #[.int 2 tq0_2_0, .int 1 tq0_2_1] ne0_2, se0_2⟩)
    {te0_3 : Addr} {oe0_3 : Option Addr} {ne0_3 : Nat} {se0_3 : Array (Option Value)} {tq0_3_0 tq0_3_1 : Tok} (kc0_3 : PySem.W.nsIn K dk0 "want" = some (some (.ref te0_3))) (kd0_3 : K.lookup te0_3 = some ⟨.type "tuple", oe0_3, .seq #[.int 1 tq0_3_0, .int 2 tq0_3_1] ne0_3, se0_3⟩)
    : ∃ fd : FuncData, (∀ (s : Shared) (v : Value), BindsTo s fd ⟨[v], []⟩ [("script", v)]) ∧ ∀ base : Heap, K.In base → base.Ns mainGlobals mg → FnOk l.prog w K mg base CX0 9 fa fd ["script"] (spLaw K (Gd K)) := by
  have q := hfa.symm.trans (PySem.W.mg_of X G a22)
  cases q
  have T_FORMS : KDs K w mg "FORMS" [("ware", [.int 1, .int 4]), ("coming", [.int 1, .int 2]), ("part", [.int 2, .int 1]), ("want", [.int 1, .int 2])] := kds_of (PySem.W.mg_of X G ka0) kb0 (fun p hp => by
    rcases List.mem_cons.mp hp with rfl | hp
    · exact ⟨te0_0, kc0_0, sqt_k kd0_0 (by show 2 ≤ sizeLine; decide) (.cons ⟨_, rfl⟩ (.cons ⟨_, rfl⟩ .nil))⟩
    rcases List.mem_cons.mp hp with rfl | hp
    · exact ⟨te0_1, kc0_1, sqt_k kd0_1 (by show 2 ≤ sizeLine; decide) (.cons ⟨_, rfl⟩ (.cons ⟨_, rfl⟩ .nil))⟩
    rcases List.mem_cons.mp hp with rfl | hp
    · exact ⟨te0_2, kc0_2, sqt_k kd0_2 (by show 2 ≤ sizeLine; decide) (.cons ⟨_, rfl⟩ (.cons ⟨_, rfl⟩ .nil))⟩
    rcases List.mem_cons.mp hp with rfl | hp
    · exact ⟨te0_3, kc0_3, sqt_k kd0_3 (by show 2 ≤ sizeLine; decide) (.cons ⟨_, rfl⟩ (.cons ⟨_, rfl⟩ .nil))⟩
    cases hp)
  have Z : Glb K mg w := ⟨trivial, fun x v q => PySem.W.mg_of X G q, PySem.W.mg_none_of X G z0, PySem.W.mg_none_of X G z1, PySem.W.mg_none_of X G z2, PySem.W.mg_none_of X G z3, PySem.W.mg_none_of X G z4, PySem.W.mg_none_of X G z5, PySem.W.mg_none_of X G z6, PySem.W.mg_none_of X G z7, PySem.W.mg_none_of X G z8, PySem.W.mg_none_of X G z9, PySem.W.mg_none_of X G z10, ⟨_, PySem.W.mg_of X G y0, _, rfl⟩, ⟨_, PySem.W.mg_of X G y1, _, rfl⟩, ⟨_, PySem.W.mg_of X G y2, _, rfl⟩, ⟨_, PySem.W.mg_of X G y3, _, rfl⟩, ⟨_, PySem.W.mg_of X G y4, _, rfl⟩, ⟨_, PySem.W.mg_of X G y5, _, rfl⟩, ⟨_, PySem.W.mg_of X G y6, _, rfl⟩, ⟨_, PySem.W.mg_of X G y7, _, rfl⟩, ⟨_, PySem.W.mg_of X G y8, _, rfl⟩, ⟨_, PySem.W.mg_of X G y9, _, rfl⟩, ⟨_, a13⟩, ⟨_, a14⟩, ⟨_, a17⟩, ⟨_, a16⟩, T_FORMS⟩
  have F0 := fun_mk (st := s__law_drawn) l0 e0 k0
  have Dn0 : Dfn K mg "_law_drawn" s__law_drawn ["script"] := ⟨f0, _, F0, PySem.W.mg_of X G a0, F0.binds (ps := ["script"]) fun _ _ _ _ _ _ us hl => match us, hl with | [_], _ => rfl⟩
  have F1 := fun_mk (st := s__law_next) l1 e1 k1
  have Dn1 : Dfn K mg "_law_next" s__law_next ["state", "many"] := ⟨f1, _, F1, PySem.W.mg_of X G a1, F1.binds (ps := ["state", "many"]) fun _ _ _ _ _ _ us hl => match us, hl with | [_, _], _ => rfl⟩
  have F2 := fun_mk (st := s__law_names) l2 e2 k2
  have Dn2 : Dfn K mg "_law_names" s__law_names ["state", "many"] := ⟨f2, _, F2, PySem.W.mg_of X G a2, F2.binds (ps := ["state", "many"]) fun _ _ _ _ _ _ us hl => match us, hl with | [_, _], _ => rfl⟩
  have F3 := fun_mk (st := s__law_amount) l3 e3 k3
  have Dn3 : Dfn K mg "_law_amount" s__law_amount ["state"] := ⟨f3, _, F3, PySem.W.mg_of X G a3, F3.binds (ps := ["state"]) fun _ _ _ _ _ _ us hl => match us, hl with | [_], _ => rfl⟩
  have F4 := fun_mk (st := s__law_parts) l4 e4 k4
  have Dn4 : Dfn K mg "_law_parts" s__law_parts ["state", "names"] := ⟨f4, _, F4, PySem.W.mg_of X G a4, F4.binds (ps := ["state", "names"]) fun _ _ _ _ _ _ us hl => match us, hl with | [_, _], _ => rfl⟩
  have F5 := fun_mk (st := s__law_shop) l5 e5 k5
  have Dn5 : Dfn K mg "_law_shop" s__law_shop ["state", "top"] := ⟨f5, _, F5, PySem.W.mg_of X G a5, F5.binds (ps := ["state", "top"]) fun _ _ _ _ _ _ us hl => match us, hl with | [_, _], _ => rfl⟩
  have F6 := fun_mk (st := s__law_any_shop) l6 e6 k6
  have Dn6 : Dfn K mg "_law_any_shop" s__law_any_shop ["state"] := ⟨f6, _, F6, PySem.W.mg_of X G a6, F6.binds (ps := ["state"]) fun _ _ _ _ _ _ us hl => match us, hl with | [_], _ => rfl⟩
  have F7 := fun_mk (st := s_read_number) l7 e7 k7
  have Dn7 : Dfn K mg "read_number" s_read_number ["word"] := ⟨f7, _, F7, PySem.W.mg_of X G a7, F7.binds (ps := ["word"]) fun _ _ _ _ _ _ us hl => match us, hl with | [_], _ => rfl⟩
  have F8 := fun_mk (st := s_is_name) l8 e8 k8
  have Dn8 : Dfn K mg "is_name" s_is_name ["found"] := ⟨f8, _, F8, PySem.W.mg_of X G a8, F8.binds (ps := ["found"]) fun _ _ _ _ _ _ us hl => match us, hl with | [_], _ => rfl⟩
  have F9 := fun_mk (st := s_read_row) l9 e9 k9
  have Dn9 : Dfn K mg "read_row" s_read_row ["row"] := ⟨f9, _, F9, PySem.W.mg_of X G a9, F9.binds (ps := ["row"]) fun _ _ _ _ _ _ us hl => match us, hl with | [_], _ => rfl⟩
  have F10 := fun_mk (st := s_are_unlike) l10 e10 k10
  have Dn10 : Dfn K mg "are_unlike" s_are_unlike ["names"] := ⟨f10, _, F10, PySem.W.mg_of X G a10, F10.binds (ps := ["names"]) fun _ _ _ _ _ _ us hl => match us, hl with | [_], _ => rfl⟩
  have F11 := fun_mk (st := s_is_whole) l11 e11 k11
  have Dn11 : Dfn K mg "is_whole" s_is_whole ["found", "least"] := ⟨f11, _, F11, PySem.W.mg_of X G a11, F11.binds (ps := ["found", "least"]) fun _ _ _ _ _ _ us hl => match us, hl with | [_, _], _ => rfl⟩
  have F12 := fun_mk (st := s_is_day) l12 e12 k12
  have Dn12 : Dfn K mg "is_day" s_is_day ["found"] := ⟨f12, _, F12, PySem.W.mg_of X G a12, F12.binds (ps := ["found"]) fun _ _ _ _ _ _ us hl => match us, hl with | [_], _ => rfl⟩
  have F13 := fun_mk (st := s_is_coming) l13 e13 k13
  have Dn13 : Dfn K mg "is_coming" s_is_coming ["found"] := ⟨f13, _, F13, PySem.W.mg_of X G a13, F13.binds (ps := ["found"]) fun _ _ _ _ _ _ us hl => match us, hl with | [_], _ => rfl⟩
  have F14 := fun_mk (st := s_is_part) l14 e14 k14
  have Dn14 : Dfn K mg "is_part" s_is_part ["found"] := ⟨f14, _, F14, PySem.W.mg_of X G a14, F14.binds (ps := ["found"]) fun _ _ _ _ _ _ us hl => match us, hl with | [_], _ => rfl⟩
  have F15 := fun_mk (st := s_are_all) l15 e15 k15
  have Dn15 : Dfn K mg "are_all" s_are_all ["found", "most", "is_one"] := ⟨f15, _, F15, PySem.W.mg_of X G a15, F15.binds (ps := ["found", "most", "is_one"]) fun _ _ _ _ _ _ us hl => match us, hl with | [_, _, _], _ => rfl⟩
  have F16 := fun_mk (st := s_is_ware) l16 e16 k16
  have Dn16 : Dfn K mg "is_ware" s_is_ware ["found"] := ⟨f16, _, F16, PySem.W.mg_of X G a16, F16.binds (ps := ["found"]) fun _ _ _ _ _ _ us hl => match us, hl with | [_], _ => rfl⟩
  have F17 := fun_mk (st := s_is_want) l17 e17 k17
  have Dn17 : Dfn K mg "is_want" s_is_want ["found"] := ⟨f17, _, F17, PySem.W.mg_of X G a17, F17.binds (ps := ["found"]) fun _ _ _ _ _ _ us hl => match us, hl with | [_], _ => rfl⟩
  have F18 := fun_mk (st := s_is_shop) l18 e18 k18
  have Dn18 : Dfn K mg "is_shop" s_is_shop ["found"] := ⟨f18, _, F18, PySem.W.mg_of X G a18, F18.binds (ps := ["found"]) fun _ _ _ _ _ _ us hl => match us, hl with | [_], _ => rfl⟩
  have F19 := fun_mk (st := s_pairs_of) l19 e19 k19
  have Dn19 : Dfn K mg "pairs_of" s_pairs_of ["rows", "word", "name"] := ⟨f19, _, F19, PySem.W.mg_of X G a19, F19.binds (ps := ["rows", "word", "name"]) fun _ _ _ _ _ _ us hl => match us, hl with | [_, _, _], _ => rfl⟩
  have F20 := fun_mk (st := s_read_shop) l20 e20 k20
  have Dn20 : Dfn K mg "read_shop" s_read_shop ["text"] := ⟨f20, _, F20, PySem.W.mg_of X G a20, F20.binds (ps := ["text"]) fun _ _ _ _ _ _ us hl => match us, hl with | [_], _ => rfl⟩
  have F21 := fun_mk (st := s__law_rows) l21 e21 k21
  have Dn21 : Dfn K mg "_law_rows" s__law_rows ["shop"] := ⟨f21, _, F21, PySem.W.mg_of X G a21, F21.binds (ps := ["shop"]) fun _ _ _ _ _ _ us hl => match us, hl with | [_], _ => rfl⟩
  have F22 := fun_mk (st := s_law) l22 e22 k22
  have C0 : ∀ base : Heap, Cal l.prog w K mg base 1 "_law_drawn" (sp__law_drawn K) [] := fun base => c__law_drawn Dn0 Z 
  have C1 : ∀ base : Heap, Cal l.prog w K mg base 1 "_law_next" (sp__law_next K) [] := fun base => c__law_next Dn1 Z 
  have C2 : ∀ base : Heap, Cal l.prog w K mg base 2 "_law_names" (sp__law_names K) [] := fun base => c__law_names Dn2 Z (C1 base)
  have C3 : ∀ base : Heap, Cal l.prog w K mg base 2 "_law_amount" (sp__law_amount K) [] := fun base => c__law_amount Dn3 Z (C1 base)
  have C4 : ∀ base : Heap, Cal l.prog w K mg base 2 "_law_parts" (sp__law_parts K) [] := fun base => c__law_parts Dn4 Z (C1 base)
  have C5 : ∀ base : Heap, Cal l.prog w K mg base 3 "_law_shop" (sp__law_shop K) [] := fun base => c__law_shop Dn5 Z (C1 base) (C3 base) (C4 base) (C2 base)
  have C6 : ∀ base : Heap, Cal l.prog w K mg base 4 "_law_any_shop" (sp__law_any_shop K) [] := fun base => c__law_any_shop Dn6 Z (C1 base) (C5 base)
  have C7 : ∀ base : Heap, Cal l.prog w K mg base 1 "read_number" (sp_read_number K) [] := fun base => c_read_number Dn7 Z 
  have C8 : ∀ base : Heap, Cal l.prog w K mg base 1 "is_name" (sp_is_name K) [] := fun base => c_is_name Dn8 Z 
  have C9 : ∀ base : Heap, Cal l.prog w K mg base 2 "read_row" (sp_read_row K) [] := fun base => c_read_row Dn9 Z (C7 base) (C8 base)
  have C10 : ∀ base : Heap, Cal l.prog w K mg base 1 "are_unlike" (sp_are_unlike K) [] := fun base => c_are_unlike Dn10 Z 
  have C11 : ∀ base : Heap, Cal l.prog w K mg base 1 "is_whole" (sp_is_whole K) [] := fun base => c_is_whole Dn11 Z 
  have C12 : ∀ base : Heap, Cal l.prog w K mg base 2 "is_day" (sp_is_day K) [] := fun base => c_is_day Dn12 Z (C11 base)
  have C13 : ∀ base : Heap, Cal l.prog w K mg base 3 "is_coming" (sp_is_coming K) [] := fun base => c_is_coming Dn13 Z (C11 base) (C12 base)
  have C14 : ∀ base : Heap, Cal l.prog w K mg base 2 "is_part" (sp_is_part K) [] := fun base => c_is_part Dn14 Z (C11 base) (C8 base)
  have C15 : ∀ base : Heap, Cal l.prog w K mg base 4 "are_all" (sp_are_all_low K) [] := fun base => c_are_all_low Dn15 Z (C14 base) (C13 base)
  have C16 : ∀ base : Heap, Cal l.prog w K mg base 5 "is_ware" (sp_is_ware K) [] := fun base => c_is_ware Dn16 Z (C10 base) (C15 base) (C14 base) (C13 base) (C11 base) (C8 base)
  have C17 : ∀ base : Heap, Cal l.prog w K mg base 3 "is_want" (sp_is_want K) [] := fun base => c_is_want Dn17 Z (C11 base) (C12 base) (C8 base)
  have C18 : ∀ base : Heap, Cal l.prog w K mg base 6 "are_all" (sp_are_all_high K) [] := fun base => c_are_all_high Dn15 Z (C17 base) (C16 base)
  have C19 : ∀ base : Heap, Cal l.prog w K mg base 7 "is_shop" (sp_is_shop K) [] := fun base => c_is_shop Dn18 Z (C10 base) (C18 base) (C17 base) (C16 base)
  have C20 : ∀ base : Heap, Cal l.prog w K mg base 1 "pairs_of" (sp_pairs_of K) [] := fun base => c_pairs_of Dn19 Z 
  have C21 : ∀ base : Heap, Cal l.prog w K mg base 8 "read_shop" (sp_read_shop K) [] := fun base => c_read_shop Dn20 Z (C19 base) (C20 base) (C9 base)
  have C22 : ∀ base : Heap, Cal l.prog w K mg base 1 "_law_rows" (sp__law_rows K) [] := fun base => c__law_rows Dn21 Z 
  exact ⟨PySem.W.fnOf "law" "law" (defArgs s_law) (defBody s_law) (defScope s_law) .none kV22 dc22 pm22 an22 cd22 ct22, fun s v => .of_eq rfl, fun base _ _ => law_of (c_law F22 Z (C19 base) (C21 base) (C1 base) (C22 base) (C6 base) (C0 base))⟩
end N
open PySem PySem.W PyProof.Rows
set_option maxHeartbeats 0 in
theorem PySem.Challenge.cw_needplan_k52_shops_read_holds : PySem.Challenge.rw_needplan_k52_shops_read.Holds := by
  w_on; o_law; k_head; (case hw => w_witness2)
  k_fill
  refine L2.walk_of (l := PySem.Challenge.rw_needplan_k52_shops_read) (n := 63) (k := 9) (x := "script") (CX := fun _ => L2.CX0) (sp := fun w => N.spLawN _) rfl (by decide) rfl ⟨rfl, by decide, by decide⟩ (fun w h Y => PySem.W.kIn_of Y) ?F (fun _ _ a ns hl _ hS => ⟨a, ns, rfl, hS, hl, (fun _ e => by cases e), fun _ => rfl⟩) (fun _ _ _ _ _ h => h)
  case F =>
    intro w mg fa h KX G hmg
    refine' N.all_mk KX G hmg ?a0 ?l0 ?e0 ?k0 ?a1 ?l1 ?e1 ?k1 ?a2 ?l2 ?e2 ?k2 ?a3 ?l3 ?e3 ?k3 ?a4 ?l4 ?e4 ?k4 ?a5 ?l5 ?e5 ?k5 ?a6 ?l6 ?e6 ?k6 ?a7 ?l7 ?e7 ?k7 ?a8 ?l8 ?e8 ?k8 ?a9 ?l9 ?e9 ?k9 ?a10 ?l10 ?e10 ?k10 ?a11 ?l11 ?e11 ?k11 ?a12 ?l12 ?e12 ?k12 ?a13 ?l13 ?e13 ?k13 ?a14 ?l14 ?e14 ?k14 ?a15 ?l15 ?e15 ?k15 ?a16 ?l16 ?e16 ?k16 ?a17 ?l17 ?e17 ?k17 ?a18 ?l18 ?e18 ?k18 ?a19 ?l19 ?e19 ?k19 ?a20 ?l20 ?e20 ?k20 ?a21 ?l21 ?e21 ?k21 ?a22 ?l22 ?e22 ?k22 ?z0 ?z1 ?z2 ?z3 ?z4 ?z5 ?z6 ?z7 ?z8 ?z9 ?z10 ?y0 ?y1 ?y2 ?y3 ?y4 ?y5 ?y6 ?y7 ?y8 ?y9 ?ka0 ?kb0 ?kc0_0 ?kd0_0 ?kc0_1 ?kd0_1 ?kc0_2 ?kd0_2 ?kc0_3 ?kd0_3
    (case a0 => k_is); (case l0 => k_is); (case e0 => k_is); (case k0 => k_is); (case a1 => k_is); (case l1 => k_is)
    (case e1 => k_is); (case k1 => k_is); (case a2 => k_is); (case l2 => k_is); (case e2 => k_is); (case k2 => k_is)
    (case a3 => k_is); (case l3 => k_is); (case e3 => k_is); (case k3 => k_is); (case a4 => k_is); (case l4 => k_is)
    (case e4 => k_is); (case k4 => k_is); (case a5 => k_is); (case l5 => k_is); (case e5 => k_is); (case k5 => k_is)
    (case a6 => k_is); (case l6 => k_is); (case e6 => k_is); (case k6 => k_is); (case a7 => k_is); (case l7 => k_is)
    (case e7 => k_is); (case k7 => k_is); (case a8 => k_is); (case l8 => k_is); (case e8 => k_is); (case k8 => k_is)
    (case a9 => k_is); (case l9 => k_is); (case e9 => k_is); (case k9 => k_is); (case a10 => k_is); (case l10 => k_is)
    (case e10 => k_is); (case k10 => k_is); (case a11 => k_is); (case l11 => k_is); (case e11 => k_is); (case k11 => k_is)
    (case a12 => k_is); (case l12 => k_is); (case e12 => k_is); (case k12 => k_is); (case a13 => k_is); (case l13 => k_is)
    (case e13 => k_is); (case k13 => k_is); (case a14 => k_is); (case l14 => k_is); (case e14 => k_is); (case k14 => k_is)
    (case a15 => k_is); (case l15 => k_is); (case e15 => k_is); (case k15 => k_is); (case a16 => k_is); (case l16 => k_is)
    (case e16 => k_is); (case k16 => k_is); (case a17 => k_is); (case l17 => k_is); (case e17 => k_is); (case k17 => k_is)
    (case a18 => k_is); (case l18 => k_is); (case e18 => k_is); (case k18 => k_is); (case a19 => k_is); (case l19 => k_is)
    (case e19 => k_is); (case k19 => k_is); (case a20 => k_is); (case l20 => k_is); (case e20 => k_is); (case k20 => k_is)
    (case a21 => k_is); (case l21 => k_is); (case e21 => k_is); (case k21 => k_is); (case a22 => k_is); (case l22 => k_is)
    (case e22 => k_is); (case k22 => k_is); (case z0 => k_is); (case z1 => k_is); (case z2 => k_is); (case z3 => k_is)
    (case z4 => k_is); (case z5 => k_is); (case z6 => k_is); (case z7 => k_is); (case z8 => k_is); (case z9 => k_is)
    (case z10 => k_is); (case y0 => k_is); (case y1 => k_is); (case y2 => k_is); (case y3 => k_is); (case y4 => k_is)
    (case y5 => k_is); (case y6 => k_is); (case y7 => k_is); (case y8 => k_is); (case y9 => k_is); (case ka0 => k_is)
    (case kb0 => exact rfl); (case kc0_0 => k_is); (case kd0_0 => k_is); (case kc0_1 => k_is); (case kd0_1 => k_is); (case kc0_2 => k_is)
    (case kd0_2 => k_is); (case kc0_3 => k_is); (case kd0_3 => k_is)
