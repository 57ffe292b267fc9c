import PyProof.Rows.All
import KE.GoesNew
import HandS.CallLocal
import KE.RegKIsAll
import HandS.Strs
import HandS.Text
import HandS.TupMul
import HandS.WordsExc
import HandS.ExcIs
import HandS.ExcOwn
import KE.DatumOrd
import HandS.SortKw
import HandS.Conv
import HandS.WordsDict
import Wide.All
import OpenK.AllK
import Wide.FinOn
import HandS.ForMost
import HandS.Wide
import HandS.NoneIn
import HandS.More
import HandS.TupAny
import HandS.IsInst
import HandS.Lambda
import KE.SortKeyHeap
import KE.KSortKey
import KE.SortData
import HandS.Nested
import HandS.EndTab
import HandS.Finally
import HandS.DictComp
import HandS.DeepEq
import HandS.Style
import HandS.Rev
import HandS.SortRule
import PyProof.Rows.StrMeet
import KE.KExcPX
import HandS.RaiseMore
import HandS.HeadHook3
import HandS.MapJoin
import KE.GoesZip
import KE.GoesEnum
import KE.GoesComp
import KE.GoesRaise
import KE.KAsSuite
import HandS.Text
import PySem.Challenge.RW_needplan_k53_refused_texts
set_option Elab.async false
set_option linter.all false
set_option maxRecDepth 100000
set_option maxHeartbeats 4000000
namespace VL
open PySem L2
/-- plain data; st is a list that is drawn from (its content is only known to be good) -/
inductive D where
  | non | bl (b : Bool) | int (i : Int) | str (x : Str)
  | tup (ds : List D) | lst (ds : List D) | ro (ds : List D) | dct (kvs : List (Key × D)) | lkd (a : Addr) (kvs : List (Key × D)) | st | cm | ptr (a : Addr) | ty (n : String) | dtt (kvs : List (List Key × V)) | ins (C dx : Addr) (fs : List (Str × D)) | key (ks : List Key)
/-- what a law's defs share: what a list that is drawn from must be; the table of a code object, if a lambda is made -/
structure Gs where
  good : List Int → Prop
  tab : Option Addr
def lamName : Str := "worked.<locals>.<lambda>"
/-- an object that may change, known by what is always true of it -/
def isMk : HO → Bool
  | .ext _ => true
  | .tbl _ => true
  | .rng _ _ => true
  | _ => false
def isTb : HO → Bool
  | .tbl _ => true
  | _ => false
def isLD : HO → Bool
  | .lst _ => true
  | .dK _ => true
  | .dT _ => true
  | .ins _ _ _ => true
  | _ => false
/-- an object that never changes -/
def hard : HO → Bool
  | .tup _ => true
  | .ext _ => true
  | .frz _ (.tup _) => true
  | _ => false
/-- what is on the way, always -/
def GoodP (ps : List (Int × Int)) : Prop := ps.length ≤ 12 ∧ ∀ p ∈ ps, (0 ≤ p.1 ∧ p.1 ≤ 400) ∧ (0 ≤ p.2 ∧ p.2 < 10 ^ 42)
section
variable (K : PySem.W.Frag) (G : Gs)
inductive PrsAt (H : Hp) : List V → List (Int × Int) → Prop
  | nil : PrsAt H [] []
  | cons {a : Addr} {xs : List V} {p : Int × Int} {ps : List (Int × Int)} : SqT K H a [.int p.1, .int p.2] → PrsAt H xs ps → PrsAt H (.ref a :: xs) (p :: ps)
mutual
inductive At (R : Hp) : V → D → Prop
  | non : At R .non .non
  | bl (b : Bool) : At R (.bl b) (.bl b)
  | int (i : Int) : At R (.int i) (.int i)
  | str (x : Str) : At R (.str x) (.str x)
  | tup {a : Addr} {xs : List V} {ds : List D} : SqT K R a xs → AtL R xs ds → At R (.ref a) (.tup ds)
  | lst {a : Addr} {xs : List V} {ds : List D} : R a = some (.lst xs) → AtL R xs ds → At R (.ref a) (.lst ds)
  | ro {a : Addr} {xs : List V} {ds : List D} : SqL K R a xs → AtL R xs ds → At R (.ref a) (.ro ds)
  | dct {a : Addr} {xs : List (Key × V)} {ds : List (Key × D)} : R a = some (.dK xs) → AtD R xs ds → At R (.ref a) (.dct ds)
  | lkd {a : Addr} {o : Obj} {xs : List (Key × V)} {ds : List (Key × D)} : R a = some (.frz o (.dK xs)) → AtD R xs ds → At R (.ref a) (.lkd a ds)
  | st {a : Addr} {φ : Heap → Prop} : R a = some (.ext φ) → At R (.ref a) .st
  | cm {a : Addr} {i j : Int} : R a = some (.rng i j) → At R (.ref a) .cm
  | ptr (a : Addr) : At R (.ref a) (.ptr a)
  | ty (n : String) : At R (.ty n) (.ty n)
  | dtt {a : Addr} {kvs : List (List Key × V)} : R a = some (.dT kvs) → At R (.ref a) (.dtt kvs)
  | ins {a C dx : Addr} {xs : List (Str × V)} {fs : List (Str × D)} : R a = some (.ins C dx xs) → xs.map (·.1) = fs.map (·.1) → AtL R (xs.map (·.2)) (fs.map (·.2)) → At R (.ref a) (.ins C dx fs)
  | key {a : Addr} {ks : List Key} : R a = some (.tup (ks.map kV)) → At R (.ref a) (.key ks)
inductive AtL (R : Hp) : List V → List D → Prop
  | nil : AtL R [] []
  | cons {v : V} {vs : List V} {d : D} {ds : List D} : At R v d → AtL R vs ds → AtL R (v :: vs) (d :: ds)
inductive AtD (R : Hp) : List (Key × V) → List (Key × D) → Prop
  | nil : AtD R [] []
  | cons {k : Key} {v : V} {vs : List (Key × V)} {d : D} {ds : List (Key × D)} : At R v d → AtD R vs ds → AtD R ((k, v) :: vs) ((k, d) :: ds)
end
/-- what R tells of a, H tells too; what R marks as drawn from is a good list -/
def SubAt (H : Hp) (a : Addr) : HO → Prop
  | .ext _ => ∃ ns : List Int, H a = some (.lst (ns.map V.int)) ∧ G.good ns
  | .tbl _ => LamX.TabS H a lamName
  | .rng _ _ => ∃ xs ps, H a = some (.lst xs) ∧ PrsAt K H xs ps ∧ GoodP ps
  | x => H a = some x
def Sub (R H : Hp) : Prop := ∀ a x, R a = some x → SubAt K G H a x
structure Step (R H R' H' : Hp) : Prop where
  same : Same R R'
  sub : Sub K G R' H'
  kept : ∀ a y, H a = some y → (∀ m, R a = some m → isMk m = false) → H' a = some y
  out : ∀ a y, H a = some y → hard y = false → R a = none → R' a = none
/-- the content of an object that the def alone knows -/
def MAt (R : Hp) : HO → D → Prop
  | .lst xs, .lst ds => AtL K R xs ds
  | .dK xs, .dct ds => AtD K R xs ds
  | .dT xs, .dtt ds => xs = ds
  | .ins C dx xs, .ins C2 dx2 fs => C = C2 ∧ dx = dx2 ∧ xs.map (·.1) = fs.map (·.1) ∧ AtL K R (xs.map (·.2)) (fs.map (·.2))
  | _, _ => False
inductive Slot where
  | u | p (d : D) | mu (d : D) | hp (gs : List (Addr × D))
abbrev Vn := List Slot
/-- a value on the way: plain; an own new object; the object of a slot -/
inductive XV where
  | p (d : D) | o (d : D) | m (i : Nat) (d : D)
/-- the objects that a slot owns -/
def Slot.owns (s : Option (Option V)) (a : Addr) : Slot → Prop
  | .mu _ => s = some (some (.ref a))
  | .hp gs => a ∈ gs.map (·.1)
  | _ => False
def NoOwn (env : Vn) (σ : L2.St) (a : Addr) : Prop := ∀ (j : Nat) sl, env[j]? = some sl → ¬ Slot.owns σ[j]? a sl
/-- the state ahead of the def -/
structure Bs where
  R : Hp
  H : Hp
  /-- own objects that no slot holds, as they must stay -/
  pr : List (Addr × HO)
def SlotAt (B : Bs) (R H : Hp) (σ : L2.St) (i : Nat) : Slot → Prop
  | .u => True
  | .p d => ∃ v, σ[i]? = some (some v) ∧ At K R v d
  | .mu d => ∃ a y, σ[i]? = some (some (.ref a)) ∧ B.H a = none ∧ R a = none ∧ H a = some y ∧ MAt K R y d
  | .hp gs => ∀ q ∈ gs, B.H q.1 = none ∧ R q.1 = none ∧ ∃ y, H q.1 = some y ∧ MAt K R y q.2
structure Rep (B : Bs) (env : Vn) (σ : L2.St) (R H : Hp) : Prop where
  sub0 : Sub K G B.R B.H
  tab : ∀ P, G.tab = some P → ∃ ps, B.R P = some (.tbl ps)
  step : Step K G B.R B.H R H
  len : σ.length = env.length
  slots : ∀ (i : Nat) s, env[i]? = some s → SlotAt K B R H σ i s
  dist : ∀ (i j : Nat) si sj a, i ≠ j → env[i]? = some si → env[j]? = some sj → Slot.owns σ[i]? a si → ¬ Slot.owns σ[j]? a sj
  pr : ∀ q ∈ B.pr, B.H q.1 = none ∧ R q.1 = none ∧ H q.1 = some q.2 ∧ isLD q.2 = true ∧ NoOwn env σ q.1
def VAt (B : Bs) (env : Vn) (σ : L2.St) (R H : Hp) (v : V) : XV → Prop
  | .p d => At K R v d
  | .o d => ∃ a y, v = .ref a ∧ B.H a = none ∧ R a = none ∧ H a = some y ∧ MAt K R y d ∧ NoOwn env σ a ∧ ∀ q ∈ B.pr, q.1 ≠ a
  | .m i d => env[i]? = some (.mu d) ∧ σ[i]? = some (some v)
def VE (B : Bs) (t : TE) (env : Vn) (Q : XV → Prop) : Prop := ∀ σ R H, Rep K G B env σ R H → ∀ Qh : VK,
  (∀ v R' H' x, Rep K G B env σ R' H' → Same R R' → VAt K B env σ R' H' v x → Q x → Qh v H') → t σ H Qh
def VT (B : Bs) (t : TT) (env : Vn) (Q : Bool → Prop) : Prop := ∀ σ R H, Rep K G B env σ R H → ∀ Qh : Bool → Hp → Prop,
  (∀ b R' H', Rep K G B env σ R' H' → Same R R' → Q b → Qh b H') → t σ H Qh
/-- arguments: new objects are given away, slots' objects are only lent -/
def VAtL (B : Bs) (env : Vn) (σ : L2.St) (R H : Hp) : List V → List XV → Prop
  | [], [] => True
  | v :: vs, x :: xs => VAt K B env σ R H v x ∧ VAtL B env σ R H vs xs
  | _, _ => False
def XV.isO : XV → Bool
  | .o _ => true
  | _ => false
def XV.fz (x : XV) (k : XV → Prop) : Prop := match x with
  | .o d => k (.p d)
  | .p d => k (.p d)
  | .m i d => k (.m i d)
def VA (B : Bs) (t : TA) (env : Vn) (Q : List XV → Prop) : Prop := ∀ σ R H, Rep K G B env σ R H → ∀ Qh : List V → Hp → Prop,
  (∀ vs R' H' xs, Rep K G B env σ R' H' → Same R R' → VAtL K B env σ R' H' vs xs → (∀ x ∈ xs, x.isO = false) → Q xs → Qh vs H') → t σ H Qh
/-- an operation on two values -/
def VO (B : Bs) (r : V → V → Hp → VK → Prop) (env : Vn) (x y : XV) (Q : XV → Prop) : Prop := ∀ σ R H, Rep K G B env σ R H → ∀ v w, VAt K B env σ R H v x → VAt K B env σ R H w y → ∀ Qh : VK,
  (∀ z R' H' x', Rep K G B env σ R' H' → Same R R' → VAt K B env σ R' H' z x' → Q x' → Qh z H') → r v w H Qh
def VU (B : Bs) (r : V → Hp → VK → Prop) (env : Vn) (x : XV) (Q : XV → Prop) : Prop := ∀ σ R H, Rep K G B env σ R H → ∀ v, VAt K B env σ R H v x → ∀ Qh : VK,
  (∀ z R' H' x', Rep K G B env σ R' H' → Same R R' → VAt K B env σ R' H' z x' → Q x' → Qh z H') → r v H Qh
def VC (B : Bs) (r : List V → Hp → VK → Prop) (env : Vn) (xs : List XV) (Q : XV → Prop) : Prop := ∀ σ R H, Rep K G B env σ R H → ∀ vs, VAtL K B env σ R H vs xs → ∀ Qh : VK,
  (∀ z R' H' x', Rep K G B env σ R' H' → Same R R' → VAt K B env σ R' H' z x' → Q x' → Qh z H') → r vs H Qh
def VS (B : Bs) (t : TS) (env : Vn) (nx : Vn → Prop) (rt : XV → Prop) (bk ct : Vn → Prop) : Prop := ∀ σ R H, Rep K G B env σ R H → ∀ Z : Ends,
  (∀ env' σ' R' H', Rep K G B env' σ' R' H' → Same R R' → nx env' → Z.nx σ' H') →
  (∀ v env' σ' R' H' x, Rep K G B env' σ' R' H' → Same R R' → VAt K B env' σ' R' H' v x → rt x → Z.rt v H') →
  (∀ env' σ' R' H', Rep K G B env' σ' R' H' → Same R R' → bk env' → Z.bk σ' H') →
  (∀ env' σ' R' H', Rep K G B env' σ' R' H' → Same R R' → ct env' → Z.ct σ' H') → t Z σ H
/-- a target: what is bound is plain -/
def VG (B : Bs) (g : TG) (x : XV) (env : Vn) (Q : Vn → Prop) : Prop := ∀ σ R H, Rep K G B env σ R H → ∀ v, VAt K B env σ R H v x → ∀ Qh : L2.St → Hp → Prop,
  (∀ env' σ' R' H', Rep K G B env' σ' R' H' → Same R R' → Q env' → Qh σ' H') → g v σ H Qh
end
section
variable {K : PySem.W.Frag} {G : Gs} {B : Bs} {env : Vn} {σ : L2.St} {R R' R1 H H' H1 : Hp}
theorem same_rd {a : Addr} {u : HO} (e : Same R R') (h : Rd R a u) : Rd R' a u := by
  rcases h with h | ⟨o, h⟩
  · exact .inl (e _ _ h)
  · exact .inr ⟨o, e _ _ h⟩
theorem same_t {a : Addr} {xs : List V} (e : Same R R') (h : SqT K R a xs) : SqT K R' a xs := by
  rcases h with h | h
  · exact .inl (same_rd e h)
  · exact .inr h
theorem same_l {a : Addr} {xs : List V} (e : Same R R') (h : SqL K R a xs) : SqL K R' a xs := by
  rcases h with h | h
  · exact .inl (same_rd e h)
  · exact .inr h
mutual
theorem At.same (e : Same R R') : ∀ {v : V} {d : D}, At K R v d → At K R' v d
  | _, _, .non => .non
  | _, _, .bl b => .bl b
  | _, _, .int i => .int i
  | _, _, .str x => .str x
  | _, _, .tup h t => .tup (same_t e h) (AtL.same e t)
  | _, _, .lst h t => .lst (e _ _ h) (AtL.same e t)
  | _, _, .ro h t => .ro (same_l e h) (AtL.same e t)
  | _, _, .dct h t => .dct (e _ _ h) (AtD.same e t)
  | _, _, .lkd h t => .lkd (e _ _ h) (AtD.same e t)
  | _, _, .st h => .st (e _ _ h)
  | _, _, .cm h => .cm (e _ _ h)
  | _, _, .ptr a => .ptr a
  | _, _, .ty n => .ty n
  | _, _, .dtt h => .dtt (e _ _ h)
  | _, _, .ins h q t => .ins (e _ _ h) q (AtL.same e t)
  | _, _, .key h => .key (e _ _ h)
theorem AtL.same (e : Same R R') : ∀ {vs : List V} {ds : List D}, AtL K R vs ds → AtL K R' vs ds
  | _, _, .nil => .nil
  | _, _, .cons h t => .cons (At.same e h) (AtL.same e t)
theorem AtD.same (e : Same R R') : ∀ {vs : List (Key × V)} {ds : List (Key × D)}, AtD K R vs ds → AtD K R' vs ds
  | _, _, .nil => .nil
  | _, _, .cons h t => .cons (At.same e h) (AtD.same e t)
end
theorem MAt.same (e : Same R R') {y : HO} {d : D} (h : MAt K R y d) : MAt K R' y d := by
  cases y <;> cases d <;> first | exact h.elim | exact AtL.same e h | exact AtD.same e h | exact h | exact ⟨h.1, h.2.1, h.2.2.1, AtL.same e h.2.2.2⟩
theorem AtL.len : ∀ {vs : List V} {ds : List D}, AtL K R vs ds → vs.length = ds.length
  | _, _, .nil => rfl
  | _, _, .cons _ t => congrArg (· + 1) (AtL.len t)
theorem AtL.get : ∀ {vs : List V} {ds : List D} {i : Nat} {d : D}, AtL K R vs ds → ds[i]? = some d → ∃ v, vs[i]? = some v ∧ At K R v d
  | _, _, _, _, .nil, h => by simp at h
  | _, _, 0, _, .cons h _, e => by
    simp at e
    subst e
    exact ⟨_, rfl, h⟩
  | _, _, i + 1, _, .cons _ t, e => by
    obtain ⟨v, h1, h2⟩ := AtL.get (i := i) t (by simpa using e)
    exact ⟨v, by simpa using h1, h2⟩
theorem AtL.imp : ∀ {vs : List V} {ds : List D}, AtL K R vs ds → (∀ v d, d ∈ ds → At K R v d → At K R' v d) → AtL K R' vs ds
  | _, _, .nil, _ => .nil
  | _, _, .cons h t, f => .cons (f _ _ List.mem_cons_self h) (AtL.imp t fun v d hm => f v d (List.mem_cons_of_mem _ hm))
theorem AtD.imp : ∀ {vs : List (Key × V)} {ds : List (Key × D)}, AtD K R vs ds → (∀ v d, d ∈ ds.map (·.2) → At K R v d → At K R' v d) → AtD K R' vs ds
  | _, _, .nil, _ => .nil
  | _, _, .cons h t, f => .cons (f _ _ (by simp) h) (AtD.imp t fun v d hm => f v d (by simp at hm ⊢; exact .inr hm))
theorem AtL.app : ∀ {vs ws : List V} {ds es : List D}, AtL K R vs ds → AtL K R ws es → AtL K R (vs ++ ws) (ds ++ es)
  | _, _, _, _, .nil, s => s
  | _, _, _, _, .cons h t, s => .cons h (AtL.app t s)
theorem AtL.take : ∀ {vs : List V} {ds : List D} (n : Nat), AtL K R vs ds → AtL K R (vs.take n) (ds.take n)
  | _, _, 0, _ => .nil
  | _, _, _ + 1, .nil => .nil
  | _, _, n + 1, .cons h t => .cons h (AtL.take n t)
theorem AtL.drop : ∀ {vs : List V} {ds : List D} (n : Nat), AtL K R vs ds → AtL K R (vs.drop n) (ds.drop n)
  | _, _, 0, t => t
  | _, _, _ + 1, .nil => .nil
  | _, _, n + 1, .cons _ t => AtL.drop n t
theorem AtL.set {v : V} {d : D} (h : At K R v d) : ∀ {vs : List V} {ds : List D} (n : Nat), AtL K R vs ds → AtL K R (vs.set n v) (ds.set n d)
  | _, _, _, .nil => .nil
  | _, _, 0, .cons _ t => .cons h t
  | _, _, n + 1, .cons q t => .cons q (AtL.set h n t)
theorem AtL.erase : ∀ {vs : List V} {ds : List D} (n : Nat), AtL K R vs ds → AtL K R (vs.eraseIdx n) (ds.eraseIdx n)
  | _, _, _, .nil => .nil
  | _, _, 0, .cons _ t => t
  | _, _, n + 1, .cons h t => .cons h (AtL.erase n t)
theorem AtL.ints : ∀ (ns : List Int), AtL K R (ns.map V.int) (ns.map D.int)
  | [] => .nil
  | n :: r => .cons (.int n) (AtL.ints r)
theorem AtL.ints_inv : ∀ {vs : List V} {ns : List Int}, AtL K R vs (ns.map D.int) → vs = ns.map V.int
  | _, [], h => by cases h; rfl
  | _, n :: r, h => by
    cases h with
    | cons h t =>
      cases h
      rw [AtL.ints_inv t]
      rfl
theorem hard_upd {a : Addr} {y : HO} (h : ∀ o, H a = some o → hard o = false) : ∀ c o, H c = some o → hard o = true → upd H a y c = some o := fun c o e q => by
  have hc : c ≠ a := fun z => by
    rw [z] at e
    rw [h o e] at q
    cases q
  rw [upd_ne hc]
  exact e
theorem hard_new {a : Addr} {y : HO} (h : H a = none) : ∀ c o, H c = some o → hard o = true → upd H a y c = some o := hard_upd fun o e => by
  rw [h] at e
  cases e
theorem hard_ld {o : HO} (h : isLD o = true) : hard o = false := by
  cases o <;> first | rfl | cases h
theorem mat_ld {y : HO} {d : D} (h : MAt K R y d) : isLD y = true := by
  cases y <;> cases d <;> first | rfl | exact h.elim
theorem ld_mk {o : HO} (h : isLD o = true) : isMk o = false := by
  cases o <;> first | rfl | cases h
theorem hard_own {a : Addr} {y o : HO} (h : H a = some o) (q : isLD o = true) : ∀ c u, H c = some u → hard u = true → upd H a y c = some u := hard_upd fun u e => by
  rw [h] at e
  cases e
  exact hard_ld q
theorem sqt_hard {a : Addr} {xs : List V} (s : ∀ c o, H c = some o → hard o = true → H' c = some o) (h : SqT K H a xs) : SqT K H' a xs := by
  rcases h with (h | ⟨o, h⟩) | h
  · exact .inl (.inl (s _ _ h rfl))
  · exact .inl (.inr ⟨o, s _ _ h rfl⟩)
  · exact .inr h
theorem PrsAt.hard (s : ∀ c o, H c = some o → hard o = true → H' c = some o) : ∀ {xs : List V} {ps : List (Int × Int)}, PrsAt K H xs ps → PrsAt K H' xs ps
  | _, _, .nil => .nil
  | _, _, .cons h t => .cons (sqt_hard s h) (PrsAt.hard s t)
theorem subAt_go {b : Addr} {x : HO} (h : SubAt K G H b x) (e : H' b = H b) (s : ∀ c o, H c = some o → hard o = true → H' c = some o) : SubAt K G H' b x := by
  cases x with
  | ext φ =>
    obtain ⟨ns, q, g⟩ := h
    exact ⟨ns, e.trans q, g⟩
  | tbl ps =>
    obtain ⟨qs, h1, h2, h3⟩ := h
    refine ⟨qs, e.trans h1, h2, fun pos cv hc => ?_⟩
    obtain ⟨c, e1, e2⟩ := h3 pos cv hc
    exact ⟨c, e1, s _ _ e2 rfl⟩
  | rng i j =>
    obtain ⟨xs, ps, h1, h2, h3⟩ := h
    exact ⟨xs, ps, e.trans h1, h2.hard s, h3⟩
  | _ => exact e.trans h
theorem subAt_mk {b : Addr} {x : HO} (h : SubAt K G H b x) (hx : isMk x = false) : H b = some x := by
  cases x <;> first | exact h | cases hx
theorem subAt_of {b : Addr} {x : HO} (h : H b = some x) (hx : isMk x = false) : SubAt K G H b x := by
  cases x <;> first | exact h | cases hx
theorem Sub.none (s : Sub K G R H) {a : Addr} (h : H a = Option.none) : R a = Option.none := by
  cases e : R a with
  | none => rfl
  | some x =>
    have q := s a x e
    cases x with
    | ext φ => obtain ⟨ns, q, _⟩ := q; rw [h] at q; cases q
    | tbl ps => obtain ⟨qs, q, _⟩ := q; rw [h] at q; cases q
    | rng i j => obtain ⟨xs, ps, q, _⟩ := q; rw [h] at q; cases q
    | _ => have q : H a = some _ := q; rw [h] at q; cases q
theorem Sub.of (s : Sub K G R H) {a : Addr} {x : HO} (h : R a = some x) (hx : isMk x = false) : H a = some x := subAt_mk (s a x h) hx
theorem Sub.rd (s : Sub K G R H) {a : Addr} {x : HO} (h : Rd R a x) (hx : isMk x = false) : Rd H a x := by
  rcases h with h | ⟨o, h⟩
  · exact .inl (s.of h hx)
  · exact .inr ⟨o, s.of h rfl⟩
theorem Sub.t (s : Sub K G R H) {a : Addr} {xs : List V} (h : SqT K R a xs) : SqT K H a xs := by
  rcases h with h | h
  · exact .inl (s.rd h rfl)
  · exact .inr h
theorem Sub.l (s : Sub K G R H) {a : Addr} {xs : List V} (h : SqL K R a xs) : SqL K H a xs := by
  rcases h with h | h
  · exact .inl (s.rd h rfl)
  · exact .inr h
theorem no_mk {a : Addr} (n : R a = none) : ∀ m, R a = some m → isMk m = false := fun m z => by rw [n] at z; cases z
theorem Step.refl (s : Sub K G R H) : Step K G R H R H := ⟨Same.refl R, s, fun _ _ h _ => h, fun _ _ _ _ h => h⟩
theorem Step.nx (s : Step K G R H R1 H1) {a : Addr} (hx : ∀ m, R a = some m → isMk m = false) {y : HO} (h : H a = some y) : ∀ m, R1 a = some m → isMk m = false := fun m z => by
  cases e : R a with
  | none =>
    cases hy : hard y with
    | false =>
      rw [s.out a y h hy e] at z
      cases z
    | true =>
      have h1 := s.kept a y h (no_mk e)
      have q := s.sub a m z
      cases m with
      | ext φ => obtain ⟨ns, q, _⟩ := q; rw [h1] at q; cases q; cases hy
      | tbl ps => obtain ⟨qs, q, _⟩ := q; rw [h1] at q; cases q; cases hy
      | rng i j => obtain ⟨xs, ps, q, _⟩ := q; rw [h1] at q; cases q; cases hy
      | _ => rfl
  | some x =>
    rw [s.same a x e] at z
    cases z
    exact hx _ e
theorem Step.trans (s : Step K G R H R1 H1) (t : Step K G R1 H1 R' H') : Step K G R H R' H' where
  same := s.same.trans t.same
  sub := t.sub
  kept := fun a y h hx => t.kept a y (s.kept a y h hx) (s.nx hx h)
  out := fun a y h hd n => t.out a y (s.kept a y h (no_mk n)) hd (s.out a y h hd n)
theorem Step.fresh (s0 : Sub K G R H) (s : Step K G R H R' H') {a : Addr} (h : H' a = Option.none) : H a = Option.none := by
  cases e : H a with
  | none => rfl
  | some y =>
    cases e1 : R a with
    | none =>
      rw [s.kept a y e (no_mk e1)] at h
      cases h
    | some x =>
      have := s.sub.none h
      rw [s.same a x e1] at this
      cases this
theorem Rep.sub (r : Rep K G B env σ R H) : Sub K G R H := r.step.sub
/-- a step of a call that knows nothing of the slots' own objects -/
theorem Rep.go (r : Rep K G B env σ R H) (s : Step K G R H R' H') : Rep K G B env σ R' H' where
  sub0 := r.sub0
  tab := r.tab
  step := r.step.trans s
  len := r.len
  dist := r.dist
  pr := fun q hq => by
    obtain ⟨h1, h2, h3, h4⟩ := r.pr q hq
    exact ⟨h1, s.out _ _ h3 (hard_ld h4.1) h2, s.kept _ _ h3 (no_mk h2), h4⟩
  slots := fun i sl h => by
    have := r.slots i sl h
    cases sl with
    | u => trivial
    | p d =>
      obtain ⟨v, h1, h2⟩ := this
      exact ⟨v, h1, h2.same s.same⟩
    | mu d =>
      obtain ⟨a, y, h1, h2, h3, h4, h5⟩ := this
      exact ⟨a, y, h1, h2, s.out a y h4 (hard_ld (mat_ld h5)) h3, s.kept a y h4 (no_mk h3), h5.same s.same⟩
    | hp gs =>
      refine fun q hq => ?_
      obtain ⟨h2, h3, y, h4, h5⟩ := this q hq
      exact ⟨h2, s.out _ y h4 (hard_ld (mat_ld h5)) h3, y, s.kept _ y h4 (no_mk h3), h5.same s.same⟩
theorem Rep.fresh (r : Rep K G B env σ R H) {a : Addr} (h : H a = none) : B.H a = none := r.step.fresh r.sub0 h
/-- what a slot owns -/
theorem Rep.own (r : Rep K G B env σ R H) {j : Nat} {sl : Slot} {a : Addr} (h : env[j]? = some sl) (o : Slot.owns σ[j]? a sl) : B.H a = none ∧ R a = none ∧ ∃ y, H a = some y ∧ isLD y = true := by
  have := r.slots j sl h
  cases sl with
  | u => exact o.elim
  | p d => exact o.elim
  | mu d =>
    obtain ⟨b, y, h1, h2, h3, h4, h5⟩ := this
    have o' : σ[j]? = some (some (.ref a)) := o
    rw [h1] at o'
    cases o'
    exact ⟨h2, h3, y, h4, mat_ld h5⟩
  | hp gs =>
    obtain ⟨q, hq, e⟩ := List.mem_map.mp (show a ∈ gs.map (·.1) from o)
    obtain ⟨h2, h3, y, h4, h5⟩ := this q hq
    subst e
    exact ⟨h2, h3, y, h4, mat_ld h5⟩
theorem Rep.noslot (r : Rep K G B env σ R H) {a : Addr} (h : H a = none) : NoOwn env σ a := fun j sl q o => by
  obtain ⟨_, _, y, e, _⟩ := r.own q o
  rw [h] at e
  cases e
theorem Rep.nopr (r : Rep K G B env σ R H) {a : Addr} (h : H a = none) : ∀ q ∈ B.pr, q.1 ≠ a := fun q hq z => by
  have h3 := (r.pr q hq).2.2.1
  rw [z, h] at h3
  cases h3
/-- a new object that is nobody's yet -/
theorem sub_new (s : Sub K G R H) {a : Addr} {o : HO} (h : H a = none) : Sub K G R (upd H a o) := fun b x e => by
  have hb : b ≠ a := fun z => by
    subst z
    rw [s.none h] at e
    cases e
  exact subAt_go (s b x e) (upd_ne hb) (hard_new h)
theorem step_new (s : Sub K G R H) {a : Addr} {o : HO} (h : H a = none) : Step K G R H R (upd H a o) where
  same := Same.refl R
  sub := sub_new s h
  kept := fun b y e _ => by
    rw [upd_ne (ne_of_none e h)]
    exact e
  out := fun _ _ _ _ n => n
theorem Rep.new (r : Rep K G B env σ R H) {a : Addr} {o : HO} (h : H a = none) : Rep K G B env σ R (upd H a o) := r.go (step_new r.sub h)
/-- what was an own object becomes plain, or is marked -/
theorem sub_put (s : Sub K G R H) {a : Addr} {o : HO} (h : SubAt K G H a o) : Sub K G (upd R a o) H := fun b x e => by
  by_cases hb : b = a
  · subst hb
    rw [upd_same] at e
    cases e
    exact h
  · rw [upd_ne hb] at e
    exact s b x e
theorem same_take {a : Addr} {o : HO} (h : R a = none) : Same R (upd R a o) := fun b x e => by
  rw [upd_ne (ne_of_none e h)]
  exact e
theorem mat_mk {y : HO} {d : D} (h : MAt K R y d) : isMk y = false := ld_mk (mat_ld h)
theorem Rep.put (r : Rep K G B env σ R H) {a : Addr} {o : HO} (h : SubAt K G H a o) (h0 : B.H a = none) (hn : R a = none) (hs : NoOwn env σ a) (hp : ∀ q ∈ B.pr, q.1 ≠ a) : Rep K G B env σ (upd R a o) H where
  sub0 := r.sub0
  tab := r.tab
  step := {
    same := r.step.same.trans (same_take hn)
    sub := sub_put r.sub h
    kept := r.step.kept
    out := fun b y e hd n => by
      rw [upd_ne (ne_of_none e h0)]
      exact r.step.out b y e hd n }
  len := r.len
  dist := r.dist
  pr := fun q hq => by
    obtain ⟨h1, h2, h3, h4⟩ := r.pr q hq
    exact ⟨h1, by rw [upd_ne (hp q hq)]; exact h2, h3, h4⟩
  slots := fun i sl q => by
    have := r.slots i sl q
    cases sl with
    | u => trivial
    | p d =>
      obtain ⟨v, h1, h2⟩ := this
      exact ⟨v, h1, h2.same (same_take hn)⟩
    | mu d =>
      obtain ⟨b, y, h1, h2, h3, h4, h5⟩ := this
      have hb : b ≠ a := fun z => by
        subst z
        exact hs i _ q h1
      exact ⟨b, y, h1, h2, by rw [upd_ne hb]; exact h3, h4, h5.same (same_take hn)⟩
    | hp gs =>
      refine fun g hg => ?_
      obtain ⟨h2, h3, y, h4, h5⟩ := this g hg
      have hb : g.1 ≠ a := fun z => hs i _ q (show a ∈ gs.map (·.1) from List.mem_map.mpr ⟨g, hg, z⟩)
      exact ⟨h2, by rw [upd_ne hb]; exact h3, y, h4, h5.same (same_take hn)⟩
theorem Rep.take (r : Rep K G B env σ R H) {a : Addr} {o : HO} (h : H a = some o) (hx : isMk o = false) (h0 : B.H a = none) (hn : R a = none) (hs : NoOwn env σ a) (hp : ∀ q ∈ B.pr, q.1 ≠ a) : Rep K G B env σ (upd R a o) H := r.put (subAt_of h hx) h0 hn hs hp
theorem At.of_mat {a : Addr} {y : HO} {d : D} (h : MAt K R y d) (hn : R a = none) : At K (upd R a y) (.ref a) d := by
  cases y <;> cases d <;> first
    | exact h.elim
    | exact .lst upd_same (AtL.same (same_take hn) h)
    | exact .dct upd_same (AtD.same (same_take hn) h)
    | (have h : _ = _ := h; subst h; exact .dtt upd_same)
    | (obtain ⟨h1, h2, h3, h4⟩ := h; subst h1; subst h2; exact .ins upd_same h3 (AtL.same (same_take hn) h4))
theorem At.of_matS {a : Addr} {y : HO} {d : D} (h : MAt K R y d) (e : R' a = some y) (s : Same R R') : At K R' (.ref a) d := by
  cases y <;> cases d <;> first
    | exact h.elim
    | exact .lst e (AtL.same s h)
    | exact .dct e (AtD.same s h)
    | (have h : _ = _ := h; subst h; exact .dtt e)
    | (obtain ⟨h1, h2, h3, h4⟩ := h; subst h1; subst h2; exact .ins e h3 (AtL.same s h4))
theorem VAt.go {v : V} {x : XV} (h : VAt K B env σ R H v x) (hx : x.isO = false) (s : Same R R') : VAt K B env σ R' H' v x := by
  cases x with
  | p d => exact At.same s h
  | o d => cases hx
  | m i d => exact h
theorem VAtL.go : ∀ {vs : List V} {xs : List XV}, VAtL K B env σ R H vs xs → (∀ x ∈ xs, x.isO = false) → Same R R' → VAtL K B env σ R' H' vs xs
  | [], [], _, _, _ => trivial
  | [], _ :: _, h, _, _ => h.elim
  | _ :: _, [], h, _, _ => h.elim
  | _ :: _, _ :: _, h, hx, s => ⟨h.1.go (hx _ List.mem_cons_self) s, VAtL.go h.2 (fun x q => hx x (List.mem_cons_of_mem _ q)) s⟩
/-- a value is given away -/
theorem VAt.fz {v : V} {x : XV} {k : XV → Prop} (r : Rep K G B env σ R H) (h : VAt K B env σ R H v x) (q : x.fz k) : ∃ R' x', Rep K G B env σ R' H ∧ Same R R' ∧ VAt K B env σ R' H v x' ∧ x'.isO = false ∧ k x' := by
  cases x with
  | p d => exact ⟨R, .p d, r, Same.refl R, h, rfl, q⟩
  | m i d => exact ⟨R, .m i d, r, Same.refl R, h, rfl, q⟩
  | o d =>
    obtain ⟨a, y, rfl, h0, hn, hy, hm, hs, hp⟩ := h
    exact ⟨upd R a y, .p d, r.take hy (mat_mk hm) h0 hn hs hp, same_take hn, At.of_mat hm hn, rfl, q⟩
theorem fz_p {d : D} {k : XV → Prop} (q : k (.p d)) : XV.fz (.p d) k := q
theorem fz_o {d : D} {k : XV → Prop} (q : k (.p d)) : XV.fz (.o d) k := q
theorem fz_m {i : Nat} {d : D} {k : XV → Prop} (q : k (.m i d)) : XV.fz (.m i d) k := q
variable {Q : XV → Prop}
theorem ve_var {i : Nat} {d : D} (h : env[i]? = some (.p d)) (q : Q (.p d)) : VE K G B (tVar i) env Q := fun σ R H r Qh k => by
  obtain ⟨v, h1, h2⟩ := r.slots i _ h
  exact ⟨v, h1, k v R H (.p d) r (Same.refl R) h2 q⟩
theorem ve_varm {i : Nat} {d : D} (h : env[i]? = some (.mu d)) (q : Q (.m i d)) : VE K G B (tVar i) env Q := fun σ R H r Qh k => by
  obtain ⟨a, y, h1, _⟩ := r.slots i _ h
  exact ⟨_, h1, k _ R H (.m i d) r (Same.refl R) ⟨h, h1⟩ q⟩
theorem ve_int {i : Int} (q : Q (.p (.int i))) : VE K G B (tC (.int i)) env Q := fun σ R H r Qh k => k _ R H (.p (.int i)) r (Same.refl R) (At.int i) q
theorem ve_str {i : Str} (q : Q (.p (.str i))) : VE K G B (tC (.str i)) env Q := fun σ R H r Qh k => k _ R H (.p (.str i)) r (Same.refl R) (At.str i) q
theorem ve_bl {i : Bool} (q : Q (.p (.bl i))) : VE K G B (tC (.bl i)) env Q := fun σ R H r Qh k => k _ R H (.p (.bl i)) r (Same.refl R) (At.bl i) q
theorem ve_non (q : Q (.p .non)) : VE K G B (tC .non) env Q := fun σ R H r Qh k => k _ R H (.p .non) r (Same.refl R) At.non q
theorem ve_op {r : R2} {ta tb : TE} (h : VE K G B ta env fun x => x.fz fun x => VE K G B tb env fun y => y.fz fun y => VO K G B r env x y Q) : VE K G B (tOp r ta tb) env Q := fun σ R H rp Qh k =>
  h σ R H rp _ fun v R1 H1 x r1 s1 hv q => by
    obtain ⟨R2, x', r2, s2, hv2, ho, q2⟩ := hv.fz r1 q
    refine q2 σ R2 H1 r2 _ fun w R3 H3 y r3 s3 hw q3 => ?_
    obtain ⟨R4, y', r4, s4, hw4, ho4, q4⟩ := hw.fz r3 q3
    exact q4 σ R4 H3 r4 v w (hv2.go ho (s3.trans s4)) hw4 Qh fun z R5 H5 x5 r5 s5 hz q5 => k z R5 H5 x5 r5 (((((s1.trans s2).trans s3).trans s4)).trans s5) hz q5
theorem ve_un {r : V → Hp → VK → Prop} {ta : TE} (h : VE K G B ta env fun x => x.fz fun x => VU K G B r env x Q) : VE K G B (tUn r ta) env Q := fun σ R H rp Qh k =>
  h σ R H rp _ fun v R1 H1 x r1 s1 hv q => by
    obtain ⟨R2, x', r2, s2, hv2, ho, q2⟩ := hv.fz r1 q
    exact q2 σ R2 H1 r2 v hv2 Qh fun z R5 H5 x5 r5 s5 hz q5 => k z R5 H5 x5 r5 ((s1.trans s2).trans s5) hz q5
theorem va_nil {Q : List XV → Prop} (q : Q []) : VA K G B tNil env Q := fun σ R H rp Qh k => k [] R H [] rp (Same.refl R) trivial (fun _ h => by cases h) q
theorem va_cons {Q : List XV → Prop} {ta : TE} {tr : TA} (h : VE K G B ta env fun x => x.fz fun x => VA K G B tr env fun xs => Q (x :: xs)) : VA K G B (tCons ta tr) env Q := fun σ R H rp Qh k =>
  h σ R H rp _ fun v R1 H1 x r1 s1 hv q => by
    obtain ⟨R2, x', r2, s2, hv2, ho, q2⟩ := hv.fz r1 q
    refine q2 σ R2 H1 r2 _ fun vs R3 H3 xs r3 s3 hvs hx q3 => ?_
    exact k (v :: vs) R3 H3 (x' :: xs) r3 ((s1.trans s2).trans s3) ⟨hv2.go ho s3, hvs⟩ (fun y hy => by
      rcases List.mem_cons.mp hy with rfl | hy
      · exact ho
      · exact hx y hy) q3
theorem ve_cb {r : List V → Hp → VK → Prop} {t : TA} (h : VA K G B t env fun xs => VC K G B r env xs Q) : VE K G B (tCB r t) env Q := fun σ R H rp Qh k =>
  h σ R H rp _ fun vs R1 H1 xs r1 s1 hv _ q => q σ R1 H1 r1 vs hv Qh fun z R5 H5 x5 r5 s5 hz q5 => k z R5 H5 x5 r5 (s1.trans s5) hz q5
/-- the table is known -/
def TabIn (G : Gs) (R : Hp) : Prop := ∀ P, G.tab = some P → ∃ ps, R P = some (.tbl ps)
theorem TabIn.go (t : TabIn G R) (s : Same R R') : TabIn G R' := fun P e => by
  obtain ⟨ps, h⟩ := t P e
  exact ⟨ps, s P _ h⟩
theorem Rep.tab' (r : Rep K G B env σ R H) : TabIn G R := TabIn.go (R := B.R) r.tab r.step.same
/-- the promise of a def: args and result are plain data; fr: the result is a new object; rs: the classes that may be raised -/
def SpA (K : PySem.W.Frag) (G : Gs) {α : Type} (fr : Bool) (args : α → List D) (pre : α → Prop) (post : α → D → Prop) (rs : α → Addr → Prop) : Sp := fun vs H Q E =>
  ∃ R x, (Sub K G R H ∧ TabIn G R) ∧ AtL K R vs (args x) ∧ pre x ∧
    (∀ v R' H' d, Step K G R H R' H' → At K R' v d → (fr = true → ∃ a, v = .ref a ∧ H a = none ∧ ∀ o u, R' a ≠ some (.frz o u)) → post x d → Q v H') ∧
    (∀ C R' H', Step K G R H R' H' → rs x C → E (.ref C) none H')
abbrev noRs {α : Type} : α → Addr → Prop := fun _ _ => False
def XV.plain : XV → Option D
  | .p d => some d
  | _ => none
theorem atL_of : ∀ {vs : List V} {ds : List D}, VAtL K B env σ R H vs (ds.map XV.p) → AtL K R vs ds
  | [], [], _ => .nil
  | [], _ :: _, h => h.elim
  | _ :: _, [], h => h.elim
  | _ :: _, _ :: _, h => .cons h.1 (atL_of h.2)
/-- what the def may raise, goes on -/
def Lets (K : PySem.W.Frag) (G : Gs) (B : Bs) (E : XK) (X : Addr → Prop) : Prop := ∀ C R' H', Step K G B.R B.H R' H' → X C → E (.ref C) none H'
theorem lets_none {E : XK} : Lets K G B E fun _ => False := fun _ _ _ _ h => h.elim
theorem ve_call {α : Type} {fr : Bool} {args : α → List D} {pre : α → Prop} {post : α → D → Prop} {rs : α → Addr → Prop} {E : XK} {X : Addr → Prop} {t : TA} (L : Lets K G B E X)
    (h : VA K G B t env fun xs => ∃ x, xs = (args x).map XV.p ∧ pre x ∧ (∀ C, rs x C → X C) ∧ ∀ d, post x d → Q (.p d)) : VE K G B (tCall (SpA K G fr args pre post rs) [] E t) env Q := fun σ R H rp Qh k =>
  h σ R H rp _ fun vs R1 H1 xs r1 s1 hv _ ⟨x, e, hp, hr, q⟩ => by
    subst e
    rw [List.append_nil]
    exact ⟨R1, x, ⟨r1.sub, r1.tab'⟩, atL_of hv, hp, fun v R' H' d s ha _ hd => k v R' H' (.p d) (r1.go s) (s1.trans s.same) ha (q d hd), fun C R' H' s hc => L C R' H' (r1.step.trans s) (hr C hc)⟩
/-- no list or dict within -/
def D.deepT : Nat → D → Bool
  | 0, _ => false
  | n + 1, d => match d with
    | .tup ds => ds.all (D.deepT n)
    | .lst _ => false
    | .ro _ => false
    | .dct _ => false
    | .lkd _ _ => false
    | .dtt _ => false
    | .ins _ _ _ => false
    | _ => true
def D.flat (d : D) : Bool := match d with
  | .lst ds => ds.all (D.deepT 9)
  | .dct kvs => kvs.all fun p => D.deepT 9 p.2
  | d => D.deepT 9 d
def without (R : Hp) (a : Addr) : Hp := fun b => if b = a then none else R b
theorem without_ne {a b : Addr} (h : b ≠ a) : without R a b = R b := by unfold without; rw [if_neg h]
theorem without_same {a : Addr} : without R a a = none := by unfold without; rw [if_pos rfl]
theorem at_without {a : Addr} {y : HO} (ha : R a = some y) (hy : isLD y = true) : ∀ (n : Nat) {v : V} {d : D}, D.deepT n d = true → At K R v d → At K (without R a) v d := by
  intro n
  induction n with
  | zero => intro v d h _; cases h
  | succ n ih =>
    intro v d h t
    cases t with
    | non => exact .non
    | bl b => exact .bl b
    | int i => exact .int i
    | str x => exact .str x
    | @tup b xs ds hs ht =>
      refine .tup (xs := xs) ?_ ?_
      · rcases hs with (hs | ⟨o, hs⟩) | hs
        · refine .inl (.inl ?_)
          rw [without_ne]
          · exact hs
          · rintro rfl
            rw [ha] at hs
            cases hs
            cases hy
        · refine .inl (.inr ⟨o, ?_⟩)
          rw [without_ne]
          · exact hs
          · rintro rfl
            rw [ha] at hs
            cases hs
            cases hy
        · exact .inr hs
      · have hd : ∀ d ∈ ds, D.deepT n d = true := List.all_eq_true.mp h
        exact ht.imp fun v d hm => ih (hd d hm)
    | lst _ _ => cases h
    | ro _ _ => cases h
    | dct _ _ => cases h
    | lkd _ _ => cases h
    | dtt _ => cases h
    | ins _ _ _ => cases h
    | @key b ks hs =>
      refine .key ?_
      rw [without_ne]
      · exact hs
      · rintro rfl
        rw [ha] at hs
        cases hs
        cases hy
    | ty n => exact .ty n
    | @st b φ hs =>
      refine .st (φ := φ) ?_
      rw [without_ne]
      · exact hs
      · rintro rfl
        rw [ha] at hs
        cases hs
        cases hy
    | ptr b => exact .ptr b
    | @cm b i j hs =>
      refine .cm (i := i) (j := j) ?_
      rw [without_ne]
      · exact hs
      · rintro rfl
        rw [ha] at hs
        cases hs
        cases hy
theorem AtL.without {a : Addr} {y : HO} (ha : R a = some y) (hy : isLD y = true) {n : Nat} {vs : List V} {ds : List D} (h : ds.all (D.deepT n) = true) (t : AtL K R vs ds) : AtL K (without R a) vs ds :=
  t.imp fun v d hm => at_without ha hy n (List.all_eq_true.mp h d hm)
theorem AtD.without {a : Addr} {y : HO} (ha : R a = some y) (hy : isLD y = true) {n : Nat} {vs : List (Key × V)} {ds : List (Key × D)} (h : (ds.all fun p => D.deepT n p.2) = true) (t : AtD K R vs ds) : AtD K (without R a) vs ds :=
  t.imp fun v d hm => at_without ha hy n (by
    obtain ⟨p, hp, rfl⟩ := List.mem_map.mp hm
    exact List.all_eq_true.mp h p hp)
/-- a step of a call whose result is a new object that is kept apart -/
theorem Rep.goW (r : Rep K G B env σ R H) (s : Step K G R H R' H') {a : Addr} (h : H a = none) : Rep K G B env σ (without R' a) H' where
  sub0 := r.sub0
  tab := r.tab
  step := {
    same := fun b x e => by
      rw [without_ne]
      · exact (r.step.trans s).same b x e
      · rintro rfl
        rw [r.sub0.none (r.fresh h)] at e
        cases e
    sub := fun b x e => by
      by_cases hb : b = a
      · subst hb
        rw [without_same] at e
        cases e
      · rw [without_ne hb] at e
        exact s.sub b x e
    kept := (r.step.trans s).kept
    out := fun b y e hd n => by
      by_cases hb : b = a
      · subst hb
        exact without_same
      · rw [without_ne hb]
        exact (r.step.trans s).out b y e hd n }
  len := r.len
  dist := r.dist
  pr := fun q hq => by
    obtain ⟨h1, h2, h3, h4⟩ := (r.go s).pr q hq
    exact ⟨h1, by rw [without_ne (r.nopr h q hq)]; exact h2, h3, h4⟩
  slots := fun i sl q => by
    have same : Same R (without R' a) := fun b x e => by
      rw [without_ne]
      · exact s.same b x e
      · rintro rfl
        rw [r.sub.none h] at e
        cases e
    have := r.slots i sl q
    cases sl with
    | u => trivial
    | p d =>
      obtain ⟨v, h1, h2⟩ := this
      exact ⟨v, h1, h2.same same⟩
    | mu d =>
      obtain ⟨b, y, h1, h2, h3, h4, h5⟩ := this
      have hb : b ≠ a := ne_of_none h4 h
      exact ⟨b, y, h1, h2, by rw [without_ne hb]; exact s.out b y h4 (hard_ld (mat_ld h5)) h3, s.kept b y h4 (no_mk h3), h5.same same⟩
    | hp gs =>
      refine fun g hg => ?_
      obtain ⟨h2, h3, y, h4, h5⟩ := this g hg
      have hb : g.1 ≠ a := ne_of_none h4 h
      exact ⟨h2, by rw [without_ne hb]; exact s.out _ y h4 (hard_ld (mat_ld h5)) h3, y, s.kept _ y h4 (no_mk h3), h5.same same⟩
theorem Rep.sameW (r : Rep K G B env σ R H) (s : Step K G R H R' H') {a : Addr} (h : H a = none) : Same R (without R' a) := fun b x e => by
  rw [without_ne]
  · exact s.same b x e
  · rintro rfl
    rw [r.sub.none h] at e
    cases e
/-- a call whose result is a new list or dict of plain things, kept as one's own -/
theorem ve_callO {α : Type} {args : α → List D} {pre : α → Prop} {post : α → D → Prop} {rs : α → Addr → Prop} {E : XK} {X : Addr → Prop} {t : TA} (L : Lets K G B E X)
    (h : VA K G B t env fun xs => ∃ x, xs = (args x).map XV.p ∧ pre x ∧ (∀ C, rs x C → X C) ∧ ∀ d, post x d → D.flat d = true ∧ ((∃ ds, d = .lst ds) ∨ ∃ ds, d = .dct ds) ∧ Q (.o d)) : VE K G B (tCall (SpA K G true args pre post rs) [] E t) env Q := fun σ R H rp Qh k =>
  h σ R H rp _ fun vs R1 H1 xs r1 s1 hv _ ⟨x, e, hp, hr, q⟩ => by
    subst e
    rw [List.append_nil]
    refine ⟨R1, x, ⟨r1.sub, r1.tab'⟩, atL_of hv, hp, fun v R' H' d s ha hf hd => ?_, fun C R' H' s hc => L C R' H' (r1.step.trans s) (hr C hc)⟩
    obtain ⟨a, rfl, hn, hz⟩ := hf rfl
    obtain ⟨fl, ld, q⟩ := q d hd
    refine k (.ref a) (VL.without R' a) H' (.o d) (r1.goW s hn) (s1.trans (r1.sameW s hn)) ?_ q
    rcases ld with ⟨ds, rfl⟩ | ⟨ds, rfl⟩
    · cases ha with
      | lst h1 h2 => exact ⟨a, _, rfl, r1.fresh hn, without_same, s.sub.of h1 rfl, AtL.without h1 rfl fl h2, r1.noslot hn, r1.nopr hn⟩
    · cases ha with
      | @dct _ xs _ h1 h2 => exact ⟨a, _, rfl, r1.fresh hn, without_same, s.sub.of h1 rfl, AtD.without h1 rfl fl h2, r1.noslot hn, r1.nopr hn⟩
theorem Rep.set (r : Rep K G B env σ R H) {i : Nat} {sl : Slot} {v : V} (hi : i < env.length) (h : SlotAt K B R H (σ.set i (some v)) i sl)
    (hm : ∀ a, Slot.owns (some (some v)) a sl → NoOwn env σ a ∧ ∀ q ∈ B.pr, q.1 ≠ a) : Rep K G B (env.set i sl) (σ.set i (some v)) R H where
  sub0 := r.sub0
  tab := r.tab
  step := r.step
  len := by rw [List.length_set, List.length_set]; exact r.len
  slots := fun j s q => by
    by_cases e : i = j
    · subst e
      rw [List.getElem?_set_self hi] at q
      cases q
      exact h
    · rw [List.getElem?_set_ne e] at q
      have := r.slots j s q
      cases s with
      | u => trivial
      | p d =>
        obtain ⟨w, h1, h2⟩ := this
        exact ⟨w, by rw [List.getElem?_set_ne e]; exact h1, h2⟩
      | mu d =>
        obtain ⟨a, y, h1, h2⟩ := this
        exact ⟨a, y, by rw [List.getElem?_set_ne e]; exact h1, h2⟩
      | hp gs => exact this
  dist := fun j k sj sk a hjk hj hk => by
    have hs : i < σ.length := by rw [r.len]; exact hi
    by_cases ej : i = j
    · subst ej
      rw [List.getElem?_set_self hi] at hj
      have ek : ¬ i = k := hjk
      rw [List.getElem?_set_ne ek] at hk
      rw [List.getElem?_set_self hs, List.getElem?_set_ne ek]
      cases hj
      exact fun o => (hm a o).1 k _ hk
    · rw [List.getElem?_set_ne ej] at hj
      by_cases ek : i = k
      · subst ek
        rw [List.getElem?_set_self hi] at hk
        rw [List.getElem?_set_self hs, List.getElem?_set_ne ej]
        cases hk
        exact fun o o' => (hm a o').1 j _ hj o
      · rw [List.getElem?_set_ne ek] at hk
        rw [List.getElem?_set_ne ek, List.getElem?_set_ne ej]
        exact r.dist j k sj sk a hjk hj hk
  pr := fun q hq => by
    obtain ⟨h1, h2, h3, h0, h4⟩ := r.pr q hq
    refine ⟨h1, h2, h3, h0, fun j e hj => ?_⟩
    have hs : i < σ.length := by rw [r.len]; exact hi
    by_cases ej : i = j
    · subst ej
      rw [List.getElem?_set_self hi] at hj
      cases hj
      rw [List.getElem?_set_self hs]
      exact fun z => (hm _ z).2 q hq rfl
    · rw [List.getElem?_set_ne ej] at hj ⊢
      exact h4 j e hj
theorem noOwn_u {s : Option (Option V)} {P : Addr → Prop} : ∀ a, Slot.owns s a .u → P a := fun _ h => h.elim
theorem noOwn_p {s : Option (Option V)} {d : D} {P : Addr → Prop} : ∀ a, Slot.owns s a (.p d) → P a := fun _ h => h.elim
theorem Rep.ilt (r : Rep K G B env σ R H) {i : Nat} (hi : i < env.length) : i < σ.length := by rw [r.len]; exact hi
variable {nx : Vn → Prop} {rt : XV → Prop} {bk ct : Vn → Prop} {Qe : Vn → Prop}
theorem vg_p {i : Nat} {d : D} (hi : i < env.length) (q : Qe (env.set i (.p d))) : VG K G B (gName i) (.p d) env Qe := fun σ R H r v hv Qh k =>
  k _ _ R H (r.set (sl := .p d) hi ⟨v, List.getElem?_set_self (r.ilt hi), hv⟩ noOwn_p) (Same.refl R) q
theorem vg_o {i : Nat} {d : D} (hi : i < env.length) (q : Qe (env.set i (.mu d))) : VG K G B (gName i) (.o d) env Qe := fun σ R H r v hv Qh k => by
  obtain ⟨a, y, rfl, h1, h2, h3, h4, h5, h6⟩ := hv
  exact k _ _ R H (r.set (sl := .mu d) hi ⟨a, y, List.getElem?_set_self (r.ilt hi), h1, h2, h3, h4⟩ fun b z => by
    have z' : (some (some (V.ref a)) : Option (Option V)) = some (some (.ref b)) := z
    cases z'
    exact ⟨h5, h6⟩) (Same.refl R) q
def VGs (K : PySem.W.Frag) (G : Gs) (B : Bs) (g : TGs) (ds : List D) (env : Vn) (Q : Vn → Prop) : Prop := ∀ σ R H, Rep K G B env σ R H → ∀ vs, AtL K R vs ds → ∀ Qh : L2.St → Hp → Prop,
  (∀ env' σ' R' H', Rep K G B env' σ' R' H' → Same R R' → Q env' → Qh σ' H') → g vs σ H Qh
theorem vgs_nil (q : Qe env) : VGs K G B gNil [] env Qe := fun σ R H r vs hv Qh k => by
  cases hv
  exact ⟨rfl, k _ _ _ _ r (Same.refl R) q⟩
theorem vgs_cons {t : TG} {u : TGs} {d : D} {ds : List D} (h : VG K G B t (.p d) env fun e => VGs K G B u ds e Qe) : VGs K G B (gCons t u) (d :: ds) env Qe := fun σ R H r vs hv Qh k => by
  cases hv with
  | @cons v vs _ _ h1 h2 =>
    exact ⟨v, vs, rfl, h σ R H r v h1 _ fun e' σ' R' H' r' s' q => q σ' R' H' r' vs (h2.same s') Qh fun e2 σ2 R2 H2 r2 s2 q2 => k e2 σ2 R2 H2 r2 (s'.trans s2) q2⟩
theorem vg_tup {n : Nat} {t : TGs} {ds : List D} (hn : ds.length = n) (h : VGs K G B t ds env Qe) : VG K G B (gTup K n t) (.p (.tup ds)) env Qe := fun σ R H r v hv Qh k => by
  cases hv with
  | @tup a xs _ h1 h2 => exact ⟨a, xs, rfl, r.sub.t h1, by rw [h2.len]; exact hn, h σ R H r xs h2 Qh k⟩
theorem vg_lst {n : Nat} {t : TGs} {ds : List D} (hn : ds.length = n) (h : VGs K G B t ds env Qe) : VG K G B (gUnl K n t) (.p (.lst ds)) env Qe := fun σ R H r v hv Qh k => by
  cases hv with
  | @lst a xs _ h1 h2 => exact ⟨a, xs, rfl, r.sub.l (.inl (.inl h1)), by rw [h2.len]; exact hn, h σ R H r xs h2 Qh k⟩
theorem vs_next (q : nx env) : VS K G B tNext env nx rt bk ct := fun σ R H r Z kn _ _ _ => kn env σ R H r (Same.refl R) q
theorem vs_break (q : bk env) : VS K G B tBreak env nx rt bk ct := fun σ R H r Z _ _ kb _ => kb env σ R H r (Same.refl R) q
theorem vs_cont (q : ct env) : VS K G B tCont env nx rt bk ct := fun σ R H r Z _ _ _ kc => kc env σ R H r (Same.refl R) q
theorem vs_seq {t u : TS} (h : VS K G B t env (fun e => VS K G B u e nx rt bk ct) rt bk ct) : VS K G B (tSeq t u) env nx rt bk ct := fun σ R H r Z kn kr kb kc =>
  h σ R H r { Z with nx := u Z } (fun e' σ' R' H' r' s' q => q σ' R' H' r' Z (fun e2 σ2 R2 H2 r2 s2 q2 => kn e2 σ2 R2 H2 r2 (s'.trans s2) q2) (fun v e2 σ2 R2 H2 x r2 s2 hv q2 => kr v e2 σ2 R2 H2 x r2 (s'.trans s2) hv q2)
    (fun e2 σ2 R2 H2 r2 s2 q2 => kb e2 σ2 R2 H2 r2 (s'.trans s2) q2) (fun e2 σ2 R2 H2 r2 s2 q2 => kc e2 σ2 R2 H2 r2 (s'.trans s2) q2)) kr kb kc
theorem vs_ret {te : TE} (h : VE K G B te env rt) : VS K G B (tRet te) env nx rt bk ct := fun σ R H r Z _ kr _ _ => h σ R H r _ fun v R' H' x r' s' hv q => kr v env σ R' H' x r' s' hv q
theorem vs_retN (q : rt (.p .non)) : VS K G B tRetN env nx rt bk ct := fun σ R H r Z _ kr _ _ => kr _ env σ R H (.p .non) r (Same.refl R) At.non q
theorem vs_expr {te : TE} (h : VE K G B te env fun _ => nx env) : VS K G B (tDrop te) env nx rt bk ct := fun σ R H r Z kn _ _ _ => h σ R H r _ fun v R' H' x r' s' hv q => kn env σ R' H' r' s' q
theorem vs_if {c : TT} {t u : TS} (h : VT K G B c env fun b => (b = true → VS K G B t env nx rt bk ct) ∧ (b = false → VS K G B u env nx rt bk ct)) : VS K G B (tIfS c t u) env nx rt bk ct := fun σ R H r Z kn kr kb kc =>
  h σ R H r _ fun b R' H' r' s' q => by
    have kn' : ∀ env' σ' R'' H', Rep K G B env' σ' R'' H' → Same R' R'' → nx env' → Z.nx σ' H' := fun e σ2 R2 H2 r2 s2 q2 => kn e σ2 R2 H2 r2 (s'.trans s2) q2
    have kr' : ∀ v env' σ' R'' H' x, Rep K G B env' σ' R'' H' → Same R' R'' → VAt K B env' σ' R'' H' v x → rt x → Z.rt v H' := fun v e σ2 R2 H2 x r2 s2 hv q2 => kr v e σ2 R2 H2 x r2 (s'.trans s2) hv q2
    have kb' : ∀ env' σ' R'' H', Rep K G B env' σ' R'' H' → Same R' R'' → bk env' → Z.bk σ' H' := fun e σ2 R2 H2 r2 s2 q2 => kb e σ2 R2 H2 r2 (s'.trans s2) q2
    have kc' : ∀ env' σ' R'' H', Rep K G B env' σ' R'' H' → Same R' R'' → ct env' → Z.ct σ' H' := fun e σ2 R2 H2 r2 s2 q2 => kc e σ2 R2 H2 r2 (s'.trans s2) q2
    cases b with
    | true =>
      show t Z σ H'
      exact q.1 rfl σ R' H' r' Z kn' kr' kb' kc'
    | false =>
      show u Z σ H'
      exact q.2 rfl σ R' H' r' Z kn' kr' kb' kc'
theorem vs_asg {te : TE} {g : TG} (h : VE K G B te env fun x => VG K G B g x env nx) : VS K G B (tAsg te g) env nx rt bk ct := fun σ R H r Z kn _ _ _ =>
  h σ R H r _ fun v R' H' x r' s' hv q => q σ R' H' r' v hv _ fun e2 σ2 R2 H2 r2 s2 q2 => kn e2 σ2 R2 H2 r2 (s'.trans s2) q2
theorem vs_aug {i : Nat} {te : TE} {ti : TIp} {d : D} (hd : env[i]? = some (.p d)) (h : VE K G B te env fun y => y.fz fun y => VO K G B ti env (.p d) y fun z => VG K G B (gName i) z env nx) : VS K G B (tAug i te ti) env nx rt bk ct := fun σ R H r Z kn _ _ _ => by
  obtain ⟨x, h1, h2⟩ := r.slots i _ hd
  refine ⟨x, h1, h σ R H r _ fun w R1 H1 y r1 s1 hw q1 => ?_⟩
  obtain ⟨R2, y', r2, s2, hw2, ho, q2⟩ := hw.fz r1 q1
  exact q2 σ R2 H1 r2 x w (At.same (s1.trans s2) h2) hw2 _ fun z R3 H3 x3 r3 s3 hz q3 => q3 σ R3 H3 r3 z hz _ fun e4 σ4 R4 H4 r4 s4 q4 => kn e4 σ4 R4 H4 r4 (((s1.trans s2).trans s3).trans s4) q4
variable {Qb : Bool → Prop}
theorem vt_B {te : TE} (h : VE K G B te env fun x => ∃ b, x = .p (.bl b) ∧ Qb b) : VT K G B (tB te) env Qb := fun σ R H r Qh k => h σ R H r _ fun v R' H' x r' s' hv ⟨b, e, q⟩ => by
  subst e
  cases hv
  exact ⟨b, rfl, k b R' H' r' s' q⟩
theorem vt_test {te : TE} (h : VE K G B te env fun x => ∃ b, x = .p (.bl b) ∧ Qb b) : VT K G B (tTest te) env Qb := fun σ R H r Qh k => h σ R H r _ fun v R' H' x r' s' hv ⟨b, e, q⟩ => by
  subst e
  cases hv
  exact ⟨b, rfl, k b R' H' r' s' q⟩
theorem vt_and {t u : TT} (h : VT K G B t env fun b => (b = true → VT K G B u env Qb) ∧ (b = false → Qb false)) : VT K G B (tAnd t u) env Qb := fun σ R H r Qh k => h σ R H r _ fun b R' H' r' s' q => by
  cases b with
  | true =>
    show u σ H' Qh
    exact q.1 rfl σ R' H' r' Qh fun c R2 H2 r2 s2 q2 => k c R2 H2 r2 (s'.trans s2) q2
  | false =>
    show Qh false H'
    exact k false R' H' r' s' (q.2 rfl)
theorem vt_or {t u : TT} (h : VT K G B t env fun b => (b = true → Qb true) ∧ (b = false → VT K G B u env Qb)) : VT K G B (tOr t u) env Qb := fun σ R H r Qh k => h σ R H r _ fun b R' H' r' s' q => by
  cases b with
  | true =>
    show Qh true H'
    exact k true R' H' r' s' (q.1 rfl)
  | false =>
    show u σ H' Qh
    exact q.2 rfl σ R' H' r' Qh fun c R2 H2 r2 s2 q2 => k c R2 H2 r2 (s'.trans s2) q2
theorem vt_not {t : TT} (h : VT K G B t env fun b => Qb (!b)) : VT K G B (tNot t) env Qb := fun σ R H r Qh k => h σ R H r _ fun b R' H' r' s' q => k (!b) R' H' r' s' q
theorem ve_andV {ta tb : TE} (h : VE K G B ta env fun x => ∃ b, x = .p (.bl b) ∧ (b = true → VE K G B tb env Q) ∧ (b = false → Q (.p (.bl false)))) : VE K G B (tAndV ta tb) env Q := fun σ R H r Qh k => h σ R H r _ fun v R' H' x r' s' hv ⟨b, e, q1, q2⟩ => by
  subst e
  cases hv
  refine ⟨b, rfl, ?_⟩
  cases b with
  | true =>
    show tb σ H' Qh
    exact q1 rfl σ R' H' r' Qh fun z R2 H2 x2 r2 s2 hz q => k z R2 H2 x2 r2 (s'.trans s2) hz q
  | false =>
    show Qh (.bl false) H'
    exact k _ R' H' (.p (.bl false)) r' s' (At.bl false) (q2 rfl)
theorem ve_orV {ta tb : TE} (h : VE K G B ta env fun x => ∃ b, x = .p (.bl b) ∧ (b = true → Q (.p (.bl true))) ∧ (b = false → VE K G B tb env Q)) : VE K G B (tOrV ta tb) env Q := fun σ R H r Qh k => h σ R H r _ fun v R' H' x r' s' hv ⟨b, e, q1, q2⟩ => by
  subst e
  cases hv
  refine ⟨b, rfl, ?_⟩
  cases b with
  | true =>
    show Qh (.bl true) H'
    exact k _ R' H' (.p (.bl true)) r' s' (At.bl true) (q1 rfl)
  | false =>
    show tb σ H' Qh
    exact q2 rfl σ R' H' r' Qh fun z R2 H2 x2 r2 s2 hz q => k z R2 H2 x2 r2 (s'.trans s2) hz q
theorem ve_notV {ta : TE} (h : VE K G B ta env fun x => ∃ b, x = .p (.bl b) ∧ Q (.p (.bl (!b)))) : VE K G B (tNotV ta) env Q := fun σ R H r Qh k => h σ R H r _ fun v R' H' x r' s' hv ⟨b, e, q⟩ => by
  subst e
  cases hv
  exact ⟨b, rfl, k _ R' H' (.p (.bl (!b))) r' s' (At.bl _) q⟩
theorem ve_if {t : TT} {ta tb : TE} (h : VT K G B t env fun b => (b = true → VE K G B ta env Q) ∧ (b = false → VE K G B tb env Q)) : VE K G B (tIf t ta tb) env Q := fun σ R H r Qh k => h σ R H r _ fun b R' H' r' s' q => by
  cases b with
  | true =>
    show ta σ H' Qh
    exact q.1 rfl σ R' H' r' Qh fun z R2 H2 x2 r2 s2 hz q => k z R2 H2 x2 r2 (s'.trans s2) hz q
  | false =>
    show tb σ H' Qh
    exact q.2 rfl σ R' H' r' Qh fun z R2 H2 x2 r2 s2 hz q => k z R2 H2 x2 r2 (s'.trans s2) hz q
/-- an object of a slot changes, and with it the slot -/
theorem Rep.mutS (r : Rep K G B env σ R H) {i : Nat} {sl sl' : Slot} {a : Addr} {y : HO} (hd : env[i]? = some sl) (ha : Slot.owns σ[i]? a sl) (hs : SlotAt K B R (upd H a y) σ i sl') (ho : ∀ b, Slot.owns σ[i]? b sl' → Slot.owns σ[i]? b sl) : Rep K G B (env.set i sl') σ R (upd H a y) := by
  obtain ⟨h0, hn, y0, hy, hl⟩ := r.own hd ha
  have hi : i < env.length := (List.getElem?_eq_some_iff.mp hd).1
  have back : ∀ (j : Nat) s b, (env.set i sl')[j]? = some s → Slot.owns σ[j]? b s → ∃ s0, env[j]? = some s0 ∧ Slot.owns σ[j]? b s0 := fun j s b hj o => by
    by_cases e : i = j
    · subst e
      rw [List.getElem?_set_self hi] at hj
      cases hj
      exact ⟨sl, hd, ho b o⟩
    · rw [List.getElem?_set_ne e] at hj
      exact ⟨s, hj, o⟩
  exact {
    sub0 := r.sub0
    tab := r.tab
    step := {
      same := r.step.same
      sub := fun b x e => subAt_go (r.step.sub b x e) (upd_ne (ne_of_none e hn)) (hard_own hy hl)
      kept := fun b x e n => by
        rw [upd_ne (ne_of_none e h0)]
        exact r.step.kept b x e n
      out := r.step.out }
    len := by rw [List.length_set]; exact r.len
    slots := fun j s q => by
      by_cases e : i = j
      · subst e
        rw [List.getElem?_set_self hi] at q
        cases q
        exact hs
      · rw [List.getElem?_set_ne e] at q
        have := r.slots j s q
        cases s with
        | u => trivial
        | p d => exact this
        | mu d =>
          obtain ⟨b, z, g1, g2, g3, g4, g5⟩ := this
          have hb : b ≠ a := fun w => by
            subst w
            exact r.dist i j _ _ b e hd q ha g1
          exact ⟨b, z, g1, g2, g3, by rw [upd_ne hb]; exact g4, g5⟩
        | hp gs =>
          refine fun g hg => ?_
          obtain ⟨g2, g3, z, g4, g5⟩ := this g hg
          have hb : g.1 ≠ a := fun w => r.dist i j _ _ a e hd q ha (show a ∈ gs.map (·.1) from List.mem_map.mpr ⟨g, hg, w⟩)
          exact ⟨g2, g3, z, by rw [upd_ne hb]; exact g4, g5⟩
    dist := fun j k sj sk b hjk hj hk o1 o2 => by
      obtain ⟨t1, q1, w1⟩ := back j sj b hj o1
      obtain ⟨t2, q2, w2⟩ := back k sk b hk o2
      exact r.dist j k t1 t2 b hjk q1 q2 w1 w2
    pr := fun q hq => by
      obtain ⟨g1, g2, g3, g0, g4⟩ := r.pr q hq
      have hb : q.1 ≠ a := fun w => g4 i _ hd (by rw [w]; exact ha)
      refine ⟨g1, g2, by rw [upd_ne hb]; exact g3, g0, fun j e hj o => ?_⟩
      obtain ⟨t1, q1, w1⟩ := back j e _ hj o
      exact g4 j t1 q1 w1 }
/-- the object of an own slot changes -/
theorem Rep.mut (r : Rep K G B env σ R H) {i : Nat} {d d' : D} {a : Addr} {y : HO} (hd : env[i]? = some (.mu d)) (ha : σ[i]? = some (some (.ref a))) (hm : MAt K R y d') : Rep K G B (env.set i (.mu d')) σ R (upd H a y) := by
  obtain ⟨h0, hn, _⟩ := r.own hd (show Slot.owns σ[i]? a (.mu d) from ha)
  exact r.mutS (sl' := .mu d') hd ha ⟨a, y, ha, h0, hn, upd_same, hm⟩ fun b o => o
/-- an own object of nobody's changes -/
theorem Rep.mutA (r : Rep K G B env σ R H) {a : Addr} {y y0 : HO} (hy : H a = some y0) (hl : hard y0 = false) (h0 : B.H a = none) (hn : R a = none) (hs : NoOwn env σ a) (hp : ∀ q ∈ B.pr, q.1 ≠ a) : Rep K G B env σ R (upd H a y) where
  sub0 := r.sub0
  tab := r.tab
  step := {
    same := r.step.same
    sub := fun b x e => subAt_go (r.step.sub b x e) (upd_ne (ne_of_none e hn)) (hard_upd fun u e => by rw [hy] at e; cases e; exact hl)
    kept := fun b x e n => by
      rw [upd_ne (ne_of_none e h0)]
      exact r.step.kept b x e n
    out := r.step.out }
  len := r.len
  dist := r.dist
  pr := fun q hq => by
    obtain ⟨g1, g2, g3, g0, g4⟩ := r.pr q hq
    exact ⟨g1, g2, by rw [upd_ne (hp q hq)]; exact g3, g0, g4⟩
  slots := fun j s q => by
    have := r.slots j s q
    cases s with
    | u => trivial
    | p d => exact this
    | mu d =>
      obtain ⟨b, z, g1, g2, g3, g4, g5⟩ := this
      have hb : b ≠ a := fun w => by
        subst w
        exact hs j _ q g1
      exact ⟨b, z, g1, g2, g3, by rw [upd_ne hb]; exact g4, g5⟩
    | hp gs =>
      refine fun g hg => ?_
      obtain ⟨g2, g3, z, g4, g5⟩ := this g hg
      have hb : g.1 ≠ a := fun w => hs j _ q (show a ∈ gs.map (·.1) from List.mem_map.mpr ⟨g, hg, w⟩)
      exact ⟨g2, g3, z, by rw [upd_ne hb]; exact g4, g5⟩
/-- a slot is forgotten -/
theorem Rep.forget (r : Rep K G B env σ R H) (i : Nat) : Rep K G B (env.set i .u) σ R H := by
  have back : ∀ (j : Nat) s, (env.set i .u)[j]? = some s → s = .u ∨ env[j]? = some s := fun j s hj => by
    by_cases e : i = j
    · subst e
      have hi := (List.getElem?_eq_some_iff.mp hj).1
      rw [List.length_set] at hi
      rw [List.getElem?_set_self hi] at hj
      exact .inl (Option.some.inj hj).symm
    · rw [List.getElem?_set_ne e] at hj
      exact .inr hj
  exact {
    sub0 := r.sub0
    tab := r.tab
    step := r.step
    len := by rw [List.length_set]; exact r.len
    slots := fun j s hj => by
      rcases back j s hj with rfl | h
      · trivial
      · exact r.slots j s h
    dist := fun j k sj sk a hjk hj hk o1 o2 => by
      rcases back j sj hj with rfl | h
      · exact o1
      · rcases back k sk hk with rfl | h2
        · exact o2
        · exact r.dist j k sj sk a hjk h h2 o1 o2
    pr := fun q hq => by
      obtain ⟨g1, g2, g3, g0, g4⟩ := r.pr q hq
      refine ⟨g1, g2, g3, g0, fun j e hj o => ?_⟩
      rcases back j e hj with rfl | h
      · exact o
      · exact g4 j e h o }
/-- .. then nobody owns its object -/
theorem Rep.noown (r : Rep K G B env σ R H) {i : Nat} {sl : Slot} {a : Addr} (h : env[i]? = some sl) (ow : Slot.owns σ[i]? a sl) : NoOwn (env.set i .u) σ a := fun j e hj o => by
  have hi := (List.getElem?_eq_some_iff.mp h).1
  by_cases q : i = j
  · subst q
    rw [List.getElem?_set_self hi] at hj
    cases hj
    exact o.elim
  · rw [List.getElem?_set_ne q] at hj
    exact r.dist i j _ _ a q h hj ow o
theorem Rep.nopr' (r : Rep K G B env σ R H) {i : Nat} {sl : Slot} {a : Addr} (h : env[i]? = some sl) (ow : Slot.owns σ[i]? a sl) : ∀ q ∈ B.pr, q.1 ≠ a := fun q hq w => (r.pr q hq).2.2.2.2 i _ h (by rw [w]; exact ow)
/-- knowledge of an object of this def's is given up -/
theorem Rep.drop (r : Rep K G B env σ R H) {a : Addr} (hB : B.H a = none) (hs : ∀ i sl, env[i]? = some sl → SlotAt K B R H σ i sl → SlotAt K B (without R a) H σ i sl) : Rep K G B env σ (without R a) H where
  sub0 := r.sub0
  tab := r.tab
  step := {
    same := fun b x e => by
      rw [without_ne (fun z => by subst z; rw [r.sub0.none hB] at e; cases e)]
      exact r.step.same b x e
    sub := fun b x e => by
      by_cases hb : b = a
      · subst hb
        rw [without_same] at e
        cases e
      · rw [without_ne hb] at e
        exact r.step.sub b x e
    kept := r.step.kept
    out := fun b y e hd n => by
      rw [without_ne (fun z => by subst z; rw [hB] at e; cases e)]
      exact r.step.out b y e hd n }
  len := r.len
  dist := r.dist
  pr := fun q hq => by
    obtain ⟨g1, g2, g3, g0, g4⟩ := r.pr q hq
    refine ⟨g1, ?_, g3, g0, g4⟩
    by_cases hb : q.1 = a
    · rw [hb]
      exact without_same
    · rw [without_ne hb]
      exact g2
  slots := fun i sl h => hs i sl h (r.slots i sl h)
/-- protecting, and back -/
theorem Rep.guard (r : Rep K G B env σ R H) {a : Addr} {y : HO} (h0 : B.H a = none) (hn : R a = none) (hy : H a = some y) (hl : isLD y = true) (hs : NoOwn env σ a) : Rep K G { B with pr := (a, y) :: B.pr } env σ R H where
  sub0 := r.sub0
  tab := r.tab
  step := r.step
  len := r.len
  dist := r.dist
  slots := r.slots
  pr := fun q hq => by
    rcases List.mem_cons.mp hq with rfl | hq
    · exact ⟨h0, hn, hy, hl, hs⟩
    · exact r.pr q hq
theorem Rep.unguard {q : Addr × HO} (r : Rep K G { B with pr := q :: B.pr } env σ R H) : Rep K G B env σ R H where
  sub0 := r.sub0
  tab := r.tab
  step := r.step
  len := r.len
  dist := r.dist
  slots := r.slots
  pr := fun p hp => r.pr p (List.mem_cons_of_mem _ hp)
theorem Rep.guarded {a : Addr} {y : HO} (r : Rep K G { B with pr := (a, y) :: B.pr } env σ R H) : B.H a = none ∧ R a = none ∧ H a = some y ∧ isLD y = true ∧ NoOwn env σ a := r.pr _ List.mem_cons_self
/-- the walk J tells the items one by one, as plain things -/
structure Wk (K : PySem.W.Frag) (G : Gs) (B : Bs) (R : Hp) (J : It) (items : List D) : Prop where
  go : ∀ (B : Bs) env σ R' H', Rep K G B env σ R' H' → Same R R' → ∀ i d, items[i]? = some d → J.go i H' ∧ ∀ v H2, J.yld i H' v H2 → ∃ R2, Rep K G B env σ R2 H2 ∧ Same R' R2 ∧ At K R2 v d
  stop : ∀ (B : Bs) env σ R' H', Rep K G B env σ R' H' → Same R R' → J.stop items.length H'
def VI (K : PySem.W.Frag) (G : Gs) (B : Bs) (wi : TI) (env : Vn) (Q : List D → Prop) : Prop := ∀ σ R H, Rep K G B env σ R H → ∀ Qh : It → Hp → Prop,
  (∀ J R' H' items, Rep K G B env σ R' H' → Same R R' → Wk K G B R' J items → Q items → Qh J H') → wi σ H Qh
theorem vs_for {wi : TI} {g : TG} {tb : TS} (h : VI K G B wi env fun items => ∃ Iv : Nat → Vn → Prop, Iv 0 env ∧
    (∀ i d e, items[i]? = some d → Iv i e → VG K G B g (.p d) e fun e' => VS K G B tb e' (Iv (i + 1)) rt nx (Iv (i + 1))) ∧ (∀ e, Iv items.length e → nx e)) : VS K G B (tFor wi g tb) env nx rt bk ct := fun σ R H r Z kn kr kb kc =>
  h σ R H r _ fun J R1 H1 items r1 s1 wk ⟨Iv, h0, hs, he⟩ => by
    refine ⟨fun i m σ' H' => i + m = items.length ∧ ∃ e R', Rep K G B e σ' R' H' ∧ Same R1 R' ∧ Iv i e, ⟨items.length, Nat.zero_add _, env, R1, r1, Same.refl _, h0⟩, ?_⟩
    rintro i m σ' H' ⟨hi, e, R', r', s', q⟩
    by_cases hm : m = 0
    · subst hm
      have ei : i = items.length := hi
      subst ei
      exact .inl ⟨wk.stop B e σ' R' H' r' s', kn e σ' R' H' r' (s1.trans s') (he e q)⟩
    · have hlt : i < items.length := by omega
      obtain ⟨g1, g2⟩ := wk.go B e σ' R' H' r' s' i items[i] (List.getElem?_eq_getElem hlt)
      refine .inr ⟨g1, fun σ2 H2 => ∃ e2 R2, Rep K G B e2 σ2 R2 H2 ∧ Same R1 R2 ∧ Iv (i + 1) e2, fun σ2 H2 ⟨e2, R2, a, b, c⟩ => ⟨m - 1, by omega, by omega, e2, R2, a, b, c⟩, fun v H2 hy => ?_⟩
      obtain ⟨R2, r2, s2, hv⟩ := g2 v H2 hy
      refine hs i items[i] e (List.getElem?_eq_getElem hlt) q σ' R2 H2 r2 v hv _ fun e3 σ3 R3 H3 r3 s3 q3 => ?_
      have st : Same R R3 := ((s1.trans s').trans s2).trans s3
      have st1 : Same R1 R3 := (s'.trans s2).trans s3
      exact q3 σ3 R3 H3 r3 _ (fun e4 σ4 R4 H4 r4 s4 q4 => ⟨e4, R4, r4, st1.trans s4, q4⟩) (fun v e4 σ4 R4 H4 x r4 s4 hv4 q4 => kr v e4 σ4 R4 H4 x r4 (st.trans s4) hv4 q4)
        (fun e4 σ4 R4 H4 r4 s4 q4 => kn e4 σ4 R4 H4 r4 (st.trans s4) q4) (fun e4 σ4 R4 H4 r4 s4 q4 => ⟨e4, R4, r4, st1.trans s4, q4⟩)
/-- lists, tuples, ranges -/
theorem vi_list {tl : TE} {Ql : List D → Prop} (h : VE K G B tl env fun x => x.fz fun x => (∃ ds, (x = .p (.lst ds) ∨ x = .p (.ro ds)) ∧ Ql ds)) : VI K G B (iList K tl) env Ql := fun σ R H r Qh k =>
  h σ R H r _ fun v R1 H1 x r1 s1 hv q => by
    obtain ⟨R2, x', r2, s2, hv2, ho, ds, e, q2⟩ := hv.fz r1 q
    obtain ⟨a, xs, rfl, hl, ha⟩ : ∃ a xs, v = .ref a ∧ SqL K R2 a xs ∧ AtL K R2 xs ds := by
      rcases e with rfl | rfl
      · cases hv2 with
        | @lst a xs _ h1 h2 => exact ⟨a, xs, rfl, .inl (.inl h1), h2⟩
      · cases hv2 with
        | @ro a xs _ h1 h2 => exact ⟨a, xs, rfl, h1, h2⟩
    refine ⟨a, rfl, ⟨xs, r2.sub.l hl⟩, k _ R2 H1 ds r2 (s1.trans s2) ⟨?_, ?_⟩ q2⟩
    · intro B' e' σ' R' H' r' s' i d hi
      obtain ⟨v, hv, hd⟩ := ha.get hi
      have hL := r'.sub.l (same_l s' hl)
      refine ⟨⟨xs, v, hL, hv⟩, ?_⟩
      rintro w H3 ⟨rfl, hw⟩
      have := hw xs hL
      rw [hv] at this
      cases this
      exact ⟨R', r', Same.refl _, hd.same s'⟩
    · intro B' e' σ' R' H' r' s'
      exact ⟨xs, r'.sub.l (same_l s' hl), by rw [ha.len]; exact Nat.le_refl _⟩
theorem vi_tup {tl : TE} {Ql : List D → Prop} (h : VE K G B tl env fun x => ∃ ds, x = .p (.tup ds) ∧ Ql ds) : VI K G B (iTup K tl) env Ql := fun σ R H r Qh k =>
  h σ R H r _ fun v R2 H1 x r2 s2 hv2 ⟨ds, e, q2⟩ => by
    subst e
    obtain ⟨a, xs, rfl, hl, ha⟩ : ∃ a xs, v = .ref a ∧ SqT K R2 a xs ∧ AtL K R2 xs ds := by
      cases hv2 with
      | @tup a xs _ h1 h2 => exact ⟨a, xs, rfl, h1, h2⟩
    refine ⟨a, rfl, ⟨xs, r2.sub.t hl⟩, k _ R2 H1 ds r2 s2 ⟨?_, ?_⟩ q2⟩
    · intro B' e' σ' R' H' r' s' i d hi
      obtain ⟨v, hv, hd⟩ := ha.get hi
      have hL := r'.sub.t (same_t s' hl)
      refine ⟨⟨xs, v, hL, hv⟩, ?_⟩
      rintro w H3 ⟨rfl, hw⟩
      have := hw xs hL
      rw [hv] at this
      cases this
      exact ⟨R', r', Same.refl _, hd.same s'⟩
    · intro B' e' σ' R' H' r' s'
      exact ⟨xs, r'.sub.t (same_t s' hl), by rw [ha.len]; exact Nat.le_refl _⟩
def rangeD (lo : Int) (n : Nat) : List D := (List.range n).map fun i => D.int (lo + (i : Nat))
theorem rangeD_len (lo : Int) (n : Nat) : (rangeD lo n).length = n := by
  unfold rangeD
  rw [List.length_map, List.length_range]
theorem rangeD_get {lo : Int} {n i : Nat} {d : D} (h : (rangeD lo n)[i]? = some d) : i < n ∧ d = .int (lo + (i : Nat)) := by
  unfold rangeD at h
  rw [List.getElem?_map] at h
  by_cases hi : i < n
  · rw [List.getElem?_range hi] at h
    cases h
    exact ⟨hi, rfl⟩
  · rw [List.getElem?_eq_none_iff.mpr (by rw [List.length_range]; omega)] at h
    cases h
theorem wk_range {lo : Int} {n : Nat} : Wk K G B R (Itr lo n) (rangeD lo n) where
  go := fun B e σ R' H' r s i d hi => by
    obtain ⟨h1, rfl⟩ := rangeD_get hi
    refine ⟨h1, ?_⟩
    rintro v H2 ⟨rfl, rfl⟩
    exact ⟨R', r, Same.refl _, .int _⟩
  stop := fun B e σ R' H' r s => by
    rw [rangeD_len]
    exact Nat.le_refl _
theorem vi_range1 {ta : TA} {Ql : List D → Prop} (h : VA K G B ta env fun xs => ∃ j : Int, xs = [.p (.int j)] ∧ (-(2 ^ 62) ≤ j ∧ j < 2 ^ 62) ∧ Ql (rangeD 0 j.toNat)) : VI K G B (iRng1 ta) env Ql := fun σ R H r Qh k =>
  h σ R H r _ fun vs R1 H1 xs r1 s1 hv _ ⟨j, e, hj, q⟩ => by
    subst e
    match vs, hv with
    | [v], hv =>
      cases hv.1
      exact ⟨j, rfl, hj.1, hj.2, k _ R1 H1 _ r1 s1 wk_range q⟩
theorem rep_start {N : List Str} {vs : List V} {ds : List D} (s : Sub K G R H) (tb : TabIn G R) (h : AtL K R vs ds) (hn : ds.length ≤ N.length) : Rep K G ⟨R, H, []⟩ (ds.map Slot.p ++ List.replicate (N.length - ds.length) .u) (L2.start N vs) R H where
  sub0 := s
  tab := tb
  step := Step.refl s
  len := by
    unfold L2.start
    rw [List.length_append, List.length_append, List.length_map, List.length_map, List.length_replicate, List.length_replicate, h.len]
  pr := fun _ h => by cases h
  slots := fun i sl q => by
    by_cases hi : i < ds.length
    · rw [List.getElem?_append_left (by rw [List.length_map]; exact hi), List.getElem?_map, List.getElem?_eq_getElem hi] at q
      cases q
      obtain ⟨v, h1, h2⟩ := h.get (List.getElem?_eq_getElem hi)
      refine ⟨v, ?_, h2⟩
      unfold L2.start
      rw [List.getElem?_append_left (by rw [List.length_map, h.len]; exact hi), List.getElem?_map, h1]
      rfl
    · rw [List.getElem?_append_right (by rw [List.length_map]; omega), List.getElem?_replicate] at q
      split at q
      · cases q
        trivial
      · cases q
  dist := fun i j si sj a _ q _ o => by
    by_cases hi : i < ds.length
    · rw [List.getElem?_append_left (by rw [List.length_map]; exact hi), List.getElem?_map, List.getElem?_eq_getElem hi] at q
      cases q
      exact o.elim
    · rw [List.getElem?_append_right (by rw [List.length_map]; omega), List.getElem?_replicate] at q
      split at q
      · cases q
        exact o.elim
      · cases q
/-- what a def hands back: a new object of its own, or a plain thing -/
def Rt (fr : Bool) (post : D → Prop) (x : XV) : Prop := match x with
  | .p d => fr = false ∧ post d
  | .o d => post d
  | .m _ d => post d
theorem run_def {α : Type} {fr : Bool} {args : α → List D} {pre : α → Prop} {post : α → D → Prop} {rs : α → Addr → Prop} {vs : List V} {Q : VK} {E : XK} {t : TS} {N : List Str}
    (hn : ∀ x, (args x).length ≤ N.length) {env0 : α → Vn} (he : ∀ x, (args x).map Slot.p ++ List.replicate (N.length - (args x).length) .u = env0 x)
    (h : ∀ B x, pre x → Lets K G B E (rs x) → VS K G B t (env0 x) (fun _ => fr = false ∧ post x .non) (Rt fr (post x)) (fun _ => False) (fun _ => False))
    (hs : SpA K G fr args pre post rs vs H Q E) : t { nx := fun _ H' => Q .non H', rt := Q } (L2.start N vs) H := by
  obtain ⟨R, x, ⟨s, tb⟩, ha, hp, q, qe⟩ := hs
  have h := h ⟨R, H, []⟩ x hp (fun C R' H' st hc => qe C R' H' st hc)
  rw [← he x] at h
  refine h _ R H (rep_start s tb ha (hn x)) _ ?_ ?_ ?_ ?_
  · intro e σ' R' H' r _ ⟨hf, hq⟩
    exact q .non R' H' .non r.step .non (fun z => by rw [hf] at z; cases z) hq
  · intro v e σ' R' H' y r _ hv hq
    cases y with
    | p d => exact q v R' H' d r.step hv (fun z => by rw [hq.1] at z; cases z) hq.2
    | o d =>
      obtain ⟨a, y, rfl, h0, hn, hy, hm, h5, h6⟩ := hv
      have r2 := r.take hy (mat_mk hm) h0 hn h5 h6
      exact q _ _ H' d r2.step (At.of_mat hm hn) (fun _ => ⟨a, rfl, h0, fun o u z => by
        rw [upd_same] at z
        cases z
        cases d <;> exact hm.elim⟩) hq
    | m i d =>
      obtain ⟨h1, h2⟩ := hv
      obtain ⟨a, y, g1, g2, g3, g4, g5⟩ := r.slots i _ h1
      rw [g1] at h2
      cases h2
      -- the slot is given up
      refine q _ (upd R' a y) H' d ?_ (At.of_mat g5 g3) (fun _ => ⟨a, rfl, g2, fun o u z => by
        rw [upd_same] at z
        cases z
        cases d <;> exact g5.elim⟩) hq
      exact {
        same := r.step.same.trans (same_take g3)
        sub := sub_put r.sub (subAt_of g4 (mat_mk g5))
        kept := r.step.kept
        out := fun b z e hd n => by
          rw [upd_ne (ne_of_none e g2)]
          exact r.step.out b z e hd n }
  · intro _ _ _ _ _ _ q
    exact q.elim
  · intro _ _ _ _ _ _ q
    exact q.elim
theorem spA_len {α : Type} {fr : Bool} {args : α → List D} {pre : α → Prop} {post : α → D → Prop} {rs : α → Addr → Prop} {vs : List V} {Q : VK} {E : XK} {n : Nat} (hn : ∀ x, (args x).length = n) (h : SpA K G fr args pre post rs vs H Q E) : vs.length = n := by
  obtain ⟨R, x, _, ha, _⟩ := h
  rw [ha.len, hn]
theorem set_same {i : Nat} {x : Option V} (h : σ[i]? = some x) : σ.set i x = σ := by
  apply List.ext_getElem?
  intro j
  by_cases e : i = j
  · subst e
    have hi := (List.getElem?_eq_some_iff.mp h).1
    rw [List.getElem?_set_self hi, h]
  · rw [List.getElem?_set_ne e]
/-- an own slot's object is marked or made plain: o -/
theorem Rep.putS (r : Rep K G B env σ R H) {i : Nat} {d d' : D} {a : Addr} {o : HO} (hd : env[i]? = some (.mu d)) (h1 : σ[i]? = some (some (.ref a))) (ho : SubAt K G H a o) (hat : At K (upd R a o) (.ref a) d') : Rep K G B (env.set i (.p d')) σ (upd R a o) H ∧ Same R (upd R a o) := by
  have ow : Slot.owns σ[i]? a (.mu d) := h1
  obtain ⟨h2, h3, _⟩ := r.own hd ow
  have hi : i < env.length := (List.getElem?_eq_some_iff.mp hd).1
  have e1 := set_same h1
  refine ⟨?_, same_take h3⟩
  have r1 : Rep K G B (env.set i .u) σ R H := by
    have := r.set (i := i) (sl := .u) (v := .ref a) hi trivial noOwn_u
    rw [e1] at this
    exact this
  have hs : NoOwn (env.set i .u) σ a := fun j e hj o => by
    by_cases q : i = j
    · subst q
      rw [List.getElem?_set_self hi] at hj
      cases hj
      exact o.elim
    · rw [List.getElem?_set_ne q] at hj
      exact r.dist i j _ _ a q hd hj ow o
  have r2 := r1.put ho h2 h3 hs fun q hq w => (r.pr q hq).2.2.2.2 i _ hd (by rw [w]; exact h1)
  have := r2.set (i := i) (sl := .p d') (v := .ref a) (by rw [List.length_set]; exact hi) ⟨.ref a, List.getElem?_set_self (r.ilt hi), hat⟩ noOwn_p
  rw [e1, List.set_set] at this
  exact this
theorem Rep.freeze (r : Rep K G B env σ R H) {i : Nat} {d : D} (hd : env[i]? = some (.mu d)) : ∃ R', Rep K G B (env.set i (.p d)) σ R' H ∧ Same R R' := by
  obtain ⟨a, y, h1, h2, h3, h4, h5⟩ := r.slots i _ hd
  exact ⟨_, r.putS hd h1 (subAt_of h4 (mat_mk h5)) (At.of_mat h5 h3)⟩
theorem vs_freeze (i : Nat) {t : TS} {d : D} (hd : env[i]? = some (.mu d)) (h : VS K G B t (env.set i (.p d)) nx rt bk ct) : VS K G B t env nx rt bk ct := fun σ R H r Z kn kr kb kc => by
  obtain ⟨R', r', s⟩ := r.freeze hd
  exact h σ R' H r' Z (fun e σ' R2 H2 r2 s2 => kn e σ' R2 H2 r2 (s.trans s2)) (fun v e σ' R2 H2 x r2 s2 => kr v e σ' R2 H2 x r2 (s.trans s2)) (fun e σ' R2 H2 r2 s2 => kb e σ' R2 H2 r2 (s.trans s2)) (fun e σ' R2 H2 r2 s2 => kc e σ' R2 H2 r2 (s.trans s2))
end
end VL
namespace VL
open PySem L2
section
variable {K : PySem.W.Frag} {G : Gs} {B : Bs} {env : Vn} {σ : L2.St} {R R' R1 H H' H1 : Hp} {Q : XV → Prop} {nx : Vn → Prop} {rt : XV → Prop} {bk ct : Vn → Prop} {Qe : Vn → Prop} {Qb : Bool → Prop}
def XV.plains : List XV → Option (List D)
  | [] => some []
  | .p d :: r => match XV.plains r with
    | some ds => some (d :: ds)
    | none => none
  | _ :: _ => none
theorem plains_at : ∀ {vs : List V} {xs : List XV} {ds : List D}, XV.plains xs = some ds → VAtL K B env σ R H vs xs → AtL K R vs ds
  | [], [], _, e, _ => by
    cases e
    exact .nil
  | [], _ :: _, _, _, h => h.elim
  | _ :: _, [], _, _, h => h.elim
  | v :: vs, .p d :: xs, ds, e, h => by
    unfold XV.plains at e
    cases q : XV.plains xs with
    | none =>
      rw [q] at e
      cases e
    | some es =>
      rw [q] at e
      cases e
      exact .cons h.1 (plains_at q h.2)
  | _ :: _, .o _ :: _, _, e, _ => by cases e
  | _ :: _, .m _ _ :: _, _, e, _ => by cases e
/-- a new plain object -/
theorem Rep.newP (r : Rep K G B env σ R H) {a : Addr} {y : HO} (h : H a = none) (hy : isMk y = false) : Rep K G B env σ (upd R a y) (upd H a y) :=
  (r.new h).take upd_same hy (r.fresh h) (r.sub.none h) (r.noslot h) (r.nopr h)
theorem ve_tup {ta : TA} (h : VA K G B ta env fun xs => ∃ ds, XV.plains xs = some ds ∧ ds.length ≤ 100000 ∧ Q (.p (.tup ds))) : VE K G B (tTup ta) env Q := fun σ R H r Qh k =>
  h σ R H r _ fun vs R1 H1 xs r1 s1 hv _ ⟨ds, e, hl, q⟩ => by
    have ha := plains_at e hv
    refine ⟨by rw [ha.len]; exact Nat.le_trans hl (by decide), fun p hp => ?_⟩
    have hn := r1.sub.none hp
    exact k (.ref p) _ _ (.p (.tup ds)) (r1.newP hp rfl) (s1.trans (same_take hn)) (.tup (.inl (.inl upd_same)) (ha.same (same_take hn))) q
theorem ve_lst {ta : TA} (h : VA K G B ta env fun xs => ∃ ds, XV.plains xs = some ds ∧ ds.length ≤ 100000 ∧ Q (.o (.lst ds))) : VE K G B (tLst ta) env Q := fun σ R H r Qh k =>
  h σ R H r _ fun vs R1 H1 xs r1 s1 hv _ ⟨ds, e, hl, q⟩ => by
    have ha := plains_at e hv
    refine ⟨by rw [ha.len]; exact Nat.le_trans hl (by decide), fun p hp => ?_⟩
    exact k (.ref p) R1 _ (.o (.lst ds)) (r1.new hp) s1 ⟨p, _, rfl, r1.fresh hp, r1.sub.none hp, upd_same, ha, r1.noslot hp, r1.nopr hp⟩ q
/-- a new own list, a new own dict -/
theorem own_lst (r : Rep K G B env σ R H) {p : Addr} {xs : List V} {ds : List D} (hp : H p = none) (ha : AtL K R xs ds) : Rep K G B env σ R (upd H p (.lst xs)) ∧ VAt K B env σ R (upd H p (.lst xs)) (.ref p) (.o (.lst ds)) :=
  ⟨r.new hp, p, _, rfl, r.fresh hp, r.sub.none hp, upd_same, ha, r.noslot hp, r.nopr hp⟩
theorem own_dct (r : Rep K G B env σ R H) {p : Addr} {xs : List (Key × V)} {ds : List (Key × D)} (hp : H p = none) (ha : AtD K R xs ds) : Rep K G B env σ R (upd H p (.dK xs)) ∧ VAt K B env σ R (upd H p (.dK xs)) (.ref p) (.o (.dct ds)) :=
  ⟨r.new hp, p, _, rfl, r.fresh hp, r.sub.none hp, upd_same, ha, r.noslot hp, r.nopr hp⟩
theorem ve_dnew (q : Q (.o (.dct []))) : VE K G B tDNewK env Q := fun σ R H r Qh k p hp => by
  obtain ⟨r2, v2⟩ := own_dct (ds := []) r hp .nil
  exact k _ R _ _ r2 (Same.refl R) v2 q
def XV.seqL : XV → Option (List D)
  | .p (.lst ds) => some ds
  | .p (.ro ds) => some ds
  | .m _ (.lst ds) => some ds
  | _ => none
theorem seqL_at (r : Rep K G B env σ R H) {v : V} {x : XV} {ds : List D} (h : VAt K B env σ R H v x) (e : x.seqL = some ds) : ∃ a xs, v = .ref a ∧ SqL K H a xs ∧ AtL K R xs ds := by
  cases x with
  | p d =>
    cases d with
    | lst es =>
      cases e
      cases h with
      | @lst a xs _ h1 h2 => exact ⟨a, xs, rfl, r.sub.l (.inl (.inl h1)), h2⟩
    | ro es =>
      cases e
      cases h with
      | @ro a xs _ h1 h2 => exact ⟨a, xs, rfl, r.sub.l h1, h2⟩
    | _ => cases e
  | o d => cases e
  | m i d =>
    cases d with
    | lst es =>
      cases e
      obtain ⟨h1, h2⟩ := h
      obtain ⟨a, y, g1, g2, g3, g4, g5⟩ := r.slots i _ h1
      rw [g1] at h2
      cases h2
      cases y with
      | lst xs => exact ⟨a, xs, rfl, .inl (.inl g4), g5⟩
      | _ => exact g5.elim
    | _ => cases e
/-- exactly a list, not a locked one -/
def XV.exL : XV → Option (List D)
  | .p (.lst ds) => some ds
  | .m _ (.lst ds) => some ds
  | _ => none
theorem exL_at (r : Rep K G B env σ R H) {v : V} {x : XV} {ds : List D} (h : VAt K B env σ R H v x) (e : x.exL = some ds) : ∃ a xs, v = .ref a ∧ H a = some (.lst xs) ∧ AtL K R xs ds := by
  cases x with
  | p d =>
    cases d with
    | lst es =>
      cases e
      cases h with
      | @lst a xs _ h1 h2 => exact ⟨a, xs, rfl, r.sub.of h1 (rfl), h2⟩
    | _ => cases e
  | o d => cases e
  | m i d =>
    cases d with
    | lst es =>
      cases e
      obtain ⟨h1, h2⟩ := h
      obtain ⟨a, y, g1, g2, g3, g4, g5⟩ := r.slots i _ h1
      rw [g1] at h2
      cases h2
      cases y with
      | lst xs => exact ⟨a, xs, rfl, g4, g5⟩
      | _ => exact g5.elim
    | _ => cases e
theorem tup_at (r : Rep K G B env σ R H) {v : V} {ds : List D} (h : VAt K B env σ R H v (.p (.tup ds))) : ∃ a xs, v = .ref a ∧ SqT K H a xs ∧ SqT K R a xs ∧ AtL K R xs ds := by
  cases h with
  | @tup a xs _ h1 h2 => exact ⟨a, xs, rfl, r.sub.t h1, h1, h2⟩
theorem int_at {v : V} {i : Int} (h : VAt K B env σ R H v (.p (.int i))) : v = .int i := by cases h; rfl
theorem str_at {v : V} {i : Str} (h : VAt K B env σ R H v (.p (.str i))) : v = .str i := by cases h; rfl
theorem bl_at {v : V} {i : Bool} (h : VAt K B env σ R H v (.p (.bl i))) : v = .bl i := by cases h; rfl
theorem vo_I0 {g : Int → Int → Int} {i j : Int} (q : Q (.p (.int (g i j)))) : VO K G B (rI0 fun i j => .int (g i j)) env (.p (.int i)) (.p (.int j)) Q := fun σ R H r v w hv hw Qh k =>
  ⟨i, j, int_at hv, int_at hw, k _ R H (.p (.int (g i j))) r (Same.refl R) (.int _) q⟩
theorem vo_B0 {g : Int → Int → Bool} {i j : Int} (q : Q (.p (.bl (g i j)))) : VO K G B (rI0 fun i j => .bl (g i j)) env (.p (.int i)) (.p (.int j)) Q := fun σ R H r v w hv hw Qh k =>
  ⟨i, j, int_at hv, int_at hw, k _ R H (.p (.bl (g i j))) r (Same.refl R) (.bl _) q⟩
theorem vo_I {C : Int → Int → Prop} {g : Int → Int → Int} {i j : Int} (hc : C i j) (q : Q (.p (.int (g i j)))) : VO K G B (rI C fun i j => .int (g i j)) env (.p (.int i)) (.p (.int j)) Q := fun σ R H r v w hv hw Qh k =>
  ⟨i, j, int_at hv, int_at hw, hc, k _ R H (.p (.int (g i j))) r (Same.refl R) (.int _) q⟩
theorem vo_ip {f : Int → Int → Int} {i j : Int} (q : Q (.p (.int (f i j)))) : VO K G B (ipI f) env (.p (.int i)) (.p (.int j)) Q := fun σ R H r v w hv hw Qh k =>
  ⟨i, j, int_at hv, int_at hw, k _ R H (.p (.int (f i j))) r (Same.refl R) (.int _) q⟩
theorem vu_I {g : Int → Int} {i : Int} (q : Q (.p (.int (g i)))) : VU K G B (rU fun i => .int (g i)) env (.p (.int i)) Q := fun σ R H r v hv Qh k =>
  ⟨i, int_at hv, k _ R H (.p (.int (g i))) r (Same.refl R) (.int _) q⟩
/-- scalars -/
def D.sc : D → Option V
  | .non => some .non
  | .bl b => some (.bl b)
  | .int i => some (.int i)
  | .str x => some (.str x)
  | _ => none
theorem sc_at {v w : V} {d : D} (h : VAt K B env σ R H v (.p d)) (e : d.sc = some w) : v = w := by
  cases d <;> first | (cases e; cases h; rfl; done) | cases e
theorem vo_eq {d e : D} {v w : V} (hd : d.sc = some v) (he : e.sc = some w) (hs : scal v w = true) (q : Q (.p (.bl (decide (v = w))))) : VO K G B rEq env (.p d) (.p e) Q := fun σ R H r x y hx hy Qh k => by
  have e1 := sc_at hx hd
  have e2 := sc_at hy he
  subst e1
  subst e2
  exact ⟨hs, k _ R H (.p (.bl _)) r (Same.refl R) (.bl _) q⟩
theorem vo_ne {d e : D} {v w : V} (hd : d.sc = some v) (he : e.sc = some w) (hs : scal v w = true) (q : Q (.p (.bl (!decide (v = w))))) : VO K G B rNe env (.p d) (.p e) Q := fun σ R H r x y hx hy Qh k => by
  have e1 := sc_at hx hd
  have e2 := sc_at hy he
  subst e1
  subst e2
  exact ⟨hs, k _ R H (.p (.bl _)) r (Same.refl R) (.bl _) q⟩
theorem dec_int (i j : Int) : decide (V.int i = V.int j) = decide (i = j) := decide_eq_decide.mpr ⟨fun h => by cases h; rfl, fun h => by rw [h]⟩
theorem dec_str (i j : Str) : decide (V.str i = V.str j) = decide (i = j) := decide_eq_decide.mpr ⟨fun h => by cases h; rfl, fun h => by rw [h]⟩
theorem dec_bl (i j : Bool) : decide (V.bl i = V.bl j) = decide (i = j) := decide_eq_decide.mpr ⟨fun h => by cases h; rfl, fun h => by rw [h]⟩
theorem vo_eq_int {i j : Int} (q : Q (.p (.bl (decide (i = j))))) : VO K G B rEq env (.p (.int i)) (.p (.int j)) Q := vo_eq rfl rfl rfl (by rw [dec_int]; exact q)
theorem vo_ne_int {i j : Int} (q : Q (.p (.bl (!decide (i = j))))) : VO K G B rNe env (.p (.int i)) (.p (.int j)) Q := vo_ne rfl rfl rfl (by rw [dec_int]; exact q)
theorem vo_eq_str {i j : Str} (q : Q (.p (.bl (decide (i = j))))) : VO K G B rEq env (.p (.str i)) (.p (.str j)) Q := vo_eq rfl rfl rfl (by rw [dec_str]; exact q)
theorem vo_ne_str {i j : Str} (q : Q (.p (.bl (!decide (i = j))))) : VO K G B rNe env (.p (.str i)) (.p (.str j)) Q := vo_ne rfl rfl rfl (by rw [dec_str]; exact q)
theorem vo_eq_bl {i j : Bool} (q : Q (.p (.bl (decide (i = j))))) : VO K G B rEq env (.p (.bl i)) (.p (.bl j)) Q := vo_eq rfl rfl rfl (by rw [dec_bl]; exact q)
theorem vo_ne_bl {i j : Bool} (q : Q (.p (.bl (!decide (i = j))))) : VO K G B rNe env (.p (.bl i)) (.p (.bl j)) Q := vo_ne rfl rfl rfl (by rw [dec_bl]; exact q)
def D.isNon : D → Bool
  | .non => true
  | _ => false
theorem non_at {v : V} {d : D} (h : At K R v d) : decide (v = .non) = d.isNon := by
  cases h <;> rfl
/-- is None, is not None -/
theorem vo_isN {d : D} (q : Q (.p (.bl d.isNon))) : VO K G B (fun x y H Q => y = .non ∧ Q (.bl (decide (x = .non))) H) env (.p d) (.p .non) Q := fun σ R H r v w hv hw Qh k => by
  cases hw
  exact ⟨rfl, by rw [non_at hv]; exact k _ R H (.p (.bl _)) r (Same.refl R) (.bl _) q⟩
theorem vo_notN {d : D} (q : Q (.p (.bl (!d.isNon)))) : VO K G B (fun x y H Q => y = .non ∧ Q (.bl (!decide (x = .non))) H) env (.p d) (.p .non) Q := fun σ R H r v w hv hw Qh k => by
  cases hw
  exact ⟨rfl, by rw [non_at hv]; exact k _ R H (.p (.bl _)) r (Same.refl R) (.bl _) q⟩
/-- xs[i] -/
theorem atl_at {xs : List V} {ds : List D} {i : Int} {d : D} (h : AtL K R xs ds) (e : atI ds i = some d) : ∃ v, atI xs i = some v ∧ At K R v d := by
  unfold atI at e ⊢
  rw [h.len]
  cases q : ixN ds.length i with
  | none =>
    rw [q] at e
    cases e
  | some j =>
    rw [q] at e
    exact h.get e
theorem vo_ixL {x : XV} {ds : List D} {i : Int} {d : D} (hx : x.seqL = some ds) (hi : atI ds i = some d) (q : Q (.p d)) : VO K G B (rIxL K) env x (.p (.int i)) Q := fun σ R H r v w hv hw Qh k => by
  obtain ⟨a, xs, rfl, h1, h2⟩ := seqL_at r hv hx
  obtain ⟨v, h3, h4⟩ := atl_at h2 hi
  exact ⟨a, xs, i, v, rfl, int_at hw, h1, h3, k v R H (.p d) r (Same.refl R) h4 q⟩
theorem vo_ixT {ds : List D} {i : Int} {d : D} (hi : atI ds i = some d) (q : Q (.p d)) : VO K G B (rIxT K) env (.p (.tup ds)) (.p (.int i)) Q := fun σ R H r v w hv hw Qh k => by
  obtain ⟨a, xs, rfl, h1, _, h2⟩ := tup_at r hv
  obtain ⟨v, h3, h4⟩ := atl_at h2 hi
  exact ⟨a, xs, i, v, rfl, int_at hw, h1, h3, k v R H (.p d) r (Same.refl R) h4 q⟩
theorem vo_ixS {z : Str} {i : Int} {c : Nat} (hz : z.length ≤ 100000) (hi : atI z.cps.toList i = some c) (q : Q (.p (.str ⟨#[c]⟩))) : VO K G B rIxS env (.p (.str z)) (.p (.int i)) Q := fun σ R H r v w hv hw Qh k =>
  ⟨z, i, c, str_at hv, int_at hw, Nat.le_trans hz (by decide), hi, k _ R H (.p (.str _)) r (Same.refl R) (.str _) q⟩
theorem vo_add_str {i j : Str} (hl : i.length + j.length ≤ 100000) (q : Q (.p (.str (i ++ j)))) : VO K G B (fun x y H Q => ∃ i j, x = .str i ∧ y = .str j ∧ i.length + j.length ≤ sizeLine ∧ Q (.str (i ++ j)) H) env (.p (.str i)) (.p (.str j)) Q := fun σ R H r v w hv hw Qh k =>
  ⟨i, j, str_at hv, str_at hw, Nat.le_trans hl (by decide), k _ R H (.p (.str _)) r (Same.refl R) (.str _) q⟩
/-- xs + ys, [x] * n -/
theorem vo_cat {x y : XV} {ds es : List D} (hx : x.exL = some ds) (hy : y.exL = some es) (hl : ds.length + es.length ≤ 100000) (q : Q (.o (.lst (ds ++ es)))) : VO K G B rCat env x y Q := fun σ R H r v w hv hw Qh k => by
  obtain ⟨a, xs, rfl, h1, h2⟩ := exL_at r hv hx
  obtain ⟨b, ys, rfl, g1, g2⟩ := exL_at r hw hy
  refine ⟨a, b, xs, ys, rfl, rfl, h1, g1, by rw [h2.len, g2.len]; exact Nat.le_trans hl (by decide), fun p hp => ?_⟩
  obtain ⟨r2, v2⟩ := own_lst r hp (h2.app g2)
  exact k _ R _ _ r2 (Same.refl R) v2 q
theorem rep_one {α : Type} (x : α) : ∀ n, (List.replicate n [x]).flatten = List.replicate n x
  | 0 => rfl
  | n + 1 => by
    rw [List.replicate_succ, List.flatten_cons, rep_one x n]
    rfl
/-- t + u of tuples -/
theorem vo_catA {ds es : List D} (hl : ds.length + es.length ≤ 100000) (q : Q (.p (.tup (ds ++ es)))) : VO K G B (rCatA K) env (.p (.tup ds)) (.p (.tup es)) Q := fun σ R H r v w hv hw Qh k => by
  obtain ⟨a, xs, rfl, h1, h1', h2⟩ := tup_at r hv
  obtain ⟨b, ys, rfl, g1, g1', g2⟩ := tup_at r hw
  refine ⟨a, b, xs, ys, rfl, rfl, h1, g1, by rw [h2.len, g2.len]; exact Nat.le_trans hl (by decide), fun e => ?_, fun _ e => ?_, fun _ _ p hp => ?_⟩
  · subst e
    cases h2
    exact k _ R H (.p (.tup _)) r (Same.refl R) (.tup g1' g2) q
  · subst e
    cases g2
    rw [List.append_nil] at q
    exact k _ R H (.p (.tup _)) r (Same.refl R) (.tup h1' h2) q
  · have hn := r.sub.none hp
    exact k _ _ _ (.p (.tup _)) (r.newP hp rfl) (same_take hn) (.tup (.inl (.inl upd_same)) ((h2.app g2).same (same_take hn))) q
theorem vc1 {r : List V → Hp → VK → Prop} {x : XV} (h : ∀ σ R H, Rep K G B env σ R H → ∀ v, VAt K B env σ R H v x → ∀ Qh : VK,
    (∀ z R' H' x', Rep K G B env σ R' H' → Same R R' → VAt K B env σ R' H' z x' → Q x' → Qh z H') → r [v] H Qh) : VC K G B r env [x] Q := fun σ R H rp vs hv Qh k => by
  match vs, hv with
  | [v], hv => exact h σ R H rp v hv.1 Qh k
theorem vc2 {r : List V → Hp → VK → Prop} {x y : XV} (h : ∀ σ R H, Rep K G B env σ R H → ∀ v w, VAt K B env σ R H v x → VAt K B env σ R H w y → ∀ Qh : VK,
    (∀ z R' H' x', Rep K G B env σ R' H' → Same R R' → VAt K B env σ R' H' z x' → Q x' → Qh z H') → r [v, w] H Qh) : VC K G B r env [x, y] Q := fun σ R H rp vs hv Qh k => by
  match vs, hv with
  | [v, w], hv => exact h σ R H rp v w hv.1 hv.2.1 Qh k
/-- len of a list, a tuple, a text -/
theorem vc_lenL {x : XV} {ds : List D} (hx : x.seqL = some ds) (q : Q (.p (.int ds.length))) : VC K G B (fun xs H Q => ∃ p ys, xs = [.ref p] ∧ (SqL K H p ys ∨ SqT K H p ys) ∧ Q (.int ys.length) H) env [x] Q := vc1 fun σ R H r v hv Qh k => by
  obtain ⟨a, xs, rfl, h1, h2⟩ := seqL_at r hv hx
  exact ⟨a, xs, rfl, .inl h1, by rw [h2.len]; exact k _ R H (.p (.int _)) r (Same.refl R) (.int _) q⟩
theorem vc_lenT {ds : List D} (q : Q (.p (.int ds.length))) : VC K G B (fun xs H Q => ∃ p ys, xs = [.ref p] ∧ (SqL K H p ys ∨ SqT K H p ys) ∧ Q (.int ys.length) H) env [.p (.tup ds)] Q := vc1 fun σ R H r v hv Qh k => by
  obtain ⟨a, xs, rfl, h1, _, h2⟩ := tup_at r hv
  exact ⟨a, xs, rfl, .inr h1, by rw [h2.len]; exact k _ R H (.p (.int _)) r (Same.refl R) (.int _) q⟩
theorem vc_lenS {z : Str} (hl : z.length ≤ 100000) (q : Q (.p (.int z.length))) : VC K G B (fun xs H Q => ∃ z, xs = [.str z] ∧ z.length ≤ sizeLine ∧ Q (.int z.length) H) env [.p (.str z)] Q := vc1 fun σ R H r v hv Qh k =>
  ⟨z, by rw [str_at hv], Nat.le_trans hl (by decide), k _ R H (.p (.int _)) r (Same.refl R) (.int _) q⟩
theorem vc_listL {x : XV} {ds : List D} (hx : x.seqL = some ds) (q : Q (.o (.lst ds))) : VC K G B (fun xs H Q => ∃ p ys, xs = [.ref p] ∧ (SqL K H p ys ∨ SqT K H p ys) ∧ ∀ l, H l = none → Q (.ref l) (upd H l (.lst ys))) env [x] Q := vc1 fun σ R H r v hv Qh k => by
  obtain ⟨a, xs, rfl, h1, h2⟩ := seqL_at r hv hx
  refine ⟨a, xs, rfl, .inl h1, fun l hl => ?_⟩
  obtain ⟨r2, v2⟩ := own_lst r hl h2
  exact k _ R _ _ r2 (Same.refl R) v2 q
theorem vc_listT {ds : List D} (q : Q (.o (.lst ds))) : VC K G B (fun xs H Q => ∃ p ys, xs = [.ref p] ∧ (SqL K H p ys ∨ SqT K H p ys) ∧ ∀ l, H l = none → Q (.ref l) (upd H l (.lst ys))) env [.p (.tup ds)] Q := vc1 fun σ R H r v hv Qh k => by
  obtain ⟨a, xs, rfl, h1, _, h2⟩ := tup_at r hv
  refine ⟨a, xs, rfl, .inr h1, fun l hl => ?_⟩
  obtain ⟨r2, v2⟩ := own_lst r hl h2
  exact k _ R _ _ r2 (Same.refl R) v2 q
theorem vc_tupL {x : XV} {ds : List D} (hx : x.seqL = some ds) (q : Q (.p (.tup ds))) : VC K G B (fun xs H Q => ∃ p ys, xs = [.ref p] ∧ ((SqL K H p ys ∧ ∀ l, H l = none → Q (.ref l) (upd H l (.tup ys))) ∨ (SqT K H p ys ∧ Q (.ref p) H))) env [x] Q := vc1 fun σ R H r v hv Qh k => by
  obtain ⟨a, xs, rfl, h1, h2⟩ := seqL_at r hv hx
  refine ⟨a, xs, rfl, .inl ⟨h1, fun l hl => ?_⟩⟩
  have hn := r.sub.none hl
  exact k _ _ _ (.p (.tup _)) (r.newP hl rfl) (same_take hn) (.tup (.inl (.inl upd_same)) (h2.same (same_take hn))) q
theorem vc_max2 {i j : Int} (q : Q (.p (.int (max i j)))) : VC K G B (fun xs H Q => ∃ i j, xs = [.int i, .int j] ∧ Q (.int (if j > i then j else i)) H) env [.p (.int i), .p (.int j)] Q := vc2 fun σ R H r v w hv hw Qh k => by
  refine ⟨i, j, by rw [int_at hv, int_at hw], ?_⟩
  have e : (if j > i then j else i) = max i j := by split <;> omega
  rw [e]
  exact k _ R H (.p (.int _)) r (Same.refl R) (.int _) q
theorem vc_min2 {i j : Int} (q : Q (.p (.int (min i j)))) : VC K G B (fun xs H Q => ∃ i j, xs = [.int i, .int j] ∧ Q (.int (if j < i then j else i)) H) env [.p (.int i), .p (.int j)] Q := vc2 fun σ R H r v w hv hw Qh k => by
  refine ⟨i, j, by rw [int_at hv, int_at hw], ?_⟩
  have e : (if j < i then j else i) = min i j := by split <;> omega
  rw [e]
  exact k _ R H (.p (.int _)) r (Same.refl R) (.int _) q
theorem vc_abs {i : Int} (q : Q (.p (.int (if i < 0 then -i else i)))) : VC K G B (fun xs H Q => ∃ i, xs = [.int i] ∧ Q (.int (if i < 0 then -i else i)) H) env [.p (.int i)] Q := vc1 fun σ R H r v hv Qh k =>
  ⟨i, by rw [int_at hv], k _ R H (.p (.int _)) r (Same.refl R) (.int _) q⟩
theorem vc_intB {b : Bool} (q : Q (.p (.int (if b then 1 else 0)))) : VC K G B (fun xs H Q => (∃ i, xs = [.int i] ∧ Q (.int i) H) ∨ ∃ k, xs = [.bl k] ∧ Q (.int (if k then 1 else 0)) H) env [.p (.bl b)] Q := vc1 fun σ R H r v hv Qh k =>
  .inr ⟨b, by rw [bl_at hv], k _ R H (.p (.int _)) r (Same.refl R) (.int _) q⟩
theorem AtL.bls_inv : ∀ {vs : List V} {ns : List Bool}, AtL K R vs (ns.map D.bl) → vs = ns.map V.bl
  | _, [], h => by cases h; rfl
  | _, n :: r, h => by
    cases h with
    | cons h t =>
      cases h
      rw [AtL.bls_inv t]
      rfl
theorem AtL.strs_inv : ∀ {vs : List V} {ns : List Str}, AtL K R vs (ns.map D.str) → vs = ns.map V.str
  | _, [], h => by cases h; rfl
  | _, n :: r, h => by
    cases h with
    | cons h t =>
      cases h
      rw [AtL.strs_inv t]
      rfl
theorem vc_all {x : XV} {bs : List Bool} (hx : x.seqL = some (bs.map D.bl)) (q : Q (.p (.bl (bs.all id)))) : VC K G B (rAll K) env [x] Q := vc1 fun σ R H r v hv Qh k => by
  obtain ⟨a, xs, rfl, h1, h2⟩ := seqL_at r hv hx
  rw [AtL.bls_inv h2] at h1
  exact ⟨a, bs, rfl, h1, k _ R H (.p (.bl _)) r (Same.refl R) (.bl _) q⟩
def VP (K : PySem.W.Frag) (G : Gs) (B : Bs) (t : TO) (env : Vn) (Q : Option Int → Prop) : Prop := ∀ σ R H, Rep K G B env σ R H → ∀ Qh : Option Int → Hp → Prop,
  (∀ o R' H', Rep K G B env σ R' H' → Same R R' → Q o → Qh o H') → t σ H Qh
theorem vp_none {Qo : Option Int → Prop} (q : Qo none) : VP K G B tNoPart env Qo := fun σ R H r Qh k => k none R H r (Same.refl R) q
theorem vp_some {Qo : Option Int → Prop} {te : TE} (h : VE K G B te env fun x => ∃ i, x = .p (.int i) ∧ Qo (some i)) : VP K G B (tPart te) env Qo := fun σ R H r Qh k => h σ R H r _ fun v R' H' x r' s' hv ⟨i, e, q⟩ => by
  subst e
  exact ⟨i, int_at hv, k _ R' H' r' s' q⟩
def VSl (K : PySem.W.Frag) (G : Gs) (B : Bs) (r : V → Option Int → Option Int → Hp → VK → Prop) (env : Vn) (x : XV) (lo hi : Option Int) (Q : XV → Prop) : Prop := ∀ σ R H, Rep K G B env σ R H → ∀ v, VAt K B env σ R H v x → ∀ Qh : VK,
  (∀ z R' H' x', Rep K G B env σ R' H' → Same R R' → VAt K B env σ R' H' z x' → Q x' → Qh z H') → r v lo hi H Qh
theorem ve_slice {r : V → Option Int → Option Int → Hp → VK → Prop} {te : TE} {tl th : TO} (h : VE K G B te env fun x => x.fz fun x => VP K G B tl env fun lo => VP K G B th env fun hi => VSl K G B r env x lo hi Q) : VE K G B (tSl r te tl th) env Q := fun σ R H rp Qh k =>
  h σ R H rp _ fun v R1 H1 x r1 s1 hv q => by
    obtain ⟨R2, x', r2, s2, hv2, ho, q2⟩ := hv.fz r1 q
    exact q2 σ R2 H1 r2 _ fun lo R3 H3 r3 s3 q3 => q3 σ R3 H3 r3 _ fun hi R4 H4 r4 s4 q4 => q4 σ R4 H4 r4 v (hv2.go ho (s3.trans s4)) Qh fun z R5 H5 x5 r5 s5 hz q5 => k z R5 H5 x5 r5 ((((s1.trans s2).trans s3).trans s4).trans s5) hz q5
def cutD (ds : List D) (lo hi : Option Int) : List D := (ds.drop (HT.sIx ds.length 0 lo)).take (HT.sIx ds.length ds.length hi - HT.sIx ds.length 0 lo)
theorem AtL.cut {xs : List V} {ds : List D} (h : AtL K R xs ds) (lo hi : Option Int) : AtL K R (cutV xs lo hi) (cutD ds lo hi) := by
  unfold cutV cutD
  rw [h.len]
  exact (h.drop _).take _
theorem vsl_list {x : XV} {ds : List D} {lo hi : Option Int} (hx : x.seqL = some ds) (q : Q (.o (.lst (cutD ds lo hi)))) : VSl K G B (rSlL K) env x lo hi Q := fun σ R H r v hv Qh k => by
  obtain ⟨a, xs, rfl, h1, h2⟩ := seqL_at r hv hx
  refine ⟨a, xs, rfl, h1, fun p hp => ?_⟩
  obtain ⟨r2, v2⟩ := own_lst r hp (h2.cut lo hi)
  exact k _ R _ _ r2 (Same.refl R) v2 q
theorem cutD_all {ds : List D} {lo hi : Option Int} (h : HT.sIx ds.length 0 lo = 0 ∧ HT.sIx ds.length ds.length hi = ds.length) : cutD ds lo hi = ds := by
  unfold cutD
  rw [h.1, h.2, List.drop_zero, Nat.sub_zero, List.take_length]
theorem vsl_tup {ds : List D} {lo hi : Option Int} (q : Q (.p (.tup (cutD ds lo hi)))) : VSl K G B (rSlA K) env (.p (.tup ds)) lo hi Q := fun σ R H r v hv Qh k => by
  obtain ⟨a, xs, rfl, h1, h1', h2⟩ := tup_at r hv
  refine ⟨a, xs, rfl, h1, fun e => ?_, fun _ p hp => ?_⟩
  · rw [h2.len] at e
    rw [cutD_all e] at q
    exact k _ R H (.p (.tup _)) r (Same.refl R) (.tup h1' h2) q
  · have hn := r.sub.none hp
    exact k _ _ _ (.p (.tup _)) (r.newP hp rfl) (same_take hn) (.tup (.inl (.inl upd_same)) ((h2.cut lo hi).same (same_take hn))) q
/-- xs.append(e) -/
theorem vs_append {i : Nat} {te : TE} {ds : List D} (hd : env[i]? = some (.mu (.lst ds))) (h : VE K G B te env fun x => x.fz fun x => ∃ d, x = .p d ∧ ds.length < 100000 ∧ nx (env.set i (.mu (.lst (ds ++ [d]))))) :
    VS K G B (tDrop (tBM K "list" rAppend (tVar i) (tCons te tNil))) env nx rt bk ct := fun σ R H r Z kn _ _ _ => by
  obtain ⟨a, y, h1, h2, h3, h4, h5⟩ := r.slots i _ hd
  obtain ⟨xs, rfl⟩ : ∃ xs, y = .lst xs := by cases y <;> first | exact ⟨_, rfl⟩ | exact h5.elim
  refine ⟨.ref a, h1, .inl ⟨rfl, xs, .inl (.inl h4)⟩, h σ R H r _ fun v R1 H1 x r1 s1 hv q => ?_⟩
  obtain ⟨R2, x', r2, s2, hv2, ho, d, rfl, hl, q2⟩ := hv.fz r1 q
  obtain ⟨b, y, g1, g2, g3, g4, g5⟩ := r2.slots i _ hd
  rw [h1] at g1
  cases g1
  obtain ⟨ys, rfl⟩ : ∃ xs, y = .lst xs := by cases y <;> first | exact ⟨_, rfl⟩ | exact g5.elim
  refine ⟨a, ys, v, rfl, rfl, g4, by rw [AtL.len g5]; exact Nat.lt_of_lt_of_le hl (by decide), ?_⟩
  exact kn _ σ R2 _ (r2.mut hd h1 (y := .lst (ys ++ [v])) (d' := .lst (ds ++ [d])) (AtL.app g5 (.cons hv2 .nil))) (s1.trans s2) q2
/-- xs[e] = v -/
theorem vg_subL {i : Nat} {te : TE} {ds : List D} {d : D} (hd : env[i]? = some (.mu (.lst ds))) (h : VE K G B te env fun x => ∃ z j, x = .p (.int z) ∧ ixN ds.length z = some j ∧ Qe (env.set i (.mu (.lst (ds.set j d))))) :
    VG K G B (gSub (tVar i) te rSetL) (.p d) env Qe := fun σ R H r v hv Qh k => by
  obtain ⟨a, y, h1, _⟩ := r.slots i _ hd
  refine ⟨.ref a, h1, h σ R H r _ fun w R1 H1 x r1 s1 hw ⟨z, j, e, hj, q⟩ => ?_⟩
  subst e
  cases hw
  obtain ⟨b, y, g1, g2, g3, g4, g5⟩ := r1.slots i _ hd
  rw [h1] at g1
  cases g1
  obtain ⟨ys, rfl⟩ : ∃ xs, y = .lst xs := by cases y <;> first | exact ⟨_, rfl⟩ | exact g5.elim
  refine ⟨a, ys, z, j, rfl, rfl, g4, by rw [AtL.len g5]; exact hj, ?_⟩
  exact k _ σ R1 _ (r1.mut hd h1 (y := .lst (ys.set j v)) (d' := .lst (ds.set j d)) (AtL.set (At.same s1 hv) j g5)) s1 q
/-- xs.insert(e, f) -/
theorem vs_insert {i : Nat} {te tf : TE} {ds : List D} (hd : env[i]? = some (.mu (.lst ds))) (h : VE K G B te env fun x => ∃ z, x = .p (.int z) ∧ 0 ≤ z ∧ z < 2 ^ 63 ∧ ds.length < 100000 ∧ VE K G B tf env fun y => y.fz fun y => ∃ d, y = .p d ∧ nx (env.set i (.mu (.lst (ds.take z.toNat ++ [d] ++ ds.drop z.toNat))))) :
    VS K G B (tDrop (tBM K "list" (fun x vs H Q => ∃ (l : Addr) (xs : List V) (i : Int) (y : V), x = .ref l ∧ vs = [.int i, y] ∧ H l = some (.lst xs) ∧ xs.length < sizeLine ∧ 0 ≤ i ∧ i < 2 ^ 63 ∧ Q .non (upd H l (.lst (xs.take i.toNat ++ [y] ++ xs.drop i.toNat)))) (tVar i) (tCons te (tCons tf tNil)))) env nx rt bk ct := fun σ R H r Z kn _ _ _ => by
  obtain ⟨a, y, h1, h2, h3, h4, h5⟩ := r.slots i _ hd
  obtain ⟨xs, rfl⟩ : ∃ xs, y = .lst xs := by cases y <;> first | exact ⟨_, rfl⟩ | exact h5.elim
  refine ⟨.ref a, h1, .inl ⟨rfl, xs, .inl (.inl h4)⟩, h σ R H r _ fun w R0 H0 x0 r0 s0 hw ⟨z, e, z0, z1, hl, h'⟩ => h' σ R0 H0 r0 _ fun v R1 H1 x r1 s1 hv q => ?_⟩
  subst e
  cases hw
  obtain ⟨R2, x', r2, s2, hv2, ho, d, rfl, q2⟩ := hv.fz r1 q
  obtain ⟨b, y, g1, g2, g3, g4, g5⟩ := r2.slots i _ hd
  rw [h1] at g1
  cases g1
  obtain ⟨ys, rfl⟩ : ∃ xs, y = .lst xs := by cases y <;> first | exact ⟨_, rfl⟩ | exact g5.elim
  have g6 : AtL K R2 ys ds := g5
  refine ⟨a, ys, z, v, rfl, rfl, g4, by rw [g6.len]; exact Nat.lt_of_lt_of_le hl (by decide), z0, z1, ?_⟩
  exact kn _ σ R2 _ (r2.mut hd h1 (y := .lst (ys.take z.toNat ++ [v] ++ ys.drop z.toNat)) (d' := .lst (ds.take z.toNat ++ [d] ++ ds.drop z.toNat)) (((g6.take _).app (.cons hv2 .nil)).app (g6.drop _))) ((s0.trans s1).trans s2) q2
def TgOnly (g : TG) (vs : List Nat) : Prop := ∀ v σ H (Q Q' : L2.St → Hp → Prop), (∀ σ' H', wipe σ' vs = wipe σ vs → Q σ' H' → Q' σ' H') → g v σ H Q → g v σ H Q'
def TgsOnly (g : TGs) (vs : List Nat) : Prop := ∀ v σ H (Q Q' : L2.St → Hp → Prop), (∀ σ' H', wipe σ' vs = wipe σ vs → Q σ' H' → Q' σ' H') → g v σ H Q → g v σ H Q'
theorem wipe_set : ∀ (σ : L2.St) (vs : List Nat) (i : Nat) (x : Option V), i ∈ vs → wipe (σ.set i x) vs = wipe σ vs := by
  have out : ∀ (σ : L2.St) (vs : List Nat) (i : Nat) (x : Option V), i ∉ vs → wipe (σ.set i x) vs = (wipe σ vs).set i x := by
    intro σ vs
    induction vs with
    | nil => intro i x _; rfl
    | cons v r ih =>
      intro i x h
      have hv : i ≠ v := fun z => h (by rw [z]; exact List.mem_cons_self)
      show (wipe (σ.set i x) r).set v none = ((wipe σ r).set v none).set i x
      rw [ih i x fun z => h (List.mem_cons_of_mem _ z), List.set_comm _ _ (Ne.symm hv).symm]
  intro σ vs
  induction vs with
  | nil => intro i x h; cases h
  | cons v r ih =>
    intro i x h
    show (wipe (σ.set i x) r).set v none = (wipe σ r).set v none
    by_cases hr : i ∈ r
    · rw [ih i x hr]
    · have e : i = v := by
        rcases List.mem_cons.mp h with e | e
        · exact e
        · exact absurd e hr
      subst e
      rw [out σ r i x hr, List.set_set]
theorem only_name {i : Nat} {vs : List Nat} (h : i ∈ vs) : TgOnly (gName i) vs := fun v σ H Q Q' k q => k _ _ (wipe_set σ vs i _ h) q
theorem only_nil {vs : List Nat} : TgsOnly gNil vs := fun v σ H Q Q' k ⟨e, q⟩ => ⟨e, k _ _ rfl q⟩
theorem only_cons {t : TG} {u : TGs} {vs : List Nat} (h1 : TgOnly t vs) (h2 : TgsOnly u vs) : TgsOnly (gCons t u) vs := fun v σ H Q Q' k ⟨x, r, e, q⟩ =>
  ⟨x, r, e, h1 x σ H _ _ (fun σ' H' w q => h2 r σ' H' _ _ (fun σ2 H2 w2 q2 => k σ2 H2 (w2.trans w) q2) q) q⟩
theorem only_tup {n : Nat} {u : TGs} {vs : List Nat} (h2 : TgsOnly u vs) : TgOnly (gTup K n u) vs := fun v σ H Q Q' k ⟨a, xs, e, h, hl, q⟩ => ⟨a, xs, e, h, hl, h2 xs σ H _ _ k q⟩
theorem wipe_wipe (σ : L2.St) : ∀ vs, wipe (wipe σ vs) vs = wipe σ vs := by
  have h : ∀ (vs ws : List Nat) (τ : L2.St), (∀ v ∈ ws, v ∈ vs) → wipe (wipe τ ws) vs = wipe τ vs := by
    intro vs ws
    induction ws with
    | nil => intro τ _; rfl
    | cons w r ih =>
      intro τ hw
      show wipe ((wipe τ r).set w none) vs = wipe τ vs
      rw [wipe_set _ _ _ _ (hw w List.mem_cons_self)]
      exact ih τ fun v q => hw v (List.mem_cons_of_mem _ q)
  intro vs
  exact h vs vs σ fun v q => q
theorem wipe_get {σ : L2.St} : ∀ {vs : List Nat} {i : Nat}, i ∉ vs → (wipe σ vs)[i]? = σ[i]?
  | [], _, _ => rfl
  | v :: r, i, h => by
    show ((wipe σ r).set v none)[i]? = σ[i]?
    rw [List.getElem?_set_ne (fun z => h (by rw [z]; exact List.mem_cons_self))]
    exact wipe_get fun z => h (List.mem_cons_of_mem _ z)
theorem Rep.wiped (r : Rep K G B env σ R H) {vs : List Nat} (hu : ∀ v ∈ vs, env[v]? = some .u) : Rep K G B env (wipe σ vs) R H := by
  have hg : ∀ (j : Nat) sl, env[j]? = some sl → sl ≠ .u → (wipe σ vs)[j]? = σ[j]? := fun j sl q n => wipe_get fun z => n (by rw [hu j z] at q; exact (Option.some.inj q).symm)
  have ho : ∀ (j : Nat) sl a, env[j]? = some sl → Slot.owns (wipe σ vs)[j]? a sl → Slot.owns σ[j]? a sl := fun j sl a h o => by
    by_cases n : sl = .u
    · subst n
      exact o.elim
    · rw [hg j sl h n] at o
      exact o
  exact {
    sub0 := r.sub0
    tab := r.tab
    step := r.step
    len := by rw [wipe_length]; exact r.len
    slots := fun i sl q => by
      have := r.slots i sl q
      cases sl with
      | u => trivial
      | p d =>
        obtain ⟨v, h1, h2⟩ := this
        exact ⟨v, by rw [hg i _ q (fun z => by cases z)]; exact h1, h2⟩
      | mu d =>
        obtain ⟨a, y, h1, h2⟩ := this
        exact ⟨a, y, by rw [hg i _ q (fun z => by cases z)]; exact h1, h2⟩
      | hp gs => exact this
    dist := fun i j si sj a n hi hj o1 o2 => r.dist i j si sj a n hi hj (ho i si a hi o1) (ho j sj a hj o2)
    pr := fun q hq => by
      obtain ⟨h1, h2, h3, h0, h4⟩ := r.pr q hq
      exact ⟨h1, h2, h3, h0, fun j e hj o => h4 j e hj (ho j e _ hj o)⟩ }
def Agree (vs : List Nat) (env e : Vn) : Prop := e.length = env.length ∧ ∀ i : Nat, i ∉ vs → e[i]? = env[i]?
theorem Agree.refl {vs : List Nat} : Agree vs env env := ⟨rfl, fun _ _ => rfl⟩
theorem Agree.set {vs : List Nat} {e : Vn} {i : Nat} {s : Slot} (h : Agree vs env e) (hi : i ∈ vs) : Agree vs env (e.set i s) := ⟨by rw [List.length_set]; exact h.1, fun j hj => by
  rw [List.getElem?_set_ne (fun z => hj (by rw [← z]; exact hi))]
  exact h.2 j hj⟩
theorem Rep.unwiped {σ2 : L2.St} {e2 : Vn} {vs : List Nat} (r : Rep K G B env σ R H) (r2 : Rep K G B e2 σ2 R' H') (hu : ∀ v ∈ vs, env[v]? = some .u) (a : Agree vs env e2) (hw : wipe σ2 vs = wipe σ vs) : Rep K G B env σ R' H' := by
  have hs : ∀ i : Nat, i ∉ vs → σ2[i]? = σ[i]? := fun i hi => by rw [← wipe_get hi, hw, wipe_get hi]
  have he : ∀ (i : Nat) sl, env[i]? = some sl → sl ≠ .u → e2[i]? = some sl ∧ σ2[i]? = σ[i]? := fun i sl q n => by
    have hi : i ∉ vs := fun z => n (by rw [hu i z] at q; exact (Option.some.inj q).symm)
    exact ⟨by rw [a.2 i hi]; exact q, hs i hi⟩
  exact {
    sub0 := r.sub0
    tab := r.tab
    step := r2.step
    len := r.len
    dist := r.dist
    slots := fun i sl q => by
      by_cases n : sl = .u
      · subst n
        trivial
      · obtain ⟨q1, q2⟩ := he i sl q n
        have := r2.slots i sl q1
        cases sl with
        | u => trivial
        | p d =>
          obtain ⟨v, h1, h2⟩ := this
          exact ⟨v, by rw [← q2]; exact h1, h2⟩
        | mu d =>
          obtain ⟨a, y, h1, h2⟩ := this
          exact ⟨a, y, by rw [← q2]; exact h1, h2⟩
        | hp gs => exact this
    pr := fun q hq => by
      obtain ⟨h1, h2, h3, h4⟩ := r2.pr q hq
      exact ⟨h1, h2, h3, (r.pr q hq).2.2.2⟩ }
/-- [elt for target in iter if test] -/
theorem ve_lc {wi : TI} {g : TG} {tt : TT} {te : TE} {vs : List Nat} (hu : ∀ v ∈ vs, env[v]? = some .u) (ho : TgOnly g vs)
    (h : VI K G B wi env fun items => items.length < 100000 ∧ ∃ Iv : Nat → List D → Prop, Iv 0 [] ∧
      (∀ p (i : Nat) d acc, items[i]? = some d → Iv i acc → VG K G { B with pr := p :: B.pr } g (.p d) env fun e => Agree vs env e ∧ VT K G { B with pr := p :: B.pr } tt e fun b =>
        (b = true → VE K G { B with pr := p :: B.pr } te e fun x => x.fz fun x => ∃ y, x = .p y ∧ Iv (i + 1) (acc ++ [y])) ∧ (b = false → Iv (i + 1) acc)) ∧ (∀ acc, Iv items.length acc → Q (.o (.lst acc)))) :
    VE K G B (tLc wi g tt te vs) env Q := fun σ R H r Qh k =>
  h σ R H r _ fun J R1 H1 items r1 s1 wk ⟨hsz, Iv, h0, hs, he⟩ => by
    intro D hD
    refine ⟨fun i m H' => i + m = items.length ∧ ∃ R' xs ds, Rep K G { B with pr := (D, .lst xs) :: B.pr } env σ R' H' ∧ Same R1 R' ∧ AtL K R' xs ds ∧ ds.length ≤ i ∧ Iv i ds,
      ⟨items.length, Nat.zero_add _, R1, [], [], (r1.new hD).guard (r1.fresh hD) (r1.sub.none hD) upd_same rfl (r1.noslot hD), Same.refl _, .nil, Nat.le_refl _, h0⟩, ?_⟩
    rintro i m H' ⟨hi, R', xs, ds, r', s', ha, hl, q⟩
    obtain ⟨d1, d2, d3, _, d4⟩ := r'.guarded
    have ru := r'.unguard
    by_cases hm : m = 0
    · subst hm
      have ei : i = items.length := hi
      subst ei
      refine .inl ⟨wk.stop _ env σ R' H' r' s', k (.ref D) R' H' (.o (.lst ds)) ru (s1.trans s') ⟨D, _, rfl, d1, d2, d3, ha, d4, ?_⟩ (he ds q)⟩
      -- no elder protected object is D
      intro p hp e
      have h3 := (r1.pr p hp).2.2.1
      rw [e, hD] at h3
      cases h3
    · have hlt : i < items.length := by omega
      have rw' := r'.wiped hu
      obtain ⟨g1, g2⟩ := wk.go _ env _ R' H' rw' s' i items[i] (List.getElem?_eq_getElem hlt)
      refine .inr ⟨g1, fun H2 => ∃ R' xs ds, Rep K G { B with pr := (D, .lst xs) :: B.pr } env σ R' H2 ∧ Same R1 R' ∧ AtL K R' xs ds ∧ ds.length ≤ i + 1 ∧ Iv (i + 1) ds, fun H2 ⟨R2, ys, es, a, b, c, d, e⟩ => ⟨m - 1, by omega, by omega, R2, ys, es, a, b, c, d, e⟩, fun v H2 hy => ?_⟩
      obtain ⟨R2, r2, s2, hv⟩ := g2 v H2 hy
      have st2 : Same R1 R2 := s'.trans s2
      refine ho v (wipe σ vs) H2 _ _ ?_ (hs _ i items[i] ds (List.getElem?_eq_getElem hlt) q _ R2 H2 r2 v hv (fun σ3 H3 => ∃ e R3, Rep K G { B with pr := (D, .lst xs) :: B.pr } e σ3 R3 H3 ∧ Same R2 R3 ∧ Agree vs env e ∧ VT K G { B with pr := (D, .lst xs) :: B.pr } tt e _) fun e σ3 R3 H3 r3 s3 q3 => ⟨e, R3, r3, s3, q3.1, q3.2⟩)
      rintro σ3 H3 hw ⟨e, R3, r3, s3, hag, q3⟩
      have hw3 : wipe σ3 vs = wipe σ vs := hw.trans (wipe_wipe σ vs)
      refine ⟨hw3, q3 σ3 R3 H3 r3 _ fun b R4 H4 r4 s4 q4 => ?_⟩
      cases b with
      | false =>
        have st4 : Same R1 R4 := (st2.trans s3).trans s4
        exact iteF ⟨R4, xs, ds, r'.unwiped r4 hu hag hw3, st4, ha.same ((s2.trans s3).trans s4), Nat.le_succ_of_le hl, q4.2 rfl⟩
      | true =>
        refine iteT (q4.1 rfl σ3 R4 H4 r4 _ fun w R5 H5 x r5 s5 hw5 q5 => ?_)
        obtain ⟨R6, x', r6, s6, hv6, hof, y, rfl, q6⟩ := hw5.fz r5 q5
        obtain ⟨f1, f2, f3, _, f4⟩ := r6.guarded
        have st6 : Same R1 R6 := ((((st2.trans s3).trans s4).trans s5).trans s6)
        have st6' : Same R' R6 := ((((s2.trans s3).trans s4).trans s5).trans s6)
        refine ⟨xs, f3, by rw [ha.len]; exact Nat.lt_of_le_of_lt hl (Nat.lt_trans hlt (Nat.lt_of_lt_of_le hsz (by decide))), R6, xs ++ [w], ds ++ [y], ?_, st6, (ha.same st6').app (.cons hv6 .nil), ?_, q6⟩
        · have r7 := (r'.unwiped r6 hu hag hw3)
          have r8 := r7.unguard
          have np : ∀ q ∈ B.pr, q.1 ≠ D := fun p hp e => by
            have h3 := (r1.pr p hp).2.2.1
            rw [e, hD] at h3
            cases h3
          exact (r8.mutA (y := .lst (xs ++ [w])) f3 rfl f1 f2 d4 np).guard f1 f2 upd_same rfl d4
        · rw [List.length_append]
          exact Nat.succ_le_succ hl
/-- no tests, one test -/
theorem vt_yes (q : Qb true) : VT K G B tYes env Qb := fun σ R H r Qh k => k true R H r (Same.refl R) q
theorem ex_bl {Qb : Bool → Prop} {b : Bool} (q : Qb b) : ∃ c, XV.p (.bl b) = XV.p (.bl c) ∧ Qb c := ⟨b, rfl, q⟩
theorem ex_int {Qb : Int → Prop} {b : Int} (q : Qb b) : ∃ c, XV.p (.int b) = XV.p (.int c) ∧ Qb c := ⟨b, rfl, q⟩
theorem ex_io {Qb : Option Int → Prop} {b : Int} (q : Qb (some b)) : ∃ c, XV.p (.int b) = XV.p (.int c) ∧ Qb (some c) := ⟨b, rfl, q⟩
theorem ex_plains {Q : List D → Prop} {xs : List XV} {ds : List D} (h : XV.plains xs = some ds) (hl : Nat.ble ds.length 100000 = true) (q : Q ds) : ∃ ds, XV.plains xs = some ds ∧ ds.length ≤ 100000 ∧ Q ds := ⟨ds, h, Nat.le_of_ble_eq_true hl, q⟩
end
end VL
namespace VL
open PySem L2
section
variable {K : PySem.W.Frag} {G : Gs} {B : Bs} {env : Vn} {σ : L2.St} {R R' R1 H H' H1 : Hp} {Q : XV → Prop} {nx : Vn → Prop} {rt : XV → Prop} {bk ct : Vn → Prop} {Qe : Vn → Prop} {Qb : Bool → Prop} {Ql : List D → Prop}
theorem and_f {b : Bool} {A B : Prop} (hb : b = false) (q : B) : (b = true → A) ∧ (b = false → B) := ⟨fun h => (by rw [hb] at h; cases h), fun _ => q⟩
theorem and_t {b : Bool} {A B : Prop} (hb : b = true) (q : A) : (b = true → A) ∧ (b = false → B) := ⟨fun _ => q, fun h => (by rw [hb] at h; cases h)⟩
theorem vs_cut {t : TS} (M : Vn → Prop) (h : VS K G B t env M rt bk ct) (k : ∀ e, M e → nx e) : VS K G B t env nx rt bk ct := fun σ R H r Z kn kr kb kc => h σ R H r Z (fun e σ' R' H' r' s' q => kn e σ' R' H' r' s' (k e q)) kr kb kc
theorem flat_ints (ns : List Int) : D.flat (.lst (ns.map D.int)) = true := by
  show (ns.map D.int).all (D.deepT 9) = true
  rw [List.all_map]
  exact List.all_eq_true.mpr fun _ _ => rfl
theorem cutD_ints (ns : List Int) (lo hi : Option Int) : cutD (ns.map D.int) lo hi = ((ns.drop (HT.sIx ns.length 0 lo)).take (HT.sIx ns.length ns.length hi - HT.sIx ns.length 0 lo)).map D.int := by
  unfold cutD
  rw [List.length_map, ← List.map_drop, ← List.map_take]
theorem sIx_nn {n d : Nat} {k : Int} (h : 0 ≤ k) : HT.sIx n d (some k) = min k.toNat n := by
  show (if k < 0 then (k + (n : Int)).toNat else min k.toNat n) = min k.toNat n
  rw [if_neg (by omega)]
def MuAt (env : Vn) (σ : L2.St) (b : Addr) : Prop := ∃ (i : Nat) (sl : Slot), env[i]? = some sl ∧ Slot.owns σ[i]? b sl
open Classical in
noncomputable def lend (R H : Hp) (env : Vn) (σ : L2.St) : Hp := fun b => if MuAt env σ b then H b else R b
open Classical in
noncomputable def cutMu (R : Hp) (env : Vn) (σ : L2.St) : Hp := fun b => if MuAt env σ b then none else R b
theorem lend_mu {b : Addr} (h : MuAt env σ b) : lend R H env σ b = H b := if_pos h
theorem lend_no {b : Addr} (h : ¬ MuAt env σ b) : lend R H env σ b = R b := if_neg h
theorem cut_mu {b : Addr} (h : MuAt env σ b) : cutMu R env σ b = none := if_pos h
theorem cut_no {b : Addr} (h : ¬ MuAt env σ b) : cutMu R env σ b = R b := if_neg h
theorem Rep.mu (r : Rep K G B env σ R H) {b : Addr} (h : MuAt env σ b) : R b = none ∧ ∃ y, H b = some y ∧ isLD y = true := by
  obtain ⟨i, sl, h1, h2⟩ := h
  exact (r.own h1 h2).2
theorem at_cut (hc : ∀ b, MuAt env σ b → ∃ y, R b = some y ∧ isLD y = true) : ∀ (n : Nat) {v : V} {d : D}, D.deepT n d = true → At K R v d → At K (cutMu R env σ) v d := by
  intro n
  induction n with
  | zero => intro v d h _; cases h
  | succ n ih =>
    intro v d h t
    cases t with
    | non => exact .non
    | bl b => exact .bl b
    | int i => exact .int i
    | str x => exact .str x
    | ty n => exact .ty n
    | @tup b xs ds hs ht =>
      have hn : ∀ u, R b = some u → isLD u = false → cutMu R env σ b = R b := fun u e hu => cut_no fun z => by
        obtain ⟨y, h1, h2⟩ := hc b z
        rw [e] at h1
        cases h1
        rw [hu] at h2
        cases h2
      refine .tup (xs := xs) ?_ ?_
      · rcases hs with (hs | ⟨o, hs⟩) | hs
        · exact .inl (.inl (by rw [hn _ hs rfl]; exact hs))
        · exact .inl (.inr ⟨o, by rw [hn _ hs rfl]; exact hs⟩)
        · exact .inr hs
      · have hd : ∀ d ∈ ds, D.deepT n d = true := List.all_eq_true.mp h
        exact ht.imp fun v d hm => ih (hd d hm)
    | lst _ _ => cases h
    | ro _ _ => cases h
    | dct _ _ => cases h
    | lkd _ _ => cases h
    | dtt _ => cases h
    | ins _ _ _ => cases h
    | @key b ks hs =>
      refine .key ?_
      rw [cut_no]
      · exact hs
      · intro z
        obtain ⟨y, h1, h2⟩ := hc b z
        rw [hs] at h1
        cases h1
        cases h2
    | @st b φ hs =>
      refine .st (φ := φ) ?_
      rw [cut_no]
      · exact hs
      · intro z
        obtain ⟨y, h1, h2⟩ := hc b z
        rw [hs] at h1
        cases h1
        cases h2
    | ptr b => exact .ptr b
    | @cm b i j hs =>
      refine .cm (i := i) (j := j) ?_
      rw [cut_no]
      · exact hs
      · intro z
        obtain ⟨y, h1, h2⟩ := hc b z
        rw [hs] at h1
        cases h1
        cases h2
def XV.lent : List XV → Option (List D)
  | [] => some []
  | .p d :: r => match XV.lent r with
    | some ds => some (d :: ds)
    | none => none
  | .m _ d :: r => match XV.lent r with
    | some ds => some (d :: ds)
    | none => none
  | .o _ :: _ => none
theorem lent_at (r : Rep K G B env σ R H) : ∀ {vs : List V} {xs : List XV} {ds : List D}, XV.lent xs = some ds → VAtL K B env σ R H vs xs → AtL K (lend R H env σ) vs ds
  | [], [], _, e, _ => by
    cases e
    exact .nil
  | [], _ :: _, _, _, h => h.elim
  | _ :: _, [], _, _, h => h.elim
  | v :: vs, .p d :: xs, ds, e, h => by
    unfold XV.lent at e
    cases q : XV.lent xs with
    | none =>
      rw [q] at e
      cases e
    | some es =>
      rw [q] at e
      cases e
      have s : Same R (lend R H env σ) := fun b x e => by
        rw [lend_no]
        · exact e
        · intro z
          rw [(r.mu z).1] at e
          cases e
      exact .cons (At.same s h.1) (lent_at r q h.2)
  | v :: vs, .m i d :: xs, ds, e, h => by
    unfold XV.lent at e
    cases q : XV.lent xs with
    | none =>
      rw [q] at e
      cases e
    | some es =>
      rw [q] at e
      cases e
      have s : Same R (lend R H env σ) := fun b x e => by
        rw [lend_no]
        · exact e
        · intro z
          rw [(r.mu z).1] at e
          cases e
      refine .cons ?_ (lent_at r q h.2)
      obtain ⟨h1, h2⟩ := h.1
      obtain ⟨a, y, g1, g2, g3, g4, g5⟩ := r.slots i _ h1
      rw [g1] at h2
      cases h2
      have e : lend R H env σ a = some y := (lend_mu ⟨i, _, h1, g1⟩).trans g4
      exact At.of_matS g5 e s
  | _ :: _, .o _ :: _, _, e, _ => by cases e
theorem ve_callM {α : Type} {fr : Bool} {args : α → List D} {pre : α → Prop} {post : α → D → Prop} {rs : α → Addr → Prop} {E : XK} {X : Addr → Prop} {t : TA} (L : Lets K G B E X)
    (h : VA K G B t env fun xs => ∃ x, XV.lent xs = some (args x) ∧ pre x ∧ (∀ C, rs x C → X C) ∧ ∀ d, post x d → D.deepT 9 d = true ∧ Q (.p d)) : VE K G B (tCall (SpA K G fr args pre post rs) [] E t) env Q := fun σ R H rp Qh k =>
  h σ R H rp _ fun vs R1 H1 xs r1 s1 hv _ ⟨x, e, hp, hr, q⟩ => by
    rw [List.append_nil]
    have key : ∀ R' H', Step K G (lend R1 H1 env σ) H1 R' H' → Step K G R1 H1 (cutMu R' env σ) H' := fun R' H' s => {
      same := fun b x e => by
        have nb : ¬ MuAt env σ b := fun z => by
          rw [(r1.mu z).1] at e
          cases e
        rw [cut_no nb]
        exact s.same b x ((lend_no nb).trans e)
      sub := fun b x e => by
        by_cases z : MuAt env σ b
        · rw [cut_mu z] at e
          cases e
        · rw [cut_no z] at e
          exact s.sub b x e
      kept := fun b y e n => s.kept b y e fun m z => by
        by_cases w : MuAt env σ b
        · rw [lend_mu w, e] at z
          cases z
          obtain ⟨_, y', h1, h2⟩ := r1.mu w
          rw [e] at h1
          cases h1
          exact ld_mk h2
        · rw [lend_no w] at z
          exact n m z
      out := fun b y e hd n => by
        by_cases w : MuAt env σ b
        · exact cut_mu w
        · rw [cut_no w]
          exact s.out b y e hd ((lend_no w).trans n) }
    have sub : Sub K G (lend R1 H1 env σ) H1 := fun b x e => by
      by_cases w : MuAt env σ b
      · rw [lend_mu w] at e
        obtain ⟨_, y, h1, h2⟩ := r1.mu w
        rw [e] at h1
        cases h1
        exact subAt_of e (ld_mk h2)
      · rw [lend_no w] at e
        exact r1.sub b x e
    have tb : TabIn G (lend R1 H1 env σ) := TabIn.go r1.tab' fun b z e => by
      rw [lend_no]
      · exact e
      · intro w
        rw [(r1.mu w).1] at e
        cases e
    refine ⟨lend R1 H1 env σ, x, ⟨sub, tb⟩, lent_at r1 e hv, hp, fun v R' H' d s ha _ hd => ?_, fun C R' H' s hc => L C (cutMu R' env σ) H' (r1.step.trans (key R' H' s)) (hr C hc)⟩
    obtain ⟨fl, q⟩ := q d hd
    have st := key R' H' s
    refine k v (cutMu R' env σ) H' (.p d) (r1.go st) (s1.trans st.same) (at_cut (fun b w => ?_) 9 fl ha) q
    obtain ⟨_, y, h1, h2⟩ := r1.mu w
    exact ⟨y, s.same b y ((lend_mu w).trans h1), h2⟩
theorem vo_orL {r r' : R2} {x y : XV} (h : VO K G B r env x y Q) : VO K G B (fun x y H Q => r x y H Q ∨ r' x y H Q) env x y Q := fun σ R H rp v w hv hw Qh k => .inl (h σ R H rp v w hv hw Qh k)
theorem vo_orR {r r' : R2} {x y : XV} (h : VO K G B r' env x y Q) : VO K G B (fun x y H Q => r x y H Q ∨ r' x y H Q) env x y Q := fun σ R H rp v w hv hw Qh k => .inr (h σ R H rp v w hv hw Qh k)
theorem vo_mul {i j : Int} (hc : CMul i j ∨ CMulW i j) (q : Q (.p (.int (i * j)))) : VO K G B (fun x y H Q => rI CMul (fun i j => .int (i * j)) x y H Q ∨ rI CMulW (fun i j => .int (i * j)) x y H Q) env (.p (.int i)) (.p (.int j)) Q := by
  rcases hc with hc | hc
  · exact vo_orL (vo_I hc q)
  · exact vo_orR (vo_I hc q)
theorem vo_pow {i j : Int} (hc : CPow i j) (q : Q (.p (.int (i ^ j.toNat)))) : VO K G B (rI CPow fun i j => .int (i ^ j.toNat)) env (.p (.int i)) (.p (.int j)) Q := vo_I hc q
theorem vo_mulq {i j : Int} (q : Q (.p (.int (i * j)))) (hc : CMul i j ∨ CMulW i j) : VO K G B (fun x y H Q => rI CMul (fun i j => .int (i * j)) x y H Q ∨ rI CMulW (fun i j => .int (i * j)) x y H Q) env (.p (.int i)) (.p (.int j)) Q := vo_mul hc q
theorem vo_divq {i j : Int} (q : Q (.p (.int (i / j)))) (hc : CDivW i j) : VO K G B (rI CDivW fun i j => .int (i / j)) env (.p (.int i)) (.p (.int j)) Q := vo_I hc q
theorem vo_modq {i j : Int} (q : Q (.p (.int (i % j)))) (hc : 0 < j) : VO K G B (rI (fun _ j => 0 < j) fun i j => .int (i % j)) env (.p (.int i)) (.p (.int j)) Q := vo_I hc q
theorem ve_ty {n : String} (q : Q (.p (.ty n))) : VE K G B (tC (.ty n)) env Q := fun σ R H r Qh k => k _ R H (.p (.ty n)) r (Same.refl R) (At.ty n) q
def XV.tyOf : XV → Option String
  | .p .non => some "NoneType"
  | .p (.bl _) => some "bool"
  | .p (.int _) => some "int"
  | .p (.str _) => some "str"
  | .p (.tup _) => some "tuple"
  | .p (.lst _) => some "list"
  | .p (.ro _) => some "list"
  | .p (.dct _) => some "dict"
  | .p (.key _) => some "tuple"
  | .m _ (.lst _) => some "list"
  | .m _ (.dct _) => some "dict"
  | _ => none
theorem tyL {a : Addr} {xs : List V} (h : SqL K H a xs) : TyX K H (.ref a) (.type "list") := by
  rcases h with (h | ⟨o, h⟩) | ⟨o, its, n, h, c, _⟩
  · exact .base (.lst h)
  · exact .base (.frz h)
  · exact .kList h c
theorem tyT {a : Addr} {xs : List V} (h : SqT K H a xs) : TyX K H (.ref a) (.type "tuple") := by
  rcases h with (h | ⟨o, h⟩) | ⟨o, its, n, h, c, _⟩
  · exact .base (.tup h)
  · exact .fTuple h
  · exact .kTuple h c
theorem tyOf_at (r : Rep K G B env σ R H) {v : V} {x : XV} {t : String} (h : VAt K B env σ R H v x) (e : x.tyOf = some t) : TyX K H v (.type t) := by
  cases x with
  | o d => cases e
  | p d =>
    cases d with
    | non => cases e; cases h; exact .base .non
    | bl b => cases e; cases h; exact .base (.bl _)
    | int b => cases e; cases h; exact .base (.int _)
    | str b => cases e; cases h; exact .base (.str _)
    | tup b =>
      cases e
      cases h with
      | tup h _ => exact tyT (r.sub.t h)
    | lst b =>
      cases e
      cases h with
      | lst h _ => exact tyL (r.sub.l (.inl (.inl h)))
    | ro b =>
      cases e
      cases h with
      | ro h _ => exact tyL (r.sub.l h)
    | dct b =>
      cases e
      cases h with
      | dct h _ =>
        exact .base (.dK (r.sub.of h (rfl)))
    | lkd a b => cases e
    | st => cases e
    | cm => cases e
    | ptr a => cases e
    | ty n => cases e
    | dtt _ => cases e
    | ins _ _ _ => cases e
    | key b =>
      cases e
      cases h with
      | key h => exact tyT (r.sub.t (.inl (.inl h)))
  | m i d =>
    obtain ⟨h1, h2⟩ := h
    obtain ⟨a, y, g1, g2, g3, g4, g5⟩ := r.slots i _ h1
    rw [g1] at h2
    cases h2
    cases d <;> cases y <;> first | exact g5.elim | (cases e; exact .base (.lst g4)) | (cases e; exact .base (.dK g4)) | cases e
theorem vc_isi {x : XV} {t u : String} {b : Bool} (hx : x.tyOf = some t) (hb : kitB t u = some b) (q : Q (.p (.bl b))) : VC K G B (rIsi K) env [x, .p (.ty u)] Q := vc2 fun σ R H r v w hv hw Qh k => by
  cases hw
  exact ⟨v, .ty u, .type t, .type u, b, rfl, .ty u, tyOf_at r hv hx, kit_ty hb, k _ R H (.p (.bl b)) r (Same.refl R) (.bl b) q⟩
def keyPy : Key → PyData
  | .inl i => .int i
  | .inr x => .str x
def keyCmp : Key → Bool
  | .inl _ => true
  | .inr x => PyData.strOk x
theorem dp_keys {K : PySem.W.Frag} {H : Hp} : ∀ {ks : List Key}, ks.all keyCmp = true → DpAll K H (ks.map kV) (ks.map keyPy)
  | [], _ => .nil
  | .inl i :: r, h => .cons (.int i) (dp_keys (by rw [List.all_cons, Bool.and_eq_true] at h; exact h.2))
  | .inr x :: r, h => .cons (.str x) (dp_keys (by rw [List.all_cons, Bool.and_eq_true] at h; exact h.2))
theorem keys_lay : ∀ ks : List Key, ks.all keyCmp = true → PyData.canLayAll0 (ks.map keyPy) = true ∧ PyData.depthAll (ks.map keyPy) = 0
  | [], _ => ⟨rfl, rfl⟩
  | .inl i :: r, h => by
    obtain ⟨a, b⟩ := keys_lay r (by rw [List.all_cons, Bool.and_eq_true] at h; exact h.2)
    simp [keyPy, PyData.canLayAll0, PyData.canLay0, PyData.depthAll, PyData.depth, a, b]
  | .inr x :: r, h => by
    rw [List.all_cons, Bool.and_eq_true] at h
    obtain ⟨a, b⟩ := keys_lay r h.2
    have h1 : PyData.strOk x = true := h.1
    simp [keyPy, PyData.canLayAll0, PyData.canLay0, PyData.depthAll, PyData.depth, a, b, h1]
mutual
def D.py : D → PyData
  | .non => .none
  | .bl b => .bool b
  | .int i => .int i
  | .str x => .str x
  | .tup ds => .tuple (D.pys ds)
  | .lst ds => .list (D.pys ds)
  | .ro ds => .list (D.pys ds)
  | .dct _ => .none
  | .lkd _ _ => .none
  | .st => .none
  | .cm => .none
  | .ptr _ => .none
  | .ty _ => .none
  | .dtt _ => .none
  | .ins _ _ _ => .none
  | .key ks => .tuple (ks.map keyPy)
def D.pys : List D → List PyData
  | [] => []
  | d :: r => D.py d :: D.pys r
end
mutual
/-- what may be compared: no dict, texts of real signs -/
def D.cmp : D → Bool
  | .non => true
  | .bl _ => true
  | .int _ => true
  | .str x => PyData.strOk x
  | .tup ds => D.cmps ds
  | .lst ds => D.cmps ds
  | .ro ds => D.cmps ds
  | .dct _ => false
  | .lkd _ _ => false
  | .st => false
  | .cm => false
  | .ptr _ => false
  | .ty _ => false
  | .dtt _ => false
  | .ins _ _ _ => false
  | .key ks => ks.all keyCmp
def D.cmps : List D → Bool
  | [] => true
  | d :: r => D.cmp d && D.cmps r
end
mutual
theorem at_dp (s : Sub K G R H) : ∀ {v : V} {d : D}, At K R v d → d.cmp = true → Dp K H v d.py
  | _, _, .non, _ => .non
  | _, _, .bl b, _ => .bl b
  | _, _, .int i, _ => .int i
  | _, _, .str x, _ => .str x
  | _, _, .tup h t, e => by
    simp only [D.cmp] at e
    simp only [D.py]
    exact .tup (s.t h) (at_dps s t e)
  | _, _, .lst h t, e => by
    simp only [D.cmp] at e
    simp only [D.py]
    exact .lst (s.l (.inl (.inl h))) (at_dps s t e)
  | _, _, .ro h t, e => by
    simp only [D.cmp] at e
    simp only [D.py]
    exact .lst (s.l h) (at_dps s t e)
  | _, _, .dct _ _, e => by simp [D.cmp] at e
  | _, _, .lkd _ _, e => by simp [D.cmp] at e
  | _, _, .st _, e => by simp [D.cmp] at e
  | _, _, .cm _, e => by simp [D.cmp] at e
  | _, _, .ptr _, e => by simp [D.cmp] at e
  | _, _, .ty _, e => by simp [D.cmp] at e
  | _, _, .dtt _, e => by simp [D.cmp] at e
  | _, _, .ins _ _ _, e => by simp [D.cmp] at e
  | _, _, .key h, e => by
    simp only [D.cmp] at e
    simp only [D.py]
    exact .tup (s.t (.inl (.inl h))) (dp_keys e)
theorem at_dps (s : Sub K G R H) : ∀ {vs : List V} {ds : List D}, AtL K R vs ds → D.cmps ds = true → DpAll K H vs (D.pys ds)
  | _, _, .nil, _ => .nil
  | _, _, .cons h t, e => by
    simp only [D.cmps, Bool.and_eq_true] at e
    simp only [D.pys]
    exact .cons (at_dp s h e.1) (at_dps s t e.2)
end
def XV.dat : XV → Option D
  | .p d => some d
  | .m _ (.lst ds) => some (.lst ds)
  | _ => none
theorem dat_dp (r : Rep K G B env σ R H) {v : V} {x : XV} {d : D} (h : VAt K B env σ R H v x) (e : x.dat = some d) (hc : d.cmp = true) : Dp K H v d.py := by
  cases x with
  | p d' => cases e; exact at_dp r.sub h hc
  | o d' => cases e
  | m i d' =>
    cases d' with
    | lst ds =>
      cases e
      obtain ⟨h1, h2⟩ := h
      obtain ⟨a, y, g1, g2, g3, g4, g5⟩ := r.slots i _ h1
      rw [g1] at h2
      cases h2
      cases y with
      | lst xs =>
        simp only [D.cmp] at hc
        simp only [D.py]
        exact .lst (.inl (.inl g4)) (at_dps r.sub g5 hc)
      | _ => exact g5.elim
    | _ => cases e
theorem vo_eqD {x y : XV} {d e : D} (hx : x.dat = some d) (hy : y.dat = some e) (h : d.cmp = true ∧ e.cmp = true ∧ SeqAt.shaped d.py = true ∧ SeqAt.shaped e.py = true) (q : Q (.p (.bl (PyData.eqv d.py e.py)))) : VO K G B (rEqD K) env x y Q := fun σ R H r v w hv hw Qh k =>
  ⟨d.py, e.py, dat_dp r hv hx h.1, dat_dp r hw hy h.2.1, h.2.2.1, h.2.2.2, k _ R H (.p (.bl _)) r (Same.refl R) (.bl _) q⟩
theorem vo_neD {x y : XV} {d e : D} (hx : x.dat = some d) (hy : y.dat = some e) (h : d.cmp = true ∧ e.cmp = true ∧ SeqAt.shaped d.py = true ∧ SeqAt.shaped e.py = true) (q : Q (.p (.bl (!PyData.eqv d.py e.py)))) : VO K G B (rNeD K) env x y Q := fun σ R H r v w hv hw Qh k =>
  ⟨d.py, e.py, dat_dp r hv hx h.1, dat_dp r hw hy h.2.1, h.2.2.1, h.2.2.2, k _ R H (.p (.bl _)) r (Same.refl R) (.bl _) q⟩
/-- comparable, at most so deep -/
def D.cmpN : Nat → D → Bool
  | 0, d => match d with
    | .non => true
    | .bl _ => true
    | .int _ => true
    | .str x => PyData.strOk x
    | _ => false
  | n + 1, d => match d with
    | .non => true
    | .bl _ => true
    | .int _ => true
    | .str x => PyData.strOk x
    | .tup ds => ds.all (D.cmpN n)
    | .lst ds => ds.all (D.cmpN n)
    | .ro ds => ds.all (D.cmpN n)
    | .key ks => ks.all keyCmp
    | _ => false
theorem cmpN_all {n : Nat} (ih : ∀ d : D, D.cmpN n d = true → d.cmp = true ∧ PyData.canLay0 d.py = true ∧ PyData.depth d.py ≤ n) : ∀ ds : List D, ds.all (D.cmpN n) = true → D.cmps ds = true ∧ PyData.canLayAll0 (D.pys ds) = true ∧ PyData.depthAll (D.pys ds) ≤ n
  | [], _ => by simp [D.cmps, D.pys, PyData.canLayAll0, PyData.depthAll]
  | d :: r, h => by
    rw [List.all_cons, Bool.and_eq_true] at h
    obtain ⟨a1, a2, a3⟩ := ih d h.1
    obtain ⟨b1, b2, b3⟩ := cmpN_all ih r h.2
    simp only [D.cmps, D.pys, PyData.canLayAll0, PyData.depthAll, a1, a2, b1, b2, Bool.and_self, true_and]
    omega
theorem cmpN_ok : ∀ (n : Nat) (d : D), D.cmpN n d = true → d.cmp = true ∧ PyData.canLay0 d.py = true ∧ PyData.depth d.py ≤ n
  | 0, d, h => by
    cases d <;> first
      | (simp [D.cmpN] at h; done)
      | (simp only [D.cmp, D.py, PyData.canLay0, PyData.depth]; simp only [D.cmpN] at h; simp [h])
  | n + 1, d, h => by
    cases d with
    | tup ds =>
      obtain ⟨a1, a2, a3⟩ := cmpN_all (cmpN_ok n) ds h
      simp only [D.cmp, D.py, PyData.canLay0, PyData.depth, a1, a2, true_and]
      omega
    | lst ds =>
      obtain ⟨a1, a2, a3⟩ := cmpN_all (cmpN_ok n) ds h
      simp only [D.cmp, D.py, PyData.canLay0, PyData.depth, a1, a2, true_and]
      omega
    | ro ds =>
      obtain ⟨a1, a2, a3⟩ := cmpN_all (cmpN_ok n) ds h
      simp only [D.cmp, D.py, PyData.canLay0, PyData.depth, a1, a2, true_and]
      omega
    | non => simp [D.cmp, D.py, PyData.canLay0, PyData.depth]
    | bl b => simp [D.cmp, D.py, PyData.canLay0, PyData.depth]
    | int b => simp [D.cmp, D.py, PyData.canLay0, PyData.depth]
    | str x =>
      have h' : PyData.strOk x = true := h
      simp [D.cmp, D.py, PyData.canLay0, PyData.depth, h']
    | dct _ => simp [D.cmpN] at h
    | lkd _ _ => simp [D.cmpN] at h
    | st => simp [D.cmpN] at h
    | cm => simp [D.cmpN] at h
    | ptr _ => simp [D.cmpN] at h
    | ty _ => simp [D.cmpN] at h
    | dtt _ => simp [D.cmpN] at h
    | ins _ _ _ => simp [D.cmpN] at h
    | key ks =>
      obtain ⟨a2, a3⟩ := keys_lay ks (show ks.all keyCmp = true from h)
      simp only [D.cmp, D.py, PyData.canLay0, PyData.depth, a2, true_and, show ks.all keyCmp = true from h]
      omega
theorem cmpN_shaped {d : D} (h : D.cmpN 60 d = true) : d.cmp = true ∧ SeqAt.shaped d.py = true := by
  obtain ⟨a, b, c⟩ := cmpN_ok 60 d h
  refine ⟨a, ?_⟩
  unfold SeqAt.shaped
  rw [b, decide_eq_true (by omega)]
  rfl
def D.eqv (d e : D) : Bool := PyData.eqv d.py e.py
theorem eqv_self {d : D} (h : D.cmpN 60 d = true) : D.eqv d d = true := SeqAt.eqv_refl _ (cmpN_ok 60 d h).2.1
theorem vo_eqN {x y : XV} {d e : D} (hx : x.dat = some d) (hy : y.dat = some e) (h1 : D.cmpN 60 d = true) (h2 : D.cmpN 60 e = true) (q : Q (.p (.bl (D.eqv d e)))) : VO K G B (rEqD K) env x y Q := vo_eqD hx hy ⟨(cmpN_shaped h1).1, (cmpN_shaped h2).1, (cmpN_shaped h1).2, (cmpN_shaped h2).2⟩ q
theorem vo_neN {x y : XV} {d e : D} (hx : x.dat = some d) (hy : y.dat = some e) (h1 : D.cmpN 60 d = true) (h2 : D.cmpN 60 e = true) (q : Q (.p (.bl (!D.eqv d e)))) : VO K G B (rNeD K) env x y Q := vo_neD hx hy ⟨(cmpN_shaped h1).1, (cmpN_shaped h2).1, (cmpN_shaped h1).2, (cmpN_shaped h2).2⟩ q
/-- alike on both sides -/
theorem vo_eqS {x y : XV} {d : D} (hx : x.dat = some d) (hy : y.dat = some d) (h1 : D.cmpN 60 d = true) (q : Q (.p (.bl true))) : VO K G B (rEqD K) env x y Q := vo_eqN hx hy h1 h1 (by rw [eqv_self h1]; exact q)
theorem vo_neS {x y : XV} {d : D} (hx : x.dat = some d) (hy : y.dat = some d) (h1 : D.cmpN 60 d = true) (q : Q (.p (.bl false))) : VO K G B (rNeD K) env x y Q := vo_neN hx hy h1 h1 (by rw [eqv_self h1]; exact q)
def XV.seqP : XV → Option (List D)
  | .p (.lst ds) => some ds
  | .p (.ro ds) => some ds
  | _ => none
theorem seqP_at {v : V} {x : XV} {ds : List D} (h : VAt K B env σ R H v x) (e : x.seqP = some ds) : ∃ a xs, v = .ref a ∧ SqL K R a xs ∧ AtL K R xs ds := by
  cases x with
  | p d =>
    cases d with
    | lst es =>
      cases e
      cases h with
      | @lst a xs _ h1 h2 => exact ⟨a, xs, rfl, .inl (.inl h1), h2⟩
    | ro es =>
      cases e
      cases h with
      | @ro a xs _ h1 h2 => exact ⟨a, xs, rfl, h1, h2⟩
    | _ => cases e
  | o d => cases e
  | m i d => cases e
theorem vi_l {tl : TE} (h : VE K G B tl env fun x => x.fz fun x => ∃ ds, x.seqP = some ds ∧ Ql ds) : VI K G B (iList K tl) env Ql := vi_list fun σ R H r Qh k => h σ R H r Qh fun v R' H' x r' s' hv q => k v R' H' x r' s' hv (by
  have f : ∀ x : XV, (∃ ds, x.seqP = some ds ∧ Ql ds) → ∃ ds, (x = .p (.lst ds) ∨ x = .p (.ro ds)) ∧ Ql ds := fun x ⟨ds, e, q⟩ => by
    cases x with
    | p d =>
      cases d with
      | lst es => cases e; exact ⟨_, .inl rfl, q⟩
      | ro es => cases e; exact ⟨_, .inr rfl, q⟩
      | _ => cases e
    | o d => cases e
    | m i d => cases e
  cases x with
  | p d => exact f _ q
  | o d => exact f _ q
  | m i d => exact f _ q)
def enumD (ds : List D) : List D := (List.range ds.length).map fun i => D.tup [.int (i : Nat), ds.getD i .non]
theorem enumD_get {ds : List D} {i : Nat} {d : D} (h : (enumD ds)[i]? = some d) : ∃ e, ds[i]? = some e ∧ d = .tup [.int (i : Nat), e] := by
  unfold enumD at h
  rw [List.getElem?_map] at h
  by_cases hi : i < ds.length
  · rw [List.getElem?_range hi] at h
    cases h
    exact ⟨ds[i], List.getElem?_eq_getElem hi, by show D.tup [.int (i : Nat), ds.getD i .non] = _; rw [List.getD_eq_getElem?_getD, List.getElem?_eq_getElem hi]; rfl⟩
  · rw [List.getElem?_eq_none_iff.mpr (by rw [List.length_range]; omega)] at h
    cases h
theorem enumD_len (ds : List D) : (enumD ds).length = ds.length := by
  unfold enumD
  rw [List.length_map, List.length_range]
theorem wk_enum {a : Addr} {xs : List V} {ds : List D} (hl : SqL K R a xs) (ha : AtL K R xs ds) : Wk K G B R (Ite K a) (enumD ds) where
  go := fun B e σ R' H' r s i d hi => by
    obtain ⟨d1, h1, rfl⟩ := enumD_get hi
    obtain ⟨v, hv, hd⟩ := ha.get h1
    have hL := r.sub.l (same_l s hl)
    refine ⟨⟨xs, v, hL, hv⟩, ?_⟩
    rintro w H2 ⟨T, x, rfl, hT, rfl, hx⟩
    have e := hx xs hL
    rw [hv] at e
    cases e
    have hn := r.sub.none hT
    exact ⟨_, r.newP hT (rfl), same_take hn, .tup (.inl (.inl upd_same)) (.cons (.int _) (.cons ((hd.same s).same (same_take hn)) .nil))⟩
  stop := fun B e σ R' H' r s => ⟨xs, r.sub.l (same_l s hl), by rw [enumD_len, ha.len]; exact Nat.le_refl _⟩
theorem vi_enum {ta : TA} (h : VA K G B ta env fun xs => ∃ x ds, xs = [x] ∧ x.seqP = some ds ∧ Ql (enumD ds)) : VI K G B (iEnum K ta) env Ql := fun σ R H r Qh k =>
  h σ R H r _ fun vs R1 H1 xs r1 s1 hv _ ⟨x, ds, e, hx, q⟩ => by
    subst e
    match vs, hv with
    | [v], hv =>
      obtain ⟨a, ys, rfl, h1, h2⟩ := seqP_at hv.1 hx
      exact ⟨a, ys, rfl, r1.sub.l h1, k _ R1 H1 _ r1 s1 (wk_enum h1 h2) q⟩
def signsD (z : Str) : List D := z.cps.toList.map fun c => .str ⟨#[c]⟩
theorem wk_str {z : Str} : Wk K G B R (Its z) (signsD z) where
  go := fun B e σ R' H' r s i d hi => by
    unfold signsD at hi
    rw [List.getElem?_map] at hi
    cases q : z.cps.toList[i]? with
    | none =>
      rw [q] at hi
      cases hi
    | some c =>
      rw [q] at hi
      cases hi
      have q' : z.cps[i]? = some c := by rw [← Array.getElem?_toList]; exact q
      refine ⟨(Array.getElem?_eq_some_iff.mp q').1, ?_⟩
      rintro w H2 ⟨rfl, c', hc, rfl⟩
      rw [q'] at hc
      cases hc
      exact ⟨R', r, Same.refl _, .str _⟩
  stop := fun B e σ R' H' r s => by
    show z.cps.size ≤ (signsD z).length
    unfold signsD
    rw [List.length_map, Array.length_toList]
    exact Nat.le_refl _
theorem vi_str {te : TE} (h : VE K G B te env fun x => ∃ z, x = .p (.str z) ∧ Ql (signsD z)) : VI K G B (iStr te) env Ql := fun σ R H r Qh k =>
  h σ R H r _ fun v R1 H1 x r1 s1 hv ⟨z, e, q⟩ => by
    subst e
    exact ⟨z, str_at hv, k _ R1 H1 _ r1 s1 wk_str q⟩
def valD (kds : List (Key × D)) (k : Key) : Option D := (kds.find? fun kv => decide (kv.1 = k)).map (·.2)
def putD (kds : List (Key × D)) (k : Key) (v : D) : List (Key × D) :=
  if (kds.any fun kv => decide (kv.1 = k)) = true then kds.map (fun kv => if kv.1 = k then (kv.1, v) else kv) else kds ++ [(k, v)]
def keyD : Key → D
  | .inl i => .int i
  | .inr x => .str x
theorem key_at {v : V} {k : Key} (h : At K R v (keyD k)) : v = kV k := by
  cases k with
  | inl i =>
    have h' : At K R v (.int i) := h
    cases h'
    rfl
  | inr x =>
    have h' : At K R v (.str x) := h
    cases h'
    rfl
theorem AtD.val : ∀ {vs : List (Key × V)} {ds : List (Key × D)} {k : Key}, AtD K R vs ds → (∀ d, valD ds k = some d → ∃ v, valV vs k = some v ∧ At K R v d) ∧ (valD ds k = none → valV vs k = none)
  | _, _, _, .nil => ⟨fun d h => (by cases h), fun _ => rfl⟩
  | _, _, k, .cons (k := j) (v := v) (d := d) (vs := vs) (ds := ds) h t => by
    have ih := AtD.val (k := k) t
    by_cases e : j = k
    · have e1 : valD ((j, d) :: ds) k = some d := by simp [valD, List.find?_cons, e]
      have e2 : valV ((j, v) :: vs) k = some v := by simp [valV, List.find?_cons, e]
      rw [e1, e2]
      exact ⟨fun d' h' => (by cases h'; exact ⟨v, rfl, h⟩), fun h' => (by cases h')⟩
    · have e1 : valD ((j, d) :: ds) k = valD ds k := by simp [valD, List.find?_cons, e]
      have e2 : valV ((j, v) :: vs) k = valV vs k := by simp [valV, List.find?_cons, e]
      rw [e1, e2]
      exact ih
theorem AtD.any : ∀ {vs : List (Key × V)} {ds : List (Key × D)} {k : Key}, AtD K R vs ds → (vs.any fun kv => decide (kv.1 = k)) = (ds.any fun kv => decide (kv.1 = k))
  | _, _, _, .nil => rfl
  | _, _, k, .cons h t => by rw [List.any_cons, List.any_cons, AtD.any t]
theorem AtD.app : ∀ {vs ws : List (Key × V)} {ds es : List (Key × D)}, AtD K R vs ds → AtD K R ws es → AtD K R (vs ++ ws) (ds ++ es)
  | _, _, _, _, .nil, s => s
  | _, _, _, _, .cons h t, s => .cons h (AtD.app t s)
theorem AtD.mapput {k : Key} {v : V} {d : D} (h : At K R v d) : ∀ {vs : List (Key × V)} {ds : List (Key × D)}, AtD K R vs ds → AtD K R (vs.map fun kv => if kv.1 = k then (kv.1, v) else kv) (ds.map fun kv => if kv.1 = k then (kv.1, d) else kv)
  | _, _, .nil => .nil
  | _, _, .cons (k := j) h' t => by
    rw [List.map_cons, List.map_cons]
    by_cases e : j = k
    · simp only [if_pos e]
      exact .cons h (AtD.mapput h t)
    · simp only [if_neg e]
      exact .cons h' (AtD.mapput h t)
theorem AtD.put {k : Key} {v : V} {d : D} (h : At K R v d) {vs : List (Key × V)} {ds : List (Key × D)} (t : AtD K R vs ds) : AtD K R (putK vs k v) (putD ds k d) := by
  unfold putK putD
  rw [t.any]
  split
  · exact AtD.mapput h t
  · exact t.app (.cons h .nil)
theorem AtD.len : ∀ {vs : List (Key × V)} {ds : List (Key × D)}, AtD K R vs ds → vs.length = ds.length
  | _, _, .nil => rfl
  | _, _, .cons _ t => congrArg (· + 1) (AtD.len t)
/-- a dict is read: plain, or a slot's -/
def XV.dctD : XV → Option (List (Key × D))
  | .p (.dct ds) => some ds
  | .p (.lkd _ ds) => some ds
  | .m _ (.dct ds) => some ds
  | _ => none
theorem dctD_at (r : Rep K G B env σ R H) {v : V} {x : XV} {ds : List (Key × D)} (h : VAt K B env σ R H v x) (e : x.dctD = some ds) : ∃ a xs, v = .ref a ∧ Rd H a (.dK xs) ∧ AtD K R xs ds := by
  cases x with
  | p d =>
    cases d with
    | dct es =>
      cases e
      cases h with
      | @dct a xs _ h1 h2 => exact ⟨a, xs, rfl, .inl (r.sub.of h1 (rfl)), h2⟩
    | lkd b es =>
      cases e
      cases h with
      | @lkd a o xs _ h1 h2 => exact ⟨_, xs, rfl, .inr ⟨o, r.sub.of h1 (rfl)⟩, h2⟩
    | _ => cases e
  | o d => cases e
  | m i d =>
    cases d with
    | dct es =>
      cases e
      obtain ⟨h1, h2⟩ := h
      obtain ⟨a, y, g1, g2, g3, g4, g5⟩ := r.slots i _ h1
      rw [g1] at h2
      cases h2
      cases y with
      | dK xs => exact ⟨a, xs, rfl, .inl g4, g5⟩
      | _ => exact g5.elim
    | _ => cases e
theorem ve_dget {td ty : TE} (h : VE K G B td env fun x => x.fz fun x => VE K G B ty env fun y => y.fz fun y => ∃ ds k d, x.dctD = some ds ∧ y = .p (keyD k) ∧ valD ds k = some d ∧ Q (.p d)) : VE K G B (tDGet td ty) env Q := fun σ R H r Qh k =>
  h σ R H r _ fun v R1 H1 x r1 s1 hv q => by
    obtain ⟨R2, x', r2, s2, hv2, ho, q2⟩ := hv.fz r1 q
    refine q2 σ R2 H1 r2 _ fun w R3 H3 y r3 s3 hw q3 => ?_
    obtain ⟨R4, y', r4, s4, hw4, ho4, ds, k', d, hx, rfl, hd, q4⟩ := hw.fz r3 q3
    obtain ⟨a, xs, rfl, h1, h2⟩ := dctD_at r4 (hv2.go ho (s3.trans s4)) hx
    obtain ⟨z, hz, hzd⟩ := (h2.val (k := k')).1 d hd
    exact ⟨a, z, rfl, .inl ⟨xs, k', h1, key_at hw4, hz.symm⟩, k z R4 H3 (.p d) r4 (((s1.trans s2).trans s3).trans s4) hzd q4⟩
theorem ve_din {ty td : TE} (h : VE K G B ty env fun y => y.fz fun y => VE K G B td env fun x => x.fz fun x => ∃ ds k, x.dctD = some ds ∧ y = .p (keyD k) ∧ Q (.p (.bl (valD ds k).isSome))) : VE K G B (tDIn ty td) env Q := fun σ R H r Qh k =>
  h σ R H r _ fun v R1 H1 x r1 s1 hv q => by
    obtain ⟨R2, x', r2, s2, hv2, ho, q2⟩ := hv.fz r1 q
    refine q2 σ R2 H1 r2 _ fun w R3 H3 y r3 s3 hw q3 => ?_
    obtain ⟨R4, y', r4, s4, hw4, ho4, ds, k', hx, rfl, q4⟩ := hw.fz r3 q3
    obtain ⟨a, xs, rfl, h1, h2⟩ := dctD_at r4 hw4 hx
    have e : (valV xs k').isSome = (valD ds k').isSome := by
      cases q : valD ds k' with
      | none =>
        rw [(h2.val (k := k')).2 q]
        rfl
      | some d =>
        obtain ⟨z, hz, _⟩ := (h2.val (k := k')).1 d q
        rw [hz]
        rfl
    exact ⟨a, _, rfl, .inl ⟨xs, k', h1, key_at (R := R4) (VAt.go (H' := H3) hv2 ho (s3.trans s4)), rfl⟩, by rw [e]; exact k _ R4 H3 (.p (.bl _)) r4 (((s1.trans s2).trans s3).trans s4) (.bl _) q4⟩
theorem ve_dnotin {ty td : TE} (h : VE K G B ty env fun y => y.fz fun y => VE K G B td env fun x => x.fz fun x => ∃ ds k, x.dctD = some ds ∧ y = .p (keyD k) ∧ Q (.p (.bl (!(valD ds k).isSome)))) : VE K G B (tDNotIn ty td) env Q := fun σ R H r Qh k =>
  h σ R H r _ fun v R1 H1 x r1 s1 hv q => by
    obtain ⟨R2, x', r2, s2, hv2, ho, q2⟩ := hv.fz r1 q
    refine q2 σ R2 H1 r2 _ fun w R3 H3 y r3 s3 hw q3 => ?_
    obtain ⟨R4, y', r4, s4, hw4, ho4, ds, k', hx, rfl, q4⟩ := hw.fz r3 q3
    obtain ⟨a, xs, rfl, h1, h2⟩ := dctD_at r4 hw4 hx
    have e : (valV xs k').isSome = (valD ds k').isSome := by
      cases q : valD ds k' with
      | none =>
        rw [(h2.val (k := k')).2 q]
        rfl
      | some d =>
        obtain ⟨z, hz, _⟩ := (h2.val (k := k')).1 d q
        rw [hz]
        rfl
    exact ⟨a, _, rfl, .inl ⟨xs, k', h1, key_at (R := R4) (VAt.go (H' := H3) hv2 ho (s3.trans s4)), rfl⟩, by rw [e]; exact k _ R4 H3 (.p (.bl _)) r4 (((s1.trans s2).trans s3).trans s4) (.bl _) q4⟩
theorem vs_toSt (i : Nat) {t : TS} {ns : List Int} (hd : env[i]? = some (.mu (.lst (ns.map D.int)))) (g : G.good ns) (h : VS K G B t (env.set i (.p .st)) nx rt bk ct) : VS K G B t env nx rt bk ct := fun σ R H r Z kn kr kb kc => by
  obtain ⟨a, y, h1, h2, h3, h4, h5⟩ := r.slots i _ hd
  obtain ⟨xs, rfl⟩ : ∃ xs, y = .lst xs := by cases y <;> first | exact ⟨_, rfl⟩ | exact h5.elim
  have ex : xs = ns.map V.int := AtL.ints_inv h5
  subst ex
  obtain ⟨r3, st⟩ := r.putS (o := .ext fun _ => False) (d' := .st) hd h1 ⟨ns, h4, g⟩ (.st upd_same)
  exact h σ _ H r3 Z (fun e σ' R2 H2 r2 s2 => kn e σ' R2 H2 r2 (st.trans s2)) (fun v e σ' R2 H2 x r2 s2 => kr v e σ' R2 H2 x r2 (st.trans s2)) (fun e σ' R2 H2 r2 s2 => kb e σ' R2 H2 r2 (st.trans s2)) (fun e σ' R2 H2 r2 s2 => kc e σ' R2 H2 r2 (st.trans s2))
/-- the promise of a def that draws from the list handed in first -/
theorem st_at {v : V} (h : At K R v .st) : ∃ a φ, v = .ref a ∧ R a = some (.ext φ) := by
  cases h with
  | @st a φ h => exact ⟨a, φ, rfl, h⟩
/-- the list that is drawn from has changed -/
theorem step_st (s : Sub K G R H) {a : Addr} {φ : Heap → Prop} (ha : R a = some (.ext φ)) {ns : List Int} (g : G.good ns) : Step K G R H R (upd H a (.lst (ns.map V.int))) where
  same := Same.refl R
  sub := fun b x e => by
    by_cases hb : b = a
    · subst hb
      rw [ha] at e
      cases e
      exact ⟨ns, upd_same, g⟩
    · obtain ⟨ms, q, _⟩ := s a _ ha
      exact subAt_go (s b x e) (upd_ne hb) (hard_own q rfl)
  kept := fun b y e n => by
    rw [upd_ne]
    · exact e
    · rintro rfl
      cases n _ ha
  out := fun _ _ _ _ n => n
end
/-- a def that lets nothing out, as it stands behind the top -/
structure Cal (P : Program) (w : World) (K : PySem.W.Frag) (mg : Str → Option Value) (base : Heap) (k : Nat) (x : Str) (sp : Sp) (dvs : List V) : Prop where
  ex : ∃ (f : Addr) (fd : FuncData) (ps : List Str) (ds : List Value), FnOk P w K mg base CX0 k f fd ps sp ∧ mg x = some (.ref f) ∧ PySem.W.keepIn K (.ref f) = true ∧ Binds K fd ps ds ∧ Vals dvs ds
theorem pe_c {X : Cx} {k j : Nat} {x : Str} {p pos : Pos} {e : Expr} {es : List Expr} {sp : Sp} {dvs : List V} {t : TA} (c : Cal X.prog X.w X.K X.mg X.base k x sp dvs) (hr : Room j X.A) (hk : k ≤ j) (hg : Gl X x) (ha : PA X (e :: es) t)
    (hdb : (x == ("__debug__" : Str)) = false := by decide) (he : starEach (e :: es) X.env = (false, eval e X.env) :: starEach es X.env := by rfl) (hpl : (backTo pos (starEach es X.env)).any (·.1) = false := by rfl) :
    PE X (.Call (.Name x p) (e :: es) [] pos) (tCall sp dvs E0 t) := by
  obtain ⟨f, fd, ps, ds, F, hm, kp, b, d⟩ := c.ex
  exact pe_call F (hr.mono hk) hg hm kp b d pass0 ha hdb he hpl
structure Dfn (K : PySem.W.Frag) (mg : Str → Option Value) (x : Str) (st : Stmt) (ps : List Str) : Prop where
  ex : ∃ f fd, Fun K x x st f fd ∧ mg x = some (.ref f) ∧ Binds K fd ps []
/-- a script is handed in, True comes back -/
def spLaw (K : PySem.W.Frag) (G : Gs) : Sp := fun vs H Q _ => ∃ (a : Addr) (ns : List Int), vs = [.ref a] ∧ SqL K H a (ns.map V.int) ∧ ns.length ≤ 63 ∧ (∀ P, G.tab = some P → H P = some (.tbl #[])) ∧ ∀ H', Q (.bl true) H'
theorem law_of {G : Gs} {P : Program} {w : World} {K : PySem.W.Frag} {mg : Str → Option Value} {base : Heap} {CX : CXT} {k : Nat} {f : Addr} {fd : FuncData} {ps : List Str}
    (F : FnOk P w K mg base CX k f fd ps (SpA K G false (fun ns : List Int => [.ro (ns.map D.int)]) (fun ns => ns.length ≤ 63) (fun _ d => d = .bl true) noRs)) : FnOk P w K mg base CX k f fd ps (spLaw K G) :=
  F.imp fun vs H Q E ⟨a, ns, e, hS, hl, hT, q⟩ => by
    subst e
    -- the table alone
    have key0 : ∃ R0 : Hp, Sub K G R0 H ∧ TabIn G R0 ∧ ∀ b, (∃ xs, H b = some (.lst xs)) ∨ (∃ o xs, H b = some (.frz o (.lst xs))) → R0 b = none := by
      cases ht : G.tab with
      | none =>
        refine ⟨fun _ => none, fun b x e => (by cases e), fun P e => ?_, fun _ _ => rfl⟩
        rw [ht] at e
        cases e
      | some P =>
        refine ⟨fun b => if b = P then some (.tbl #[]) else none, fun b x e => ?_, fun P' e => ?_, fun b hb => ?_⟩
        · by_cases hb : b = P
          · subst hb
            have e' : (if b = b then some (HO.tbl #[]) else none) = some x := e
            rw [if_pos rfl] at e'
            cases e'
            exact LamX.TabS.nil (hT b ht)
          · have e' : (if b = P then some (HO.tbl #[]) else none) = some x := e
            rw [if_neg hb] at e'
            cases e'
        · rw [ht] at e
          cases e
          exact ⟨#[], if_pos rfl⟩
        · refine if_neg fun z => ?_
          rw [z, hT P ht] at hb
          rcases hb with ⟨xs, w⟩ | ⟨o, xs, w⟩ <;> cases w
    obtain ⟨R0, s0, t0, n0⟩ := key0
    have key : ∃ R : Hp, Sub K G R H ∧ TabIn G R ∧ SqL K R a (ns.map V.int) := by
      rcases hS with (h | ⟨o, h⟩) | h
      · have hn := n0 a (.inl ⟨_, h⟩)
        exact ⟨upd R0 a (.lst (ns.map V.int)), sub_put s0 (subAt_of h rfl), t0.go (same_take hn), .inl (.inl upd_same)⟩
      · have hn := n0 a (.inr ⟨_, _, h⟩)
        exact ⟨upd R0 a (.frz o (.lst (ns.map V.int))), sub_put s0 (subAt_of h rfl), t0.go (same_take hn), .inl (.inr ⟨o, upd_same⟩)⟩
      · exact ⟨R0, s0, t0, .inr h⟩
    obtain ⟨R, s, t, hs⟩ := key
    refine ⟨R, ns, ⟨s, t⟩, .cons (.ro hs (AtL.ints ns)) .nil, hl, fun v R' H' d _ ha _ hd => ?_, fun _ _ _ _ h => h.elim⟩
    subst hd
    cases ha
    exact q H'
end VL
namespace VL
open PySem PySem.Spec PyProof.Rows L2
end VL
namespace VL
open PySem PySem.Spec PyProof.Rows L2
section
variable {K : PySem.W.Frag} {G : Gs} {B : Bs} {env : Vn} {σ : L2.St} {R R' R1 H H' H1 : Hp} {Q : XV → Prop} {nx : Vn → Prop} {rt : XV → Prop} {bk ct : Vn → Prop} {Qe : Vn → Prop} {Qb : Bool → Prop} {Ql : List D → Prop}
theorem ve_mono {t : TE} {Q' : XV → Prop} (h : VE K G B t env Q) (k : ∀ x, Q x → Q' x) : VE K G B t env Q' := fun σ R H r Qh c => h σ R H r Qh fun v R' H' x r' s' hv q => c v R' H' x r' s' hv (k x q)
theorem fz_mono {P P' : XV → Prop} {x : XV} (h : x.fz P) (k : ∀ x, P x → P' x) : x.fz P' := by
  cases x with
  | p d => exact fz_p (k _ h)
  | o d => exact fz_o (k _ h)
  | m i d => exact k _ h
end
end VL
namespace VL
open PySem PySem.Spec PyProof.Rows L2
section
variable {K : PySem.W.Frag} {G : Gs} {B : Bs} {env : Vn} {σ : L2.St} {R R' R1 H H' H1 : Hp} {Q : XV → Prop} {nx : Vn → Prop} {rt : XV → Prop} {bk ct : Vn → Prop} {Qe : Vn → Prop} {Qb : Bool → Prop} {Ql : List D → Prop}
/-- for k in d, d locked -/
theorem AtD.get : ∀ {vs : List (Key × V)} {ds : List (Key × D)} {i : Nat} {k : Key} {d : D}, AtD K R vs ds → ds[i]? = some (k, d) → ∃ v, vs[i]? = some (k, v) ∧ At K R v d
  | _, _, _, _, _, .nil, h => by simp at h
  | _, _, 0, _, _, .cons h _, e => by
    simp at e
    obtain ⟨rfl, rfl⟩ := e
    exact ⟨_, rfl, h⟩
  | _, _, i + 1, _, _, .cons _ t, e => by
    obtain ⟨v, h1, h2⟩ := AtD.get (i := i) t (by simpa using e)
    exact ⟨v, by simpa using h1, h2⟩
theorem keyD_at (k : Key) : At K R (kV k) (keyD k) := by
  cases k with
  | inl i => exact .int i
  | inr x => exact .str x
end
end VL
namespace VL
open PySem PySem.Spec PyProof.Rows L2
def tDead : TS := fun _ _ _ => False
theorem ps_dead {X : Cx} {st : Stmt} : PS X st tDead := ⟨fun _ _ _ _ _ _ h => h.elim⟩
section
variable {K : PySem.W.Frag} {G : Gs} {B : Bs} {env : Vn} {σ : L2.St} {R R' R1 H H' H1 : Hp} {Q : XV → Prop} {nx : Vn → Prop} {rt : XV → Prop} {bk ct : Vn → Prop} {Qe : Vn → Prop} {Qb : Bool → Prop} {Ql : List D → Prop}
def pairD (p : Int × Int) : D := .tup [.int p.1, .int p.2]
theorem AtD.keys : ∀ {xs : List (Key × V)} {ds : List (Key × D)}, AtD K R xs ds → AtL K R (xs.map fun kv => kV kv.1) (ds.map fun p => keyD p.1)
  | _, _, .nil => .nil
  | _, _, .cons h t => .cons (keyD_at _) (AtD.keys t)
theorem vs_forget (i : Nat) {t : TS} (h : VS K G B t (env.set i .u) nx rt bk ct) : VS K G B t env nx rt bk ct := fun σ R H r => h σ R H (r.forget i)
theorem vs_frz (i : Nat) {t : TS} {d : D} (h0 : env[i]? = some (.p d) ∨ env[i]? = some (.mu d)) (h : VS K G B t (env.set i (.p d)) nx rt bk ct) : VS K G B t env nx rt bk ct := by
  rcases h0 with h0 | h0
  · have hi := (List.getElem?_eq_some_iff.mp h0).1
    have e : env.set i (.p d) = env := by
      refine List.ext_getElem? fun j => ?_
      by_cases q : i = j
      · subst q
        rw [List.getElem?_set_self hi, h0]
      · rw [List.getElem?_set_ne q]
    rw [e] at h
    exact h
  · exact vs_freeze i h0 h
end
end VL
namespace VL
open PySem PySem.Spec PyProof.Rows L2
section
variable {K : PySem.W.Frag} {G : Gs} {B : Bs} {env : Vn} {σ : L2.St} {R R' R1 H H' H1 : Hp} {Q : XV → Prop} {nx : Vn → Prop} {rt : XV → Prop} {bk ct : Vn → Prop} {Qe : Vn → Prop} {Qb : Bool → Prop} {Ql : List D → Prop}
theorem inV_strs (z : Str) : ∀ zs : List Str, inV (.str z) (zs.map V.str) = decide (z ∈ zs)
  | [] => by simp [inV]
  | y :: r => by
    have ih := inV_strs z r
    have e : inV (.str z) ((y :: r).map V.str) = (eqV (.str y) (.str z) || inV (.str z) (r.map V.str)) := by
      simp [inV]
    rw [e, ih]
    have e2 : eqV (.str y) (.str z) = decide (y = z) := by
      show (y == z) = _
      by_cases h : y = z
      · rw [h]; simp
      · rw [decide_eq_false h]; exact beq_eq_false_iff_ne.mpr h
    rw [e2]
    by_cases h : y = z
    · simp [h]
    · have h2 : ¬ z = y := fun q => h q.symm
      simp [h, h2]
theorem flat_strs (zs : List Str) : (zs.map V.str).all flatV = true := by
  rw [List.all_map]
  exact List.all_eq_true.mpr fun _ _ => rfl
/-- a list or a tuple, read -/
def XV.anyL : XV → Option (List D)
  | .p (.tup ds) => some ds
  | x => x.seqL
theorem anyL_at (r : Rep K G B env σ R H) {v : V} {x : XV} {ds : List D} (h : VAt K B env σ R H v x) (e : x.anyL = some ds) : ∃ a xs, v = .ref a ∧ (SqL K H a xs ∨ SqT K H a xs) ∧ AtL K R xs ds := by
  by_cases q : ∃ es, x = .p (.tup es)
  · obtain ⟨es, rfl⟩ := q
    cases e
    obtain ⟨a, xs, h1, h2, _, h3⟩ := tup_at r h
    exact ⟨a, xs, h1, .inr h2, h3⟩
  · have e2 : x.seqL = some ds := by
      cases x with
      | p d => cases d <;> first | exact e | exact absurd ⟨_, rfl⟩ q
      | o d => exact e
      | m i d => exact e
    obtain ⟨a, xs, h1, h2, h3⟩ := seqL_at r h e2
    exact ⟨a, xs, h1, .inl h2, h3⟩
theorem vo_inS {x : XV} {z : Str} {zs : List Str} (hx : x.anyL = some (zs.map D.str)) (q : Q (.p (.bl (decide (z ∈ zs))))) : VO K G B (rIn K false) env (.p (.str z)) x Q := fun σ R H r v w hv hw Qh k => by
  obtain ⟨a, xs, rfl, h1, h2⟩ := anyL_at r hw hx
  rw [AtL.strs_inv h2] at h1
  rw [str_at hv]
  refine ⟨a, _, rfl, h1, rfl, flat_strs zs, ?_⟩
  show Qh (.bl (inV (.str z) (zs.map V.str))) H
  rw [inV_strs]
  exact k _ R H (.p (.bl _)) r (Same.refl R) (.bl _) q
theorem vo_notInS {x : XV} {z : Str} {zs : List Str} (hx : x.anyL = some (zs.map D.str)) (q : Q (.p (.bl (!decide (z ∈ zs))))) : VO K G B (rIn K true) env (.p (.str z)) x Q := fun σ R H r v w hv hw Qh k => by
  obtain ⟨a, xs, rfl, h1, h2⟩ := anyL_at r hw hx
  rw [AtL.strs_inv h2] at h1
  rw [str_at hv]
  refine ⟨a, _, rfl, h1, rfl, flat_strs zs, ?_⟩
  show Qh (.bl (!inV (.str z) (zs.map V.str))) H
  rw [inV_strs]
  exact k _ R H (.p (.bl _)) r (Same.refl R) (.bl _) q
end
end VL
namespace VL
open PySem PySem.Spec PyProof.Rows L2
end VL
namespace VL
open PySem PySem.Spec PySem.SeqAt PyProof.Rows L2 PySem.W
end VL
namespace VL
open PySem PySem.Spec PySem.SeqAt PyProof.Rows L2 PySem.W LamX
/-- a lambda has been made: the table at P has grown, or not -/
structure TabGo (P : Addr) (q : Str) (H H1 : Hp) : Prop where
  now : TabS H1 P q
  how : H1 = H ∨ ∃ (ps qs : Array Value) (d : Addr), H P = some (.tbl ps) ∧ H d = none ∧ H1 = upd (upd H P (.tbl qs)) d (CodeO d q)
theorem TabGo.stay {P : Addr} {q : Str} {H H1 : Hp} (g : TabGo P q H H1) {b : Addr} {o : HO} (hb : b ≠ P) (e : H b = some o) : H1 b = some o := by
  rcases g.how with h | ⟨ps, qs, d, _, hd, h⟩
  · rw [h]
    exact e
  · rw [h, upd_ne (ne_of_none e hd), upd_ne hb]
    exact e
theorem TabGo.keep {P : Addr} {q : Str} {H H1 : Hp} (g : TabGo P q H H1) {b : Addr} {o : HO} (e : H b = some o) (n : isTb o = false) (h : TabS H P q) : H1 b = some o := g.stay (fun z => by
  obtain ⟨ps, w, _⟩ := h
  rw [z, w] at e
  cases e
  cases n) e
end VL
namespace VL
open PySem PySem.Spec PySem.SeqAt PyProof.Rows L2 PySem.W LamX
structure FunC (K : PySem.W.Frag) (x qual : Str) (st : Stmt) (f : Addr) (fd : FuncData) (c : Addr) : Prop where
  ex : ∃ (o1 : Value) (o2 : Option Addr) (kV doc pm : Value) (an : Option Addr) (ct : Value) (sl : Array (Option Value)),
    fd = fnOf x qual (defArgs st) (defBody st) (defScope st) .none kV doc pm an (.ref c) ct ∧ K.lookup f = some ⟨o1, o2, .func fd, sl⟩ ∧ codeIn K (.ref c) qual = true
  kp : keepIn K (.ref f) = true
section
variable {P : Program} {w : World} {K : PySem.W.Frag} {mg : Str → Option Value} {base : Heap}
theorem FunC.ok {x qual : Str} {st : Stmt} {f c : Addr} {fd : FuncData} {N ps : List Str} {k : Nat} {sp : Sp} (F : FunC K x qual st f fd c) (S : FnScope N ps (defScope st)) (len : ∀ vs H Q E, sp vs H Q E → vs.length = ps.length)
    (body : ∀ (A : Around) (outer : List Env) (s : Shared) (H : Hp) (vs : List V) (Q : VK) (E : XK), Room k (A.deeper (envOfC qual (defScope st) s.heap.objs.size f (.ref c))) → sp vs H Q E →
      ∃ t, PSs (cxOf CX0 P w K mg base N qual (defScope st) f (.ref c) A outer s H E).nox (defBody st) t ∧ t { nx := fun _ H' => Q .non H', rt := Q } (L2.start N vs) H) : FnOk P w K mg base CX0 (k + 1) f fd ps sp := by
  obtain ⟨o1, o2, kV, doc, pm, an, ct, sl, rfl, hk, hc⟩ := F.ex
  refine fn_of hk hc S len fun A outer s H vs Q E hr hs => ?_
  obtain ⟨t, h1, h2⟩ := body A outer s H vs Q E hr hs
  exact ⟨t, h1.nox, h2⟩
end
end VL
namespace VL
open PySem PySem.Spec PyProof.Rows L2
section
variable {K : PySem.W.Frag} {G : Gs} {B : Bs} {env : Vn} {σ : L2.St} {R R' R1 H H' H1 : Hp} {Q : XV → Prop} {nx : Vn → Prop} {rt : XV → Prop} {bk ct : Vn → Prop} {Qe : Vn → Prop} {Qb : Bool → Prop} {Ql : List D → Prop}
theorem atl_strs : ∀ zs : List Str, AtL K R (zs.map V.str) (zs.map D.str)
  | [] => .nil
  | z :: r => .cons (.str z) (atl_strs r)
/-- xs.reverse() -/
theorem vs_reverse {i : Nat} {ds : List D} (hd : env[i]? = some (.mu (.lst ds))) (q : nx (env.set i (.mu (.lst ds.reverse)))) : VS K G B (tDrop (tBM0 K "list" rReverse (tVar i))) env nx rt bk ct := fun σ R H r Z kn _ _ _ => by
  obtain ⟨a, y, h1, h2, h3, h4, h5⟩ := r.slots i _ hd
  obtain ⟨xs, rfl⟩ : ∃ xs, y = .lst xs := by cases y <;> first | exact ⟨_, rfl⟩ | exact h5.elim
  have hrev : ∀ {vs : List V} {es : List D}, AtL K R vs es → AtL K R vs.reverse es.reverse := fun {vs es} t => by
    induction t using AtL.rec (motive_1 := fun _ _ _ => True) (motive_3 := fun _ _ _ => True) with
    | nil => exact .nil
    | cons h t _ ih =>
      rw [List.reverse_cons, List.reverse_cons]
      exact ih.app (.cons h .nil)
    | _ => trivial
  exact ⟨.ref a, h1, .inl ⟨rfl, xs, .inl (.inl h4)⟩, a, xs, rfl, rfl, h4, kn _ σ R _ (r.mut hd h1 (y := .lst xs.reverse) (d' := .lst ds.reverse) (hrev h5)) (Same.refl R) q⟩
/-- d.clear() -/
theorem vs_dclear {i : Nat} {ds : List (Key × D)} (hd : env[i]? = some (.mu (.dct ds))) (q : nx (env.set i (.mu (.dct [])))) : VS K G B (tDrop (tBM0 K "dict" rDClear (tVar i))) env nx rt bk ct := fun σ R H r Z kn _ _ _ => by
  obtain ⟨a, y, h1, h2, h3, h4, h5⟩ := r.slots i _ hd
  obtain ⟨xs, rfl⟩ : ∃ xs, y = .dK xs := by cases y <;> first | exact ⟨_, rfl⟩ | exact h5.elim
  exact ⟨.ref a, h1, .inr (.inr (.inl ⟨rfl, .inl ⟨xs, h4⟩⟩)), a, xs, rfl, rfl, h4, kn _ σ R _ (r.mut hd h1 (y := .dK []) (d' := .dct []) AtD.nil) (Same.refl R) q⟩
abbrev rInsert : V → List V → Hp → VK → Prop := fun x vs H Q => ∃ (l : Addr) (xs : List V) (i : Int) (y : V), x = .ref l ∧ vs = [.int i, y] ∧ H l = some (.lst xs) ∧ xs.length < sizeLine ∧ 0 ≤ i ∧ i < 2 ^ 63 ∧ Q .non (upd H l (.lst (xs.take i.toNat ++ [y] ++ xs.drop i.toNat)))
/-- xs.insert(e, xs.pop(f)) -/
theorem vs_insPop {i : Nat} {te tf : TE} {ds : List D} (hd : env[i]? = some (.mu (.lst ds))) (h : VE K G B te env fun x => ∃ z, x = .p (.int z) ∧ 0 ≤ z ∧ z < 2 ^ 63 ∧ VE K G B tf env fun y => ∃ (j : Nat) (d : D), y = .p (.int j) ∧ ds[j]? = some d ∧ ds.length < 100000 ∧ nx (env.set i (.mu (.lst ((ds.eraseIdx j).take z.toNat ++ [d] ++ (ds.eraseIdx j).drop z.toNat))))) :
    VS K G B (tDrop (tBM K "list" rInsert (tVar i) (tCons te (tCons (tBM K "list" rPopAt (tVar i) (tCons tf tNil)) tNil)))) env nx rt bk ct := fun σ R H r Z kn _ _ _ => by
  obtain ⟨a, y, h1, h2, h3, h4, h5⟩ := r.slots i _ hd
  obtain ⟨xs, rfl⟩ : ∃ xs, y = .lst xs := by cases y <;> first | exact ⟨_, rfl⟩ | exact h5.elim
  refine ⟨.ref a, h1, .inl ⟨rfl, xs, .inl (.inl h4)⟩, h σ R H r _ fun w R0 H0 x0 r0 s0 hw ⟨z, e, z0, z1, h'⟩ => ?_⟩
  subst e
  cases hw
  obtain ⟨b, y, f1, f2, f3, f4, f5⟩ := r0.slots i _ hd
  rw [h1] at f1
  cases f1
  obtain ⟨zs, rfl⟩ : ∃ xs, y = .lst xs := by cases y <;> first | exact ⟨_, rfl⟩ | exact f5.elim
  refine ⟨.ref a, h1, .inl ⟨rfl, zs, .inl (.inl f4)⟩, h' σ R0 H0 r0 _ fun v R1 H1 x r1 s1 hv ⟨j, d, e, hj, hl, q⟩ => ?_⟩
  subst e
  cases hv
  obtain ⟨b, y, g1, g2, g3, g4, g5⟩ := r1.slots i _ hd
  rw [h1] at g1
  cases g1
  obtain ⟨ys, rfl⟩ : ∃ xs, y = .lst xs := by cases y <;> first | exact ⟨_, rfl⟩ | exact g5.elim
  have g6 : AtL K R1 ys ds := g5
  have hlt := (List.getElem?_eq_some_iff.mp hj).1
  obtain ⟨v, hv, hd'⟩ := g6.get hj
  have hlen : (ys.eraseIdx j).length < sizeLine := Nat.lt_of_le_of_lt (List.length_eraseIdx_le ys j) (by rw [g6.len]; exact Nat.lt_of_lt_of_le hl (by decide))
  refine ⟨a, ys, j, j, v, rfl, rfl, g4, by omega, by omega, by rw [g6.len, seqIndex_of (by omega) (by omega), Int.toNat_natCast], hv, ?_⟩
  refine ⟨a, ys.eraseIdx j, z, v, rfl, rfl, upd_same, hlen, z0, z1, ?_⟩
  have g7 := g6.erase j
  have e2 : ∀ (o1 o2 : HO), upd (upd H1 a o1) a o2 = upd H1 a o2 := fun o1 o2 => by
    funext b
    by_cases hb : b = a
    · rw [hb, upd_same, upd_same]
    · rw [upd_ne hb, upd_ne hb, upd_ne hb]
  rw [e2]
  exact kn _ σ R1 _ (r1.mut hd h1 (y := .lst ((ys.eraseIdx j).take z.toNat ++ [v] ++ (ys.eraseIdx j).drop z.toNat)) (d' := .lst ((ds.eraseIdx j).take z.toNat ++ [d] ++ (ds.eraseIdx j).drop z.toNat)) (((g7.take _).app (.cons hd' .nil)).app (g7.drop _))) (s0.trans s1) q
/-- a comprehension over typed items -/
theorem ve_lcT {α β : Type} {xs : List α} {g : α → D} {h : β → D} (f : α → Option β) {wi : TI} {tg : TG} {tt : TT} {te : TE} {vs : List Nat} (hu : ∀ v ∈ vs, env[v]? = some .u) (ho : TgOnly tg vs)
    (hI : VI K G B wi env fun items => items = xs.map g ∧ xs.length < 100000 ∧
      (∀ p (i : Nat) x, xs[i]? = some x → VG K G { B with pr := p :: B.pr } tg (.p (g x)) env fun e => Agree vs env e ∧ VT K G { B with pr := p :: B.pr } tt e fun b =>
        (b = true → VE K G { B with pr := p :: B.pr } te e fun v => v.fz fun v => ∃ y, v = .p (h y) ∧ f x = some y) ∧ (b = false → f x = none)) ∧ Q (.o (.lst ((xs.filterMap f).map h)))) :
    VE K G B (tLc wi tg tt te vs) env Q := ve_lc hu ho fun σ R H r Qh k => hI σ R H r _ fun J R1 H1 items r1 s1 wk ⟨ei, hl, hs, q⟩ => k J R1 H1 items r1 s1 wk (by
  subst ei
  refine ⟨by rw [List.length_map]; exact hl, fun j acc => acc = ((xs.take j).filterMap f).map h, rfl, fun p i d acc hi e => ?_, fun acc e => ?_⟩
  · subst e
    rw [List.getElem?_map] at hi
    cases hx : xs[i]? with
    | none => rw [hx] at hi; cases hi
    | some x =>
      rw [hx] at hi
      cases hi
      have et : xs.take (i + 1) = xs.take i ++ [x] := by rw [List.take_add_one, hx]; rfl
      refine fun σ R H r v hv Qh k => hs p i x hx σ R H r v hv Qh fun e σ' R' H' r' s' ⟨ha, q⟩ => k e σ' R' H' r' s' ⟨ha, fun σ R H r Qh k => q σ R H r Qh fun b R' H' r' s' q => k b R' H' r' s' ⟨fun hb => ve_mono (q.1 hb) fun v hv => fz_mono hv fun v ⟨y, e, hf⟩ => ⟨h y, e, ?_⟩, fun hb => ?_⟩⟩
      · show _ = List.map h (List.filterMap f (xs.take (i + 1)))
        rw [et, List.filterMap_append, List.map_append]
        simp [hf]
      · show _ = List.map h (List.filterMap f (xs.take (i + 1)))
        rw [et, List.filterMap_append]
        simp [q.2 hb]
  · subst e
    rw [List.length_map, List.take_length]
    exact q)
theorem fm_some {α β : Type} (f : α → β) (xs : List α) : xs.filterMap (fun x => some (f x)) = xs.map f := by
  rw [← List.filterMap_eq_map]
  rfl
theorem idx_get {zs : List Str} {z : Str} (h : z ∈ zs) : zs[zs.idxOf z]? = some z ∧ ∀ m, m < zs.idxOf z → zs[m]? ≠ some z := by
  induction zs with
  | nil => cases h
  | cons a r ih =>
    rw [List.idxOf_cons]
    by_cases e : a = z
    · subst e
      simp
    · have hb : (a == z) = false := beq_eq_false_iff_ne.mpr e
      rw [hb]
      obtain ⟨h1, h2⟩ := ih ((List.mem_cons.mp h).resolve_left fun q => e q.symm)
      refine ⟨by simpa using h1, fun m hm => ?_⟩
      cases m with
      | zero => simpa using e
      | succ m =>
        have hm' : m < r.idxOf z := by
          have : m + 1 < r.idxOf z + 1 := hm
          omega
        simpa using h2 m hm'
theorem ve_callMO {α : Type} {args : α → List D} {pre : α → Prop} {post : α → D → Prop} {rs : α → Addr → Prop} {E : XK} {X : Addr → Prop} {t : TA} (L : Lets K G B E X)
    (h : VA K G B t env fun xs => ∃ x, XV.lent xs = some (args x) ∧ pre x ∧ (∀ C, rs x C → X C) ∧ ∀ d, post x d → D.flat d = true ∧ (∃ ds, d = .lst ds) ∧ Q (.o d)) : VE K G B (tCall (SpA K G true args pre post rs) [] E t) env Q := fun σ R H rp Qh k =>
  h σ R H rp _ fun vs R1 H1 xs r1 s1 hv _ ⟨x, e, hp, hr, q⟩ => by
    rw [List.append_nil]
    have key : ∀ R' H', Step K G (lend R1 H1 env σ) H1 R' H' → Step K G R1 H1 (cutMu R' env σ) H' := fun R' H' s => {
      same := fun b x e => by
        have nb : ¬ MuAt env σ b := fun z => by
          rw [(r1.mu z).1] at e
          cases e
        rw [cut_no nb]
        exact s.same b x ((lend_no nb).trans e)
      sub := fun b x e => by
        by_cases z : MuAt env σ b
        · rw [cut_mu z] at e
          cases e
        · rw [cut_no z] at e
          exact s.sub b x e
      kept := fun b y e n => s.kept b y e fun m z => by
        by_cases w : MuAt env σ b
        · rw [lend_mu w, e] at z
          cases z
          obtain ⟨_, y', h1, h2⟩ := r1.mu w
          rw [e] at h1
          cases h1
          exact ld_mk h2
        · rw [lend_no w] at z
          exact n m z
      out := fun b y e hd n => by
        by_cases w : MuAt env σ b
        · exact cut_mu w
        · rw [cut_no w]
          exact s.out b y e hd ((lend_no w).trans n) }
    have sub : Sub K G (lend R1 H1 env σ) H1 := fun b x e => by
      by_cases w : MuAt env σ b
      · rw [lend_mu w] at e
        obtain ⟨_, y, h1, h2⟩ := r1.mu w
        rw [e] at h1
        cases h1
        exact subAt_of e (ld_mk h2)
      · rw [lend_no w] at e
        exact r1.sub b x e
    have tb : TabIn G (lend R1 H1 env σ) := TabIn.go r1.tab' fun b z e => by
      rw [lend_no]
      · exact e
      · intro w
        rw [(r1.mu w).1] at e
        cases e
    refine ⟨lend R1 H1 env σ, x, ⟨sub, tb⟩, lent_at r1 e hv, hp, fun v R' H' d s ha hf hd => ?_, fun C R' H' s hc => L C (cutMu R' env σ) H' (r1.step.trans (key R' H' s)) (hr C hc)⟩
    obtain ⟨a, rfl, hn, hz⟩ := hf rfl
    obtain ⟨fl, ⟨ds, rfl⟩, q⟩ := q d hd
    have st := key R' H' s
    have hmu : ∀ b, MuAt env σ b → ∃ y, R' b = some y ∧ isLD y = true := fun b w => by
      obtain ⟨_, y, h1, h2⟩ := r1.mu w
      exact ⟨y, s.same b y ((lend_mu w).trans h1), h2⟩
    have na : ¬ MuAt env σ a := fun w => by
      obtain ⟨_, y, h1, _⟩ := r1.mu w
      rw [hn] at h1
      cases h1
    refine k (.ref a) (without (cutMu R' env σ) a) H' (.o (.lst ds)) (r1.goW st hn) (s1.trans (r1.sameW st hn)) ?_ q
    cases ha with
    | @lst a xs _ h1 h2 =>
      have h3 : AtL K (cutMu R' env σ) xs ds := h2.imp fun v d hm => at_cut hmu 9 (List.all_eq_true.mp fl d hm)
      have hc : cutMu R' env σ a = some (.lst xs) := by rw [cut_no na]; exact h1
      exact ⟨a, _, rfl, r1.fresh hn, without_same, s.sub.of h1 rfl, AtL.without hc rfl fl h3, r1.noslot hn, r1.nopr hn⟩
end
end VL
namespace PySem.SeqAt
open AutoSeq1 (wpAny_loadPart')
open MeetsSeq MeetsSeq2 MeetsSeq3 SeqRoads2
end PySem.SeqAt
namespace VL
open PySem PySem.Spec PyProof.Rows L2
end VL
namespace VL
open PySem PySem.Spec PyProof.Rows L2
end VL
namespace VL
open PySem PySem.Spec PyProof.Rows L2
section
variable {K : PySem.W.Frag} {G : Gs} {B : Bs} {env : Vn} {σ : L2.St} {R R' R1 H H' H1 : Hp} {Q : XV → Prop} {nx : Vn → Prop} {rt : XV → Prop} {bk ct : Vn → Prop}
theorem PrsAt.app : ∀ {xs ys : List V} {ps qs : List (Int × Int)}, PrsAt K H xs ps → PrsAt K H ys qs → PrsAt K H (xs ++ ys) (ps ++ qs)
  | _, _, _, _, .nil, t => t
  | _, _, _, _, .cons h s, t => .cons h (PrsAt.app s t)
theorem PrsAt.len : ∀ {xs : List V} {ps : List (Int × Int)}, PrsAt K H xs ps → xs.length = ps.length
  | _, _, .nil => rfl
  | _, _, .cons _ t => congrArg (· + 1) (PrsAt.len t)
end
end VL
namespace VL
open PySem PySem.Spec PyProof.Rows L2
end VL
namespace VL
open PySem PySem.Spec PyProof.Rows L2
section
variable {K : PySem.W.Frag} {G : Gs} {B : Bs} {env : Vn} {σ : L2.St} {R R' R1 H H' H1 : Hp} {Q : XV → Prop} {nx : Vn → Prop} {rt : XV → Prop} {bk ct : Vn → Prop}
theorem vo_catE {x y : XV} {ds es fs : List D} (hx : x.exL = some ds) (hy : y.exL = some es) (e : ds ++ es = fs) (hl : fs.length ≤ 100000) (q : Q (.o (.lst fs))) : VO K G B rCat env x y Q := vo_cat hx hy (by rw [← List.length_append, e]; exact hl) (by rw [e]; exact q)
end
end VL
namespace VL
open PySem PySem.Spec PyProof.Rows L2
end VL
namespace VL
open PySem PySem.Spec PyProof.Rows L2
theorem PrsAt.of {K : PySem.W.Frag} {H : Hp} {k : V → Int × Int} : ∀ {xs : List V}, (∀ x ∈ xs, ∃ t, x = V.ref t ∧ SqT K H t [.int (k x).1, .int (k x).2]) → PrsAt K H xs (xs.map k)
  | [], _ => .nil
  | x :: r, h => by
    obtain ⟨t, e, ht⟩ := h x List.mem_cons_self
    rw [List.map_cons]
    have := PrsAt.of (xs := r) fun y hy => h y (List.mem_cons_of_mem _ hy)
    subst e
    exact .cons ht this
end VL
namespace VL
open PySem L2 PySem.Spec PyProof.Rows
end VL
namespace VL
open PySem L2
end VL
namespace VL
open PySem L2
mutual
/-- d with pointers in the place of its lists -/
inductive OwnR (gs : List (Addr × D)) : D → D → Prop
  | flat {d : D} : D.deepT 9 d = true → OwnR gs d d
  | lst {ds : List D} {a : Addr} : (a, D.lst ds) ∈ gs → OwnR gs (.lst ds) (.ptr a)
  | ins {C dx : Addr} {fs : List (Str × D)} {a : Addr} : (a, D.ins C dx fs) ∈ gs → OwnR gs (.ins C dx fs) (.ptr a)
  | tup {ds es : List D} : OwnL gs ds es → OwnR gs (.tup ds) (.tup es)
  | dct {ks es : List (Key × D)} : OwnD gs ks es → OwnR gs (.dct ks) (.dct es)
inductive OwnL (gs : List (Addr × D)) : List D → List D → Prop
  | nil : OwnL gs [] []
  | cons {d e : D} {ds es : List D} : OwnR gs d e → OwnL gs ds es → OwnL gs (d :: ds) (e :: es)
inductive OwnD (gs : List (Addr × D)) : List (Key × D) → List (Key × D) → Prop
  | nil : OwnD gs [] []
  | cons {k : Key} {d e : D} {ds es : List (Key × D)} : OwnR gs d e → OwnD gs ds es → OwnD gs ((k, d) :: ds) ((k, e) :: es)
end
mutual
theorem OwnR.mono {gs hs : List (Addr × D)} (s : ∀ q ∈ gs, q ∈ hs) : ∀ {d e : D}, OwnR gs d e → OwnR hs d e
  | _, _, .flat h => .flat h
  | _, _, .lst h => .lst (s _ h)
  | _, _, .ins h => .ins (s _ h)
  | _, _, .tup h => .tup (OwnL.mono s h)
  | _, _, .dct h => .dct (OwnD.mono s h)
theorem OwnL.mono {gs hs : List (Addr × D)} (s : ∀ q ∈ gs, q ∈ hs) : ∀ {d e : List D}, OwnL gs d e → OwnL hs d e
  | _, _, .nil => .nil
  | _, _, .cons h t => .cons (OwnR.mono s h) (OwnL.mono s t)
theorem OwnD.mono {gs hs : List (Addr × D)} (s : ∀ q ∈ gs, q ∈ hs) : ∀ {d e : List (Key × D)}, OwnD gs d e → OwnD hs d e
  | _, _, .nil => .nil
  | _, _, .cons h t => .cons (OwnR.mono s h) (OwnD.mono s t)
end
theorem OwnL.len {gs : List (Addr × D)} : ∀ {ds es : List D}, OwnL gs ds es → es.length = ds.length
  | _, _, .nil => rfl
  | _, _, .cons _ t => congrArg (· + 1) t.len
theorem OwnL.get {gs : List (Addr × D)} : ∀ {ds es : List D}, OwnL gs ds es → ∀ {i : Nat} {d : D}, ds[i]? = some d → ∃ e, es[i]? = some e ∧ OwnR gs d e
  | _, _, .nil, _, _, h => by simp at h
  | _, _, .cons h _, 0, _, q => by
    simp at q
    subst q
    exact ⟨_, rfl, h⟩
  | _, _, .cons _ t, i + 1, _, q => t.get (i := i) (by simpa using q)
theorem OwnD.keys {gs : List (Addr × D)} : ∀ {ds es : List (Key × D)}, OwnD gs ds es → es.map (·.1) = ds.map (·.1)
  | _, _, .nil => rfl
  | _, _, .cons _ t => by rw [List.map_cons, List.map_cons, t.keys]
theorem OwnD.val {gs : List (Addr × D)} {k : Key} : ∀ {ds es : List (Key × D)}, OwnD gs ds es → ∀ {d : D}, valD ds k = some d → ∃ e, valD es k = some e ∧ OwnR gs d e
  | _, _, .nil, _, h => by cases h
  | _, _, .cons (k := j) (d := d) (e := e) (ds := ds) (es := es) h t, d', q => by
    unfold valD at q ⊢
    by_cases z : j = k
    · rw [List.find?_cons_of_pos (by simpa using z)] at q ⊢
      cases q
      exact ⟨_, rfl, h⟩
    · rw [List.find?_cons_of_neg (by simpa using z)] at q ⊢
      exact t.val q
/-- the lists that are kept apart -/
def GoodG (K : PySem.W.Frag) (R : Hp) (gs : List (Addr × D)) : Prop := ∀ q ∈ gs, ∃ ys ds, q.2 = .lst ds ∧ R q.1 = some (.lst ys) ∧ AtL K R ys ds ∧ ds.all (D.deepT 9) = true
theorem GoodG.app {K : PySem.W.Frag} {R : Hp} {gs hs : List (Addr × D)} (h : GoodG K R gs) (q : GoodG K R hs) : GoodG K R (gs ++ hs) := fun x hx => (List.mem_append.mp hx).elim (h x) (q x)
section
variable {K : PySem.W.Frag} {G : Gs} {B : Bs} {env : Vn} {σ : L2.St} {R R' R1 H H' H1 : Hp} {Q : XV → Prop} {nx : Vn → Prop} {rt : XV → Prop} {bk ct : Vn → Prop} {Qe : Vn → Prop}
/-- a free slot takes objects that nobody has -/
theorem Rep.toHp (r : Rep K G B env σ R H) {j : Nat} (hj : env[j]? = some .u) {gs : List (Addr × D)} (hg : ∀ q ∈ gs, B.H q.1 = none ∧ R q.1 = none ∧ ∃ y, H q.1 = some y ∧ MAt K R y q.2) (hn : ∀ q ∈ gs, NoOwn env σ q.1 ∧ ∀ p ∈ B.pr, p.1 ≠ q.1) : Rep K G B (env.set j (.hp gs)) σ R H := by
  have hjl : j < env.length := (List.getElem?_eq_some_iff.mp hj).1
  have new : ∀ a, a ∈ gs.map (·.1) → NoOwn env σ a ∧ ∀ p ∈ B.pr, p.1 ≠ a := fun a ha => by
    obtain ⟨q, hq, rfl⟩ := List.mem_map.mp ha
    exact hn q hq
  exact {
    sub0 := r.sub0
    tab := r.tab
    step := r.step
    len := by rw [List.length_set]; exact r.len
    slots := fun i sl q => by
      by_cases e : j = i
      · subst e
        rw [List.getElem?_set_self hjl] at q
        cases q
        exact hg
      · rw [List.getElem?_set_ne e] at q
        exact r.slots i sl q
    dist := fun i k si sk a hik hi hk o1 o2 => by
      by_cases ei : j = i
      · subst ei
        rw [List.getElem?_set_self hjl] at hi
        rw [List.getElem?_set_ne hik] at hk
        cases hi
        exact (new a o1).1 k sk hk o2
      · rw [List.getElem?_set_ne ei] at hi
        by_cases ek : j = k
        · subst ek
          rw [List.getElem?_set_self hjl] at hk
          cases hk
          exact (new a o2).1 i si hi o1
        · rw [List.getElem?_set_ne ek] at hk
          exact r.dist i k si sk a hik hi hk o1 o2
    pr := fun q hq => by
      obtain ⟨h1, h2, h3, h0, h4⟩ := r.pr q hq
      refine ⟨h1, h2, h3, h0, fun i sl hi o => ?_⟩
      by_cases e : j = i
      · subst e
        rw [List.getElem?_set_self hjl] at hi
        cases hi
        exact (new q.1 o).2 q hq rfl
      · rw [List.getElem?_set_ne e] at hi
        exact h4 i sl hi o }
/-- a list of tuples of plain things -/
def D.tups : D → Bool
  | .lst ds => ds.all fun d => match d with
    | .tup es => es.all (D.deepT 8)
    | _ => false
  | _ => false
theorem hp_at (r : Rep K G B env σ R H) {j : Nat} {gs : List (Addr × D)} (hj : env[j]? = some (.hp gs)) {a : Addr} {ds : List D} (hm : (a, .lst ds) ∈ gs) : ∃ ys, B.H a = none ∧ R a = none ∧ H a = some (.lst ys) ∧ AtL K R ys ds := by
  obtain ⟨h1, h2, y, h3, h4⟩ := r.slots j _ hj _ hm
  have h4 : MAt K R y (.lst ds) := h4
  cases y <;> first | exact ⟨_, h1, h2, h3, h4⟩ | exact h4.elim
def setP (gs : List (Addr × D)) (a : Addr) (d : D) : List (Addr × D) := gs.map fun q => if q.1 = a then (a, d) else q
theorem setP_keys (gs : List (Addr × D)) (a : Addr) (d : D) : (setP gs a d).map (·.1) = gs.map (·.1) := by
  unfold setP
  rw [List.map_map]
  refine List.map_congr_left fun q _ => ?_
  show (if q.1 = a then (a, d) else q).1 = q.1
  split
  · rename_i h
    exact h.symm
  · rfl
theorem setP_self {gs : List (Addr × D)} {a : Addr} {d e : D} (h : (a, e) ∈ gs) : (a, d) ∈ setP gs a d := List.mem_map.mpr ⟨(a, e), h, if_pos rfl⟩
theorem setP_ne {gs : List (Addr × D)} {a b : Addr} {d e : D} (h : (b, e) ∈ gs) (n : b ≠ a) : (b, e) ∈ setP gs a d := List.mem_map.mpr ⟨(b, e), h, if_neg n⟩
theorem Rep.mutP (r : Rep K G B env σ R H) {j : Nat} {gs : List (Addr × D)} (hj : env[j]? = some (.hp gs)) {a : Addr} {d d' : D} (hm : (a, d) ∈ gs) {y : HO} (hM : MAt K R y d') : Rep K G B (env.set j (.hp (setP gs a d'))) σ R (upd H a y) := by
  have ow : Slot.owns σ[j]? a (.hp gs) := List.mem_map_of_mem (f := (·.1)) hm
  refine r.mutS (sl' := .hp (setP gs a d')) hj ow (fun q hq => ?_) (fun b o => ?_)
  · obtain ⟨g, hg, e⟩ := List.mem_map.mp hq
    obtain ⟨h1, h2, y0, h3, h4⟩ := r.slots j _ hj g hg
    split at e
    · rename_i ea
      subst e
      rw [ea] at h1 h2
      exact ⟨h1, h2, y, upd_same, hM⟩
    · rename_i ea
      subst e
      exact ⟨h1, h2, y0, by rw [upd_ne ea]; exact h3, h4⟩
  · have o' : b ∈ (setP gs a d').map (·.1) := o
    rw [setP_keys] at o'
    exact o'
theorem ptr_at {v : V} {a : Addr} (h : At K R v (.ptr a)) : v = .ref a := by cases h; rfl
/-- xs.append(e) -/
theorem vs_appendP {tc te : TE} (h : VE K G B tc env fun x => ∃ (a : Addr) (j : Nat) (gs : List (Addr × D)) (ds : List D), x = .p (.ptr a) ∧ env[j]? = some (.hp gs) ∧ (a, .lst ds) ∈ gs ∧ VE K G B te env fun x => x.fz fun x => ∃ d, x = .p d ∧ ds.length < 100000 ∧ nx (env.set j (.hp (setP gs a (.lst (ds ++ [d])))))) :
    VS K G B (tDrop (tBM K "list" rAppend tc (tCons te tNil))) env nx rt bk ct := fun σ R H r Z kn _ _ _ =>
  h σ R H r _ fun c R0 H0 x0 r0 s0 hc ⟨a, j, gs, ds, e0, hj, hm, q0⟩ => by
    subst e0
    obtain ⟨ys, _, _, h3, h4⟩ := hp_at r0 hj hm
    have ec := ptr_at hc
    subst ec
    refine .inl ⟨rfl, ys, .inl (.inl h3)⟩ |> fun ht => ⟨ht, q0 σ R0 H0 r0 _ fun v R1 H1 x r1 s1 hv q => ?_⟩
    obtain ⟨R2, x', r2, s2, hv2, ho, d, rfl, hl, q2⟩ := hv.fz r1 q
    obtain ⟨zs, _, _, f3, f4⟩ := hp_at r2 hj hm
    refine ⟨a, zs, v, rfl, rfl, f3, by rw [AtL.len f4]; exact Nat.lt_of_lt_of_le hl (by decide), ?_⟩
    exact kn _ σ R2 _ (r2.mutP hj hm (y := .lst (zs ++ [v])) (d' := .lst (ds ++ [d])) (AtL.app f4 (.cons hv2 .nil))) ((s0.trans s1).trans s2) q2
mutual
/-- what is known again, is told without pointers -/
theorem own_back {R2 : Hp} {gs : List (Addr × D)} (s : Same R R2) (hg : ∀ q ∈ gs, ∃ y, R2 q.1 = some y ∧ MAt K R2 y q.2) : ∀ {d e : D}, OwnR gs d e → ∀ {v : V}, At K R v e → At K R2 v d
  | _, _, .flat _, _, t => t.same s
  | _, _, .lst h, _, t => by
    rw [ptr_at t]
    obtain ⟨y, h1, h2⟩ := hg _ h
    cases y <;> first | exact .lst h1 h2 | exact h2.elim
  | _, _, .ins h, _, t => by
    rw [ptr_at t]
    obtain ⟨y, h1, h2⟩ := hg _ h
    cases y <;> first | exact h2.elim | (obtain ⟨e1, e2, e3, e4⟩ := h2; subst e1; subst e2; exact .ins h1 e3 e4)
  | _, _, .tup h, _, t => by
    cases t with
    | tup h1 h2 => exact .tup (same_t s h1) (own_backL s hg h h2)
  | _, _, .dct h, _, t => by
    cases t with
    | dct h1 h2 => exact .dct (s _ _ h1) (own_backD s hg h h2)
theorem own_backL {R2 : Hp} {gs : List (Addr × D)} (s : Same R R2) (hg : ∀ q ∈ gs, ∃ y, R2 q.1 = some y ∧ MAt K R2 y q.2) : ∀ {d e : List D}, OwnL gs d e → ∀ {v : List V}, AtL K R v e → AtL K R2 v d
  | _, _, .nil, _, t => by cases t; exact .nil
  | _, _, .cons h r, _, t => by
    cases t with
    | cons h1 h2 => exact .cons (own_back s hg h h1) (own_backL s hg r h2)
theorem own_backD {R2 : Hp} {gs : List (Addr × D)} (s : Same R R2) (hg : ∀ q ∈ gs, ∃ y, R2 q.1 = some y ∧ MAt K R2 y q.2) : ∀ {d e : List (Key × D)}, OwnD gs d e → ∀ {v : List (Key × V)}, AtD K R v e → AtD K R2 v d
  | _, _, .nil, _, t => by cases t; exact .nil
  | _, _, .cons h r, _, t => by
    cases t with
    | cons h1 h2 => exact .cons (own_back s hg h h1) (own_backD s hg r h2)
end
def backOf (R H : Hp) (gs : List (Addr × D)) : Hp := fun b => match R b with
  | some o => some o
  | none => if b ∈ gs.map (·.1) then H b else none
theorem back_old {b : Addr} {o : HO} {gs : List (Addr × D)} (h : R b = some o) : backOf R H gs b = some o := by
  unfold backOf
  rw [h]
theorem back_in {b : Addr} {gs : List (Addr × D)} (h : R b = none) (hm : b ∈ gs.map (·.1)) : backOf R H gs b = H b := by
  unfold backOf
  rw [h]
  simp only
  rw [if_pos hm]
theorem back_out {b : Addr} {gs : List (Addr × D)} (h : R b = none) (hm : b ∉ gs.map (·.1)) : backOf R H gs b = none := by
  unfold backOf
  rw [h]
  simp only
  rw [if_neg hm]
/-- a < b < c -/
theorem ve_chain {r r' : R2} {ta tb tc : TE} (h : VE K G B ta env fun x => x.fz fun x => VE K G B tb env fun y => y.fz fun y => VO K G B r env x y fun z => ∃ b, z = .p (.bl b) ∧ (b = true → VE K G B tc env fun w => w.fz fun w => VO K G B r' env y w Q) ∧ (b = false → Q (.p (.bl false)))) : VE K G B (tChain r r' ta tb tc) env Q := fun σ R H rp Qh k =>
  h σ R H rp _ fun v R1 H1 x r1 s1 hv q => by
    obtain ⟨R2, x', r2, s2, hv2, ho, q2⟩ := hv.fz r1 q
    refine q2 σ R2 H1 r2 _ fun w R3 H3 y r3 s3 hw q3 => ?_
    obtain ⟨R4, y', r4, s4, hw4, ho4, q4⟩ := hw.fz r3 q3
    refine q4 σ R4 H3 r4 v w (hv2.go ho (s3.trans s4)) hw4 _ fun z R5 H5 z' r5 s5 hz ⟨b, e, q5, q6⟩ => ?_
    subst e
    cases hz
    refine ⟨b, rfl, ?_⟩
    have st : Same R R5 := (((s1.trans s2).trans s3).trans s4).trans s5
    cases b with
    | true =>
      rw [if_pos rfl]
      refine q5 rfl σ R5 H5 r5 _ fun u R6 H6 u' r6 s6 hu q7 => ?_
      obtain ⟨R7, u2, r7, s7, hu7, ho7, q8⟩ := hu.fz r6 q7
      exact q8 σ R7 H6 r7 w u (hw4.go ho4 ((s5.trans s6).trans s7)) hu7 _ fun t R8 H8 t' r8 s8 ht q9 => k t R8 H8 t' r8 (((st.trans s6).trans s7).trans s8) ht q9
    | false =>
      rw [if_neg Bool.false_ne_true]
      exact k _ R5 H5 (.p (.bl false)) r5 st (.bl false) (q6 rfl)
end
end VL
namespace VL
open PySem L2
end VL
namespace VL
open PySem L2
end VL
namespace VL
open PySem PySem.Spec PyProof.Rows L2
/-- some defs, each with its promise -/
def Cals (P : Program) (w : World) (K : PySem.W.Frag) (mg : Str → Option Value) (base : Heap) (j : Nat) (l : List (Str × Sp)) : Prop := ∀ p ∈ l, ∃ k, k ≤ j ∧ Cal P w K mg base k p.1 p.2 []
theorem cals_nil {P : Program} {w : World} {K : PySem.W.Frag} {mg : Str → Option Value} {base : Heap} {j : Nat} : Cals P w K mg base j [] := fun p hp => by cases hp
theorem cals_cons {P : Program} {w : World} {K : PySem.W.Frag} {mg : Str → Option Value} {base : Heap} {j k : Nat} {x : Str} {sp : Sp} {l : List (Str × Sp)} (c : Cal P w K mg base k x sp []) (hk : k ≤ j) (r : Cals P w K mg base j l) :
    Cals P w K mg base j ((x, sp) :: l) := fun p hp => by
  rcases List.mem_cons.mp hp with rfl | hp
  · exact ⟨k, hk, c⟩
  · exact r p hp
def inDefs (mg : Str → Option Value) (l : List (Str × Sp)) (f : Addr) (sp : Sp) : Prop := ∃ p ∈ l, mg p.1 = some (.ref f) ∧ sp = p.2
/-- f(..), the i-th slot holds a def of some -/
def tCallR (i : Nat) (D : Addr → Sp → Prop) (t : TA) : TE := fun σ H Q => ∃ f sp, σ[i]? = some (some (.ref f)) ∧ D f sp ∧ tCall sp [] E0 t σ H Q
def tDef (mg : Str → Option Value) (x : Str) : TE := fun σ H Q => ∃ f, mg x = some (.ref f) ∧ Q (.ref f) H
section
variable {X : Cx} {i j : Nat} {x : Str} {p pos : Pos} {e : Expr} {es : List Expr} {t : TA} {l : List (Str × Sp)}
theorem pe_callR {mg' : Str → Option Value} (A : Cals X.prog X.w X.K mg' X.base j l) (hmg : X.mg = mg') (hr : Room j X.A) (hN : X.N[i]? = some x) (hv : Vis X.env.scope x) (ha : PA X (e :: es) t)
    (hdb : (x == ("__debug__" : Str)) = false := by decide) (hcd : (x == ("__classdict__" : Str)) = false := by decide)
    (he : starEach (e :: es) X.env = (false, eval e X.env) :: starEach es X.env := by rfl) (hpl : (backTo pos (starEach es X.env)).any (·.1) = false := by rfl) : PE X (.Call (.Name x p) (e :: es) [] pos) (tCallR i (inDefs mg' l) t) := by
  subst hmg
  refine ⟨fun pins s σ H Q I h => ?_⟩
  obtain ⟨f, sp, hs, ⟨q, hq, hm, rfl⟩, ht⟩ := h
  obtain ⟨k, hk, c⟩ := A q hq
  obtain ⟨f', fd, ps, ds, F, hm', kp, b, d⟩ := c.ex
  have ef : f' = f := by
    rw [hm] at hm'
    cases hm'
    rfl
  subst ef
  exact (pe_callL (i := i) (f := f') (sp := q.2) (dvs := []) (E := E0) F (hr.mono hk) hN hv kp b d pass0 ha hdb hcd he hpl).run pins s σ H Q I ⟨hs, ht⟩
theorem pe_def (hg : Gl X x) (hd : (x == ("__debug__" : Str)) = false := by decide) : PE X (.Name x p) (tDef X.mg x) := ⟨fun pins s σ H Q I ⟨f, hm, q⟩ => (pe_glob (v := .ref f) hg hm rfl hd).run pins s σ H Q I q⟩
end
section
variable {K : PySem.W.Frag} {G : Gs} {B : Bs} {env : Vn} {Q : XV → Prop} {mg : Str → Option Value}
theorem ve_def {x : Str} (h : ∃ f, mg x = some (.ref f) ∧ Q (.p (.ptr f))) : VE K G B (tDef mg x) env Q := fun σ R H r Qh k => by
  obtain ⟨f, hm, q⟩ := h
  exact ⟨f, hm, k _ R H (.p (.ptr f)) r (Same.refl R) (.ptr f) q⟩
theorem ve_callR {i : Nat} {l : List (Str × Sp)} {f : Addr} {x : Str} {sp : Sp} {t : TA} (hd : env[i]? = some (.p (.ptr f))) (hl : (x, sp) ∈ l) (hm : mg x = some (.ref f)) (h : VE K G B (tCall sp [] E0 t) env Q) : VE K G B (tCallR i (inDefs mg l) t) env Q := fun σ R H r Qh k => by
  obtain ⟨v, h1, h2⟩ := r.slots i _ hd
  rw [ptr_at h2] at h1
  exact ⟨f, sp, h1, ⟨_, hl, hm, rfl⟩, h σ R H r Qh k⟩
variable {nx : Vn → Prop} {rt : XV → Prop} {bk ct : Vn → Prop} {σ : L2.St} {R H : Hp}
end
end VL
namespace VL
open PySem PySem.Spec PyProof.Rows L2
/-- a def that may let an exception out -/
structure CalX (P : Program) (w : World) (K : PySem.W.Frag) (mg : Str → Option Value) (base : Heap) (k : Nat) (x : Str) (sp : Sp) : Prop where
  ex : ∃ (f : Addr) (fd : FuncData) (ps : List Str), FnOk P w K mg base (L2.CX P w) k f fd ps sp ∧ mg x = some (.ref f) ∧ PySem.W.keepIn K (.ref f) = true ∧ Binds K fd ps []
section
variable {X : Cx} {k j : Nat} {x : Str} {p pos : Pos} {e : Expr} {es : List Expr} {sp : Sp} {t : TA} {E : XK} {W : WX}
theorem pe_cX (c : CalX X.prog X.w X.K X.mg X.base k x sp) (hr : Room j X.A) (hk : k ≤ j) (hg : Gl X x) (hx : Passes (L2.CX X.prog X.w) X E) (ha : PA X (e :: es) t)
    (hdb : (x == ("__debug__" : Str)) = false := by decide) (he : starEach (e :: es) X.env = (false, eval e X.env) :: starEach es X.env := by rfl) (hpl : (backTo pos (starEach es X.env)).any (·.1) = false := by rfl) :
    PE X (.Call (.Name x p) (e :: es) [] pos) (tCall sp [] E t) := by
  obtain ⟨f, fd, ps, F, hm, kp, b⟩ := c.ex
  exact pe_call F (hr.mono hk) hg hm kp b .nil hx ha hdb he hpl
theorem pe_cT (c : CalX X.prog X.w X.K X.mg X.base k x sp) (hr : Room j X.A) (hk : k ≤ j) (hg : Gl X x) (tk : Takes X W) (ha : PA X (e :: es) t)
    (hdb : (x == ("__debug__" : Str)) = false := by decide) (he : starEach (e :: es) X.env = (false, eval e X.env) :: starEach es X.env := by rfl) (hpl : (backTo pos (starEach es X.env)).any (·.1) = false := by rfl) :
    PE X (.Call (.Name x p) (e :: es) [] pos) (tCallS sp (WE W) t) := by
  obtain ⟨f, fd, ps, F, hm, kp, b⟩ := c.ex
  exact pe_callS F (hr.mono hk) hg hm kp b (passAt tk) ha hdb he hpl
/-- isinstance of the caught exception: of a class or of one of a tuple's -/
def rIsX (K : PySem.W.Frag) (cls : Value) (d : Option Addr) (a : Addr) : List V → Hp → VK → Prop := fun xs H Q => ∃ D, cls = .ref D ∧ d = none ∧ ExcC K D ∧
  ((∃ c u b, xs = [.ref a, c] ∧ ClsV c u ∧ PySem.W.kitOne K (.ref D) u = some b ∧ Q (.bl b) H) ∨ (∃ tp cs us b, xs = [.ref a, .ref tp] ∧ SqT K H tp cs ∧ Paired ClsV cs us ∧ PySem.W.kitAny K (.ref D) us = some b ∧ Q (.bl b) H))
theorem call_isX {a : Addr} {oe : Obj} {pn : List (Addr × Obj)} {cls : Value} {d : Option Addr} (hz : Zc cls d oe) (hf : ∃ vs, oe.data = .fields vs) : CallR (X.suite a ((a, oe) :: pn)) (.builtin "isinstance") (rIsX X.K cls d a) := by
  intro pins s σ H xs us Q I r h
  obtain ⟨D, rfl, rfl, C, h⟩ := h
  obtain ⟨hget, _⟩ := I.pin (a, oe) (List.mem_append.mpr (.inl List.mem_cons_self))
  obtain ⟨vs, hv⟩ := hf
  have J : PySem.W.InstAt s.heap a oe D none := by
    obtain ⟨oc, od, oda, osl⟩ := oe
    obtain ⟨h1, h2⟩ := hz
    dsimp only at h1 h2 hv
    subst h1 h2 hv
    exact ⟨hget, rfl, rfl, trivial⟩
  have Z := PySem.W.handS_kitx_exc (x := a) (ox := oe) C.hg C.hk C.hs C.hd C.ha C.hn C.ht C.hm
  rcases h with ⟨c, u, b, rfl, k, e, q⟩ | ⟨tp, cs, ws, b, rfl, hT, k, e, q⟩
  · cases r with
    | cons rx rr =>
      cases rr with
      | cons rt rr =>
        cases rr
        cases rx
        have ec := k.eq rt
        subst ec
        exact PySem.W.kia_one Z I.kIn J e (fun z => nomatch z) fun tk => ⟨.bl b, H, I.kept (t' := tk) fun _ _ z => z, rfl, q⟩
  · cases r with
    | cons rx rr =>
      cases rr with
      | cons rt rr =>
        cases rr
        cases rx
        cases rt
        obtain ⟨its, rv, ⟨o, h1, h2, n, h3⟩, _⟩ := I.tuple hT
        have e3 := ClsV.all k rv
        subst e3
        obtain ⟨oc, od, dt, sl⟩ := o
        simp only at h2 h3
        subst h2 h3
        exact PySem.W.kia_tup Z I.kIn J h1 e (fun z => nomatch z) fun tk => ⟨.bl b, H, I.kept (t' := tk) fun _ _ z => z, rfl, q⟩
end
section
variable {K : PySem.W.Frag} {G : Gs} {B : Bs} {env : Vn} {σ : L2.St} {R R' H H' : Hp} {Q : XV → Prop} {nx : Vn → Prop} {rt : XV → Prop} {bk ct : Vn → Prop}
/-- a slot that nothing is told of is emptied -/
theorem Rep.unset (r : Rep K G B env σ R H) (i : Nat) : Rep K G B (env.set i .u) (σ.set i none) R H := by
  have r0 := r.forget i
  have at_ : ∀ (j : Nat) s, (env.set i .u)[j]? = some s → s = .u ∨ (σ.set i none)[j]? = σ[j]? := fun j s hj => by
    by_cases e : i = j
    · subst e
      have hi := (List.getElem?_eq_some_iff.mp hj).1
      rw [List.length_set] at hi
      rw [List.getElem?_set_self hi] at hj
      exact .inl (Option.some.inj hj).symm
    · exact .inr (List.getElem?_set_ne e)
  exact {
    sub0 := r0.sub0
    tab := r0.tab
    step := r0.step
    len := by rw [List.length_set]; exact r0.len
    slots := fun j s hj => by
      rcases at_ j s hj with rfl | e
      · trivial
      · have := r0.slots j s hj
        cases s with
        | u => trivial
        | p d => obtain ⟨v, h1, h2⟩ := this; exact ⟨v, by rw [e]; exact h1, h2⟩
        | mu d => obtain ⟨a, y, h1, h2⟩ := this; exact ⟨a, y, by rw [e]; exact h1, h2⟩
        | hp gs => exact this
    dist := fun j k sj sk a hjk hj hk o1 o2 => by
      rcases at_ j sj hj with rfl | e1
      · exact o1
      · rcases at_ k sk hk with rfl | e2
        · exact o2
        · rw [e1] at o1
          rw [e2] at o2
          exact r0.dist j k sj sk a hjk hj hk o1 o2
    pr := fun q hq => by
      obtain ⟨g1, g2, g3, g0, g4⟩ := r0.pr q hq
      refine ⟨g1, g2, g3, g0, fun j e hj o => ?_⟩
      rcases at_ j e hj with rfl | e1
      · exact o
      · rw [e1] at o
        exact g4 j e hj o }
/-- statements of a try's body: xq: what is so where a class's exception comes -/
def VSX (K : PySem.W.Frag) (G : Gs) (B : Bs) (tb : WX → TS) (env : Vn) (nx : Vn → Prop) (rt : XV → Prop) (bk ct : Vn → Prop) (xq : Addr → Vn → Prop) : Prop := ∀ σ R H, Rep K G B env σ R H → ∀ (Z : Ends) (W : WX),
  (∀ env' σ' R' H', Rep K G B env' σ' R' H' → Same R R' → nx env' → Z.nx σ' H') →
  (∀ v env' σ' R' H' x, Rep K G B env' σ' R' H' → Same R R' → VAt K B env' σ' R' H' v x → rt x → Z.rt v H') →
  (∀ env' σ' R' H', Rep K G B env' σ' R' H' → Same R R' → bk env' → Z.bk σ' H') →
  (∀ env' σ' R' H', Rep K G B env' σ' R' H' → Same R R' → ct env' → Z.ct σ' H') →
  (∀ C env' σ' R' H', Rep K G B env' σ' R' H' → Same R R' → xq C env' → W (.ref C) none σ' H') → tb W Z σ H
variable {xq : Addr → Vn → Prop}
/-- f(..) as a statement -/
theorem vsx_call {α : Type} {fr : Bool} {args : α → List D} {pre : α → Prop} {post : α → D → Prop} {rs : α → Addr → Prop} {t : TA}
    (h : VA K G B t env fun xs => ∃ x, xs = (args x).map XV.p ∧ pre x ∧ (∀ C, rs x C → xq C env) ∧ ∀ d, post x d → nx env) : VSX K G B (fun W => tDrop (tCallS (SpA K G fr args pre post rs) (WE W) t)) env nx rt bk ct xq := fun σ R H rp Z W kn kr kb kc kx =>
  h σ R H rp _ fun vs R1 H1 xs r1 s1 hv _ ⟨x, e, hp, hr, q⟩ => by
    subst e
    exact ⟨R1, x, ⟨r1.sub, r1.tab'⟩, atL_of hv, hp, fun v R' H' d s ha _ hd => kn env σ R' H' (r1.go s) (s1.trans s.same) (q d hd), fun C R' H' s hc => kx C env σ R' H' (r1.go s) (s1.trans s.same) (hr C hc)⟩
/-- try: body / except c as n: suite (n's slot is i); every exception that comes is taken -/
def tTry (K : PySem.W.Frag) (c : Value) (i : Nat) (tb : WX → TS) (ts : Addr → Value → Option Addr → TS) (Wout : WX) : TS := fun D σ H => tb (wAs K c i ts Wout D) D σ H
theorem vs_try {c : Value} {i : Nat} {tb : WX → TS} {ts : Addr → Value → Option Addr → TS} {Wout : WX} (hi : i < env.length)
    (h : VSX K G B tb env nx rt bk ct fun C e => PySem.W.exmOne K (.ref C) c = some true ∧ i < e.length ∧ ∀ a, VS K G B (ts a (.ref C) none) (e.set i (.p (.ptr a))) (fun e' => nx (e'.set i .u)) rt (fun e' => bk (e'.set i .u)) (fun e' => ct (e'.set i .u))) :
    VS K G B (tTry K c i tb ts Wout) env nx rt bk ct := fun σ R H r Z kn kr kb kc =>
  h σ R H r Z _ kn kr kb kc fun C e σ' R' H' r' s' ⟨hb, hi', q⟩ => ⟨true, hb, fun _ a ha => q a _ R' H' (r'.set (sl := .p (.ptr a)) hi' ⟨.ref a, List.getElem?_set_self (by rw [r'.len]; exact hi'), .ptr a⟩ fun _ o => o.elim) _
    (fun e2 σ2 R2 H2 r2 s2 q2 => kn _ _ R2 H2 (r2.unset i) (s'.trans s2) q2) (fun v e2 σ2 R2 H2 x r2 s2 hv q2 => kr v e2 σ2 R2 H2 x r2 (s'.trans s2) hv q2)
    (fun e2 σ2 R2 H2 r2 s2 q2 => kb _ _ R2 H2 (r2.unset i) (s'.trans s2) q2) (fun e2 σ2 R2 H2 r2 s2 q2 => kc _ _ R2 H2 (r2.unset i) (s'.trans s2) q2), fun z => by cases z⟩
/-- isinstance of what was caught -/
def D.cls : D → Option Value
  | .ptr C => some (.ref C)
  | .ty n => some (.type n)
  | _ => none
theorem cls_at {v : V} {d : D} {u : Value} (h : At K R v d) (e : d.cls = some u) : ClsV v u := by
  cases h <;> first | (cases e; constructor; done) | cases e
theorem vc_isX {C a : Addr} {c : D} {u : Value} {b : Bool} (hc : ExcC K C) (hu : c.cls = some u) (hk : PySem.W.kitOne K (.ref C) u = some b) (q : Q (.p (.bl b))) : VC K G B (rIsX K (.ref C) none a) env [.p (.ptr a), .p c] Q := vc2 fun σ R H r v w hv hw Qh k => by
  rw [ptr_at hv]
  exact ⟨C, rfl, rfl, hc, .inl ⟨w, u, b, rfl, cls_at hw hu, hk, k _ R H (.p (.bl b)) r (Same.refl R) (.bl b) q⟩⟩
theorem clss_at : ∀ {vs : List V} {ds : List D} {us : List Value}, AtL K R vs ds → ds.map D.cls = us.map some → Paired ClsV vs us
  | _, _, [], .nil, _ => .nil
  | _, _, u :: us, .cons h t, e => by
    rw [List.map_cons, List.map_cons] at e
    obtain ⟨e1, e2⟩ := List.cons.inj e
    exact .cons (cls_at h e1) (clss_at t e2)
  | _, _, _ :: _, .nil, e => by cases e
  | _, _, [], .cons _ _, e => by cases e
theorem vc_isXT {C a : Addr} {cs : List D} {us : List Value} {b : Bool} (hc : ExcC K C) (hu : cs.map D.cls = us.map some) (hk : PySem.W.kitAny K (.ref C) us = some b) (q : Q (.p (.bl b))) : VC K G B (rIsX K (.ref C) none a) env [.p (.ptr a), .p (.tup cs)] Q := vc2 fun σ R H r v w hv hw Qh k => by
  obtain ⟨tp, xs, rfl, h1, _, h2⟩ := tup_at r hw
  rw [ptr_at hv]
  exact ⟨C, rfl, rfl, hc, .inr ⟨tp, xs, us, b, rfl, h1, clss_at h2 hu, hk, k _ R H (.p (.bl b)) r (Same.refl R) (.bl b) q⟩⟩
/-- raise X(..), X an own class at C -/
theorem vs_raise {E : XK} {Xc : Addr → Prop} {C : Addr} (L : Lets K G B E Xc) (h : Xc C) : VS K G B (fun _ _ H => E (.ref C) none H) env nx rt bk ct := fun σ R H r Z _ _ _ _ => L C R H r.step h
theorem ve_ref {C : Addr} (q : Q (.p (.ptr C))) : VE K G B (tC (.ref C)) env Q := fun σ R H r Qh k => k _ R H (.p (.ptr C)) r (Same.refl R) (.ptr C) q
end
/-- an own exception class over ValueError -/
structure Xc (K : PySem.W.Frag) (mg : Str → Option Value) (x : Str) : Prop where
  ex : ∃ C : Addr, PySem.W.nsIn K mainGlobals x = some (some (.ref C)) ∧ mg x = some (.ref C) ∧ PySem.W.keepIn K (.ref C) = true ∧
    PySem.W.excIn K C [.type "ValueError", .type "Exception", .type "BaseException", .type "object"] "ValueError.__new__" = true ∧
    PySem.W.subIn K (.ref C) (.type "BaseException") = some true ∧ PySem.W.typeIn K (.ref C) = some (.type "type") ∧ ExcC K C
/-- the class C is what the text's name x stands for -/
abbrev Is (K : PySem.W.Frag) (x : Str) (C : Addr) : Prop := PySem.W.nsIn K mainGlobals x = some (some (.ref C))
theorem Is.uniq {K : PySem.W.Frag} {x : Str} {C D : Addr} (h : Is K x C) (q : Is K x D) : C = D := by
  exact Value.ref.inj (Option.some.inj (Option.some.inj (h.symm.trans q)))
section
variable {X : Cx} {i j : Nat} {x n : Str} {p pos pos' np : Pos} {e : Expr} {es : List Expr} {t : TA} {l : List (Str × Sp)} {W : WX} {E : XK}
theorem ps_try {c : Value} {i : Nat} {body suite : List Stmt} {b₀ : Stmt} {tb : WX → TS} {ts : Addr → Value → Option Addr → TS} {Wout : WX} (hs : X.stack = X.env :: X.outer) (hf : X.env.frame = some X.env.locals) (hN : X.N.Nodup) (hi : X.N[i]? = some n) (hln : X.env.kindOf n = some .local) (hc : Names X x c) (tk : Takes X Wout)
    (hb : ∀ (W : WX) (pn : List (Addr × Obj)) (xe : Value → Shared → Prop), Takes (X.tr pn xe) W → PassesOwn (model X.prog X.w) X.A X.env xe → PSs (X.tr pn xe) body (tb W))
    (hsu : ∀ (a : Addr) (oe : Obj) (cls : Value) (d : Option Addr) (pn : List (Addr × Obj)), Zc cls d oe → (∃ vs, oe.data = .fields vs) → PSs (X.suite a ((a, oe) :: pn)) (b₀ :: suite) (ts a cls d)) :
    PS X (.Try body [.ExceptHandler (some (.Name x np)) (some n) (b₀ :: suite) pos'] [] [] pos) (tTry X.K c i tb ts Wout) := ps_try_as hs hf hN hi hln hc tk hb hsu
end
open LamX in
/-- as FunC.ok, for a def that may raise -/
theorem FunC.okX {P : Program} {w : World} {K : PySem.W.Frag} {mg : Str → Option Value} {base : Heap} {x qual : Str} {st : Stmt} {f c : Addr} {fd : FuncData} {N ps : List Str} {k : Nat} {sp : Sp} (F : FunC K x qual st f fd c) (S : FnScope N ps (defScope st)) (len : ∀ vs H Q E, sp vs H Q E → vs.length = ps.length)
    (body : ∀ (A : Around) (outer : List Env) (s : Shared) (H : Hp) (vs : List V) (Q : VK) (E : XK), Room k (A.deeper (envOfC qual (defScope st) s.heap.objs.size f (.ref c))) → sp vs H Q E →
      ∃ t, PSs (cxOf (L2.CX P w) P w K mg base N qual (defScope st) f (.ref c) A outer s H E) (defBody st) t ∧ t { nx := fun _ H' => Q .non H', rt := Q } (L2.start N vs) H) : FnOk P w K mg base (L2.CX P w) (k + 1) f fd ps sp := by
  obtain ⟨o1, o2, kV, doc, pm, an, ct, sl, rfl, hk, hc⟩ := F.ex
  exact fn_of hk hc S len fun A outer s H vs Q E hr hs => body A outer s H vs Q E hr hs
end VL
namespace VL
open PySem PySem.Spec PyProof.Rows L2
/-- how many unlike texts stand in the first n -/
def dc (xs : List Str) : Nat → Nat
  | 0 => 0
  | i + 1 => if ((xs.take i).any (· == xs.getD i Str.empty)) = true then dc xs i else dc xs i + 1
theorem dc_le (xs : List Str) : ∀ n, dc xs n ≤ n
  | 0 => Nat.le_refl _
  | i + 1 => by
    have := dc_le xs i
    unfold dc
    split <;> omega
theorem any_take {xs : List Str} {i : Nat} (hi : i < xs.length) : ((xs.take i).any (· == xs.getD i Str.empty)) = decide (xs[i] ∈ xs.take i) := by
  have e1 : xs.getD i Str.empty = xs[i] := by rw [List.getD_eq_getElem?_getD, List.getElem?_eq_getElem hi]; rfl
  rw [e1]
  refine Bool.eq_iff_iff.mpr ?_
  rw [List.any_eq_true, decide_eq_true_iff]
  exact ⟨fun ⟨y, hy, e⟩ => (eq_of_beq e) ▸ hy, fun h => ⟨_, h, beq_self_eq_true _⟩⟩
theorem dc_iff {xs : List Str} : ∀ n, n ≤ xs.length → (dc xs n = n ↔ (xs.take n).Nodup)
  | 0, _ => by simp [dc]
  | i + 1, h => by
    have ih := dc_iff (xs := xs) i (by omega)
    have le := dc_le xs i
    have e2 : xs.take (i + 1) = xs.take i ++ [xs[i]] := by rw [List.take_add_one, List.getElem?_eq_getElem (by omega)]; rfl
    unfold dc
    rw [any_take (by omega), e2]
    by_cases q : xs[i] ∈ xs.take i
    · rw [if_pos (decide_eq_true q)]
      refine ⟨fun e => by omega, fun nd => ?_⟩
      exact absurd rfl ((List.nodup_append.mp nd).2.2 _ q _ (List.mem_singleton.mpr rfl))
    · rw [if_neg (by rw [decide_eq_false q]; exact Bool.false_ne_true)]
      refine ⟨fun e => List.nodup_append.mpr ⟨ih.mp (by omega), by simp, fun a ha b hb e => ?_⟩, fun nd => ?_⟩
      · rw [List.mem_singleton.mp hb] at e
        exact q (e ▸ ha)
      · have := ih.mpr (List.nodup_append.mp nd).1
        omega
theorem dc_dec (xs : List Str) : decide (((dc xs xs.length : Nat) : Int) = ((xs.length : Nat) : Int)) = decide xs.Nodup := decide_eq_decide.mpr (by
  have := dc_iff (xs := xs) xs.length (Nat.le_refl _)
  rw [List.take_length] at this
  exact ⟨fun h => this.mp (by omega), fun h => by rw [this.mpr h]⟩)
theorem seen_next {xs : List Str} {i : Nat} (hi : i < xs.length) (k : Str) : ((xs.take i).any (· == k) || decide (k = xs.getD i Str.empty)) = (xs.take (i + 1)).any (· == k) := by
  have e1 : xs.getD i Str.empty = xs[i] := by rw [List.getD_eq_getElem?_getD, List.getElem?_eq_getElem hi]; rfl
  have e2 : xs.take (i + 1) = xs.take i ++ [xs[i]] := by rw [List.take_add_one, List.getElem?_eq_getElem hi]; rfl
  rw [e1, e2, List.any_append]
  congr 1
  by_cases e : k = xs[i]
  · subst e
    simp
  · have hb : (xs[i] == k) = false := by simpa [beq_iff_eq] using (fun h' : xs[i] = k => e h'.symm)
    simp [hb, e]
section
variable {prog : Program} {w : World} {A : Around} {R : Result → Shared → Prop} {I : Addr} {fp wr : List Addr} {G : Array GenState → Array GenState → Prop} {n : Nat} {P : Nat → Value → Prop} {St : Nat → Shared → Prop}
/-- the texts go in, each a new one -/
theorem loopU (W : WalksS prog w A.in1 I fp wr G n P St) (S : Addr) (hSf : S ∉ fp) (xs : List Str) (hsz : xs.length = n) (hb : n + 1 < scanBound) (hval : ∀ i v, P i v → ∃ t, v = .str (xs.getD i Str.empty) t) :
    ∀ (k i : Nat) (s : Shared), n - i = k → i ≤ n → St i s → s.heap.SetOf (PySem.strKind prog w) S (fun k' => (xs.take i).any (· == k')) (dc xs i) →
      (∀ s', Moved (S :: wr) G s s' → s'.heap.SetOf (PySem.strKind prog w) S (fun k' => (xs.take n).any (· == k')) (dc xs n) → R (.ok (.ret .none)) s') →
      codeAny (model prog w) A (.builtin "set.update.loop" ⟨[.ref S, .ref I], []⟩) R s := by
  have hSw : S ∉ wr := fun h => hSf (W.sub _ h)
  have hsub : ∀ b ∈ wr, b ∈ S :: wr := fun b hb => List.mem_cons_of_mem _ hb
  have stay : ∀ {h h' : Heap} {S' : Str → Bool} {m : Nat}, h.SetOf (PySem.strKind prog w) S S' m → (∀ o, h.get? S = some o → h'.get? S = some o) → h'.SetOf (PySem.strKind prog w) S S' m := fun ⟨o, es, ep, t, ho, rest⟩ k => ⟨o, es, ep, t, k o ho, rest⟩
  intro k
  induction k with
  | zero =>
    intro i s hk hi hst hS hR
    have hin : i = n := by omega
    subst hin
    refine codeAny_builtin PyProof.Rows.F.entry_set_update_loop ?_
    rw [Around.under_plainId PyProof.Rows.F.plain_set_update_loop _]
    show wpAny _ A.in1 (pyNext (.ref I) >>= _) _ _ s
    refine wpAny_bind (W.done s _ _ hst fun s' hm => ?_)
    show wpAny _ A.in1 (ret Value.none) _ _ s'
    exact wpAny_pure (hR s' (hm.mono hsub) (stay hS fun o ho => hm.heap S _ hSw ho))
  | succ k ih =>
    intro i s hk hi hst hS hR
    have hlt : i < n := by omega
    have hnx := seen_next (xs := xs) (show i < xs.length by omega)
    have hdl := dc_le xs i
    refine codeAny_builtin PyProof.Rows.F.entry_set_update_loop ?_
    rw [Around.under_plainId PyProof.Rows.F.plain_set_update_loop _]
    show wpAny _ A.in1 (pyNext (.ref I) >>= _) _ _ s
    refine wpAny_bind (W.item i s _ _ hlt hst fun v s' hP hst' hm => ?_)
    obtain ⟨t, rfl⟩ := hval i v hP
    have hS' := stay hS fun o ho => hm.heap S _ hSw ho
    show wpAny _ A.in1 (holding [Value.str (xs.getD i Str.empty) t] (setAdd S (.str (xs.getD i Str.empty) t)) >>= _) _ _ s'
    refine wpAny_bind (wpAny_holding ?_)
    unfold setAdd
    refine wpAny_holding ?_
    refine wpAny_bind ((PySem.strKind prog w).pyHash (k := xs.getD i Str.empty) (strKind_is _ _ _ _) ?_)
    refine wpAny_setAddHashed_of (knd := PySem.strKind prog w) (s := { s' with toks := s'.toks + 1 }) (strKind_is _ _ _ _) rfl hS' (by omega) fun h' hsb hS2 => ?_
    have hSi : h'.SetOf (PySem.strKind prog w) S (fun k' => (xs.take (i + 1)).any (· == k')) (dc xs (i + 1)) := SetOf_congr hS2 hnx rfl
    refine wpAny_pure ⟨plainId_quiet PyProof.Rows.F.plain_set_update_loop _, ih (i + 1) _ (by omega) hlt (W.frame _ s' _ _ hst' (Nat.le_succ _) fun b hb o e => ?_) hSi fun s'' hm'' hS'' => ?_⟩
    · rw [hsb.2 b (fun h : b = S => hSf (by rw [← h]; exact hb))]; exact e
    · refine hR s'' (Moved.trans W.gtrans ((hm.mono hsub).then_heap (Nat.le_succ _) fun b o hb e => ?_) hm'') hS''
      rw [hsb.2 b (fun h : b = S => hb (by rw [h]; exact List.mem_cons_self))]; exact e
end
section
variable {prog : Program} {w : World} {A : Around} {E : Value → Shared → Prop} {s : Shared}
theorem call_setU {l : Addr} {items : Array Value} {xs : List Str} {Q : Value → Shared → Prop}
    (hh : A.handled = none) (hl : s.heap.IsList l items) (hi : PyProof.Rows.StrsAre items.toList xs) (hb : xs.length + 1 < scanBound)
    (h : ∀ (h' : Heap) (tk : Nat), h'.SetOf (PySem.strKind prog w) s.heap.objs.size (fun k' => (xs.take items.size).any (· == k')) (dc xs items.size) →
      (∀ b o, b < s.heap.objs.size → s.heap.get? b = some o → h'.get? b = some o) → Q (.ref s.heap.objs.size) { s with heap := h', toks := tk }) :
    wpAny (model prog w) A (call (.type "set") [.ref l]) Q E s := by
  obtain ⟨c, tl, hmro⟩ := PySem.F.called_set.mro
  have hmade := PySem.F.called_set.made
  have hsub := PySem.F.called_set.sub
  refine wpAny_call (codeAny_of_tree ?_)
  show wpAny _ _ (callAny (.type "set") _) _ _ _
  refine wpAny_pure ⟨Code.quiet_builtin _ (by decide +kernel), codeAny_builtin PySem.F.entry_type_call ?_⟩
  rw [Around.under_plain (weight_type_call_type "set" [.ref l] []) rfl]
  have h1 := PySem.F.called_set.notType
  have h2 := PySem.F.called_set.canCreate
  have hct := PySem.F.typeCall_set_1 (.ref l)
  repeat (any_goals (first | assumption | wp_step))
  refine codeAny_mono (code_set_new_1 (.ref l) (E := E) (Q₁ := fun obj s₁ => ∃ led : Bool, obj = .ref s.heap.objs.size ∧ s₁ = { s with heap := s.heap.push { cls := .type "set", dict := none, data := .set #[] 0 (.fresh 0 0 led) } }) fun led => ⟨led, rfl, rfl⟩) fun r s₁ hr => ?_
  cases r with
  | error e => exact hr
  | ok fl =>
    cases fl with
    | ret obj =>
      obtain ⟨led, rfl, rfl⟩ := hr
      have hS : (s.heap.push { cls := .type "set", dict := none, data := .set #[] 0 (.fresh 0 0 led) }).get? s.heap.objs.size = some { cls := .type "set", dict := none, data := .set #[] 0 (.fresh 0 0 led) } := Heap.get?_push_size _ rfl
      have hT : Shared.TypeIs { s with heap := s.heap.push { cls := .type "set", dict := none, data := .set #[] 0 (.fresh 0 0 led) } } (.ref s.heap.objs.size) "set" := ⟨_, hS, rfl⟩
      have hli := PySem.F.called_set.init.lookup
      have hbi := PySem.F.called_set.init.bind (.ref s.heap.objs.size)
      repeat (any_goals (first | assumption | wp_step))
      refine codeAny_mono (codeAny_call_builtin (R := wants (fun r s₂ => r = .none ∧ ∃ h' tk, s₂ = { s with heap := h', toks := tk } ∧
          h'.SetOf (PySem.strKind prog w) s.heap.objs.size (fun k' => (xs.take items.size).any (· == k')) (dc xs items.size) ∧
          (∀ b o, b < s.heap.objs.size → s.heap.get? b = some o → h'.get? b = some o)) E) PySem.F.called_set.init.plain PySem.F.entry_set_init (check_set_init_1 hT ?_)) fun r₂ s₂ hr₂ => ?_
      · obtain ⟨ol, hol, hcl, nl, hdl⟩ := hl
        obtain ⟨ocls, odict, odata, oslots⟩ := ol
        simp only at hcl hdl
        subst hcl; subst hdl
        have hol' : (s.heap.push { cls := .type "set", dict := none, data := .set #[] 0 (.fresh 0 0 led) }).get? l = some { cls := .type "list", dict := odict, data := .seq items nl, slots := oslots } := Heap.get?_push_of_some _ hol
        have hsls := PySem.F.sub_list_set
        have hslf := PySem.F.sub_list_frozenset
        have hne : (Value.type "list" == Value.type "dict") = false := by decide
        have hl1 : (s.heap.push { cls := .type "set", dict := none, data := .set #[] 0 (.fresh 0 0 led) }).IsList l items := ⟨_, hol', rfl, nl, rfl⟩
        unfold Builtin.«set.__init__» noKeywords Builtin.Frozenset.updateFrom
        generalize hPI : pyIter = PI
        wp_walk
        subst hPI
        refine wpAny_pyIter_list hl1 ?_
        refine wpAny_bind (wpAny_runValue ?_)
        have hlS : l < s.heap.objs.size := Heap.lt_size hol
        have hh3 : A.in1.in1.in1.handled = none := by simp [hh]
        have hneI : l ≠ (s.heap.push { cls := .type "set", dict := none, data := .set #[] 0 (.fresh 0 0 led) }).objs.size := by
          rw [Heap.size_push]; exact Nat.ne_of_lt (Nat.lt_succ_of_lt hlS)
        have hSf : s.heap.objs.size ∉ [(s.heap.push { cls := .type "set", dict := none, data := .set #[] 0 (.fresh 0 0 led) }).objs.size, l] := by
          rw [Heap.size_push]; simp only [List.mem_cons, List.mem_singleton, List.not_mem_nil, or_false, not_or]
          exact ⟨Nat.ne_of_lt (Nat.lt_succ_self _), Nat.ne_of_gt hlS⟩
        have hsz : xs.length = items.size := by rw [← PyProof.Rows.StrsAre.len_eq hi, Array.length_toList]
        have hval : ∀ (i : Nat) (v : Value), items[i]? = some v → ∃ t, v = .str (xs.getD i Str.empty) t := fun i v hv => SS.strs_at hi i v (by rw [Array.getElem?_toList]; exact hv)
        refine loopU ((Walks.list hh3 _ l hneI items).toS) s.heap.objs.size hSf xs hsz (by omega) hval (items.size - 0) 0 _ (by omega) (Nat.zero_le _) ⟨⟨_, Heap.get?_push_size _ rfl, rfl, rfl⟩, (hl1.push _)⟩ ?hS0 ?hR
        case hS0 =>
          have hget : ((s.heap.push { cls := .type "set", dict := none, data := .set #[] 0 (.fresh 0 0 led) }).push { cls := .type "list_iterator", data := .fields #[.ref l, .int 0 0] }).get? s.heap.objs.size
              = some { cls := .type "set", dict := none, data := .set #[] 0 (.fresh 0 0 led) } := Heap.get?_push_of_some _ hS
          exact PyProof.Rows.SetOf_congr ((PyProof.Rows.setObjOf_fresh (knd := PySem.strKind prog w) led).setOf hget (by unfold scanBound; omega)) (fun _ => rfl) rfl
        case hR =>
          intro s' hm hS'
          obtain ⟨h', g', d', tk', os'⟩ := s'
          have eg : g' = s.gens := hm.gens
          have ed : d' = s.drawn := hm.drawn
          have eo : os' = s.os := hm.os
          subst eg; subst ed; subst eo
          show wpAny _ _ _ _ _ _
          refine wpAny_pure ?_
          show wpAny _ _ (ret Value.none) _ _ _
          refine wpAny_pure ⟨rfl, h', tk', rfl, hS', fun b o hb e => ?_⟩
          have hb1 : b ≠ s.heap.objs.size := Nat.ne_of_lt hb
          have hb2 : b ≠ (s.heap.push { cls := .type "set", dict := none, data := .set #[] 0 (.fresh 0 0 led) }).objs.size := by
            rw [Heap.size_push]; exact Nat.ne_of_lt (Nat.lt_succ_of_lt hb)
          exact hm.heap b o (by simp only [List.mem_cons, List.mem_singleton, List.not_mem_nil, or_false, not_or]; exact ⟨hb1, hb2⟩) (Heap.get?_push_of_some _ (Heap.get?_push_of_some _ e))
      · cases r₂ with
        | error e => exact hr₂
        | ok fl₂ =>
          cases fl₂ with
          | ret r =>
            obtain ⟨rfl, h', tk, rfl, hS', hk'⟩ := hr₂
            repeat (any_goals (first | assumption | wp_step))
            exact h _ _ hS' hk'
          | _ => exact hr₂.elim
    | _ => exact hr.elim
end
def tLenSetS (K : PySem.W.Frag) (ta : TE) : TE := fun σ H Q => ta σ H fun x H1 => ∃ l, ∃ xs : List Str, x = .ref l ∧ SqL K H1 l (xs.map V.str) ∧ xs.length ≤ 4000 ∧ Q (.int (dc xs xs.length)) H1
theorem pe_lenSetS {X : Cx} {a : Expr} {ta : TE} {p p2 q pos : Pos} (hc : X.calm = true) (hg : Gl X "len") (hm : X.mg "len" = none) (hg2 : Gl X "set") (hm2 : X.mg "set" = none) (ha : PE X a ta)
    (na : starEach [a] X.env = (false, eval a X.env) :: starEach [] X.env := by rfl) : PE X (.Call (.Name "len" p) [.Call (.Name "set" p2) [a] [] q] [] pos) (tLenSetS X.K ta) := by
  refine ⟨fun pins s σ H Q I h => ?_⟩
  refine Call_ (ld_blt I hg hm boot_len ?_)
  refine PyProof.Rows.callWith_builtin1 (PyProof.Rows.args_cons ?_ rfl) rfl rfl
  refine Call_ (ld_blt I hg2 hm2 boot_set ?_)
  refine PyProof.Rows.callWith_type1 (PyProof.Rows.args_cons (thn (ha.run pins s σ H _ I h) fun v s1 ⟨x, H1, I1, r1, q1⟩ => PyProof.Rows.args_nil ?_) na) na rfl
  obtain ⟨l, xs, rfl, hq, h1, q1⟩ := q1
  cases r1
  obtain ⟨its, r, pl, hz⟩ := I1.list hq
  refine call_setU (I1.ok.hd hc) pl.isList (by simpa using strsAre_of r) (by unfold scanBound; omega) fun h' tk hS hk => ?_
  refine PyProof.Rows.args_nil ?_
  have hl : its.toArray.size = xs.length := by rw [List.size_toArray, ← r.length, List.length_map]
  rw [hl] at hS
  obtain ⟨o, es, ep, t, ho, hex, hd, _, _, _, hf, hn⟩ := hS
  have I2 : Inv X pins σ H1 { s1 with heap := h', toks := tk } := I1.kept fun b o e => hk b o (Heap.lt_size e) e
  have hdl := dc_le xs xs.length
  exact call_len_set ho hex hd hf (by rw [hn] <;> omega) ⟨.int (dc xs xs.length), H1, I2.tok _, ⟨_, by rw [hn]⟩, q1⟩
section
variable {K : PySem.W.Frag} {G : Gs} {B : Bs} {env : Vn} {Q : XV → Prop}
theorem ve_lenSetD {ta : TE} (h : VE K G B ta env fun x => x.fz fun x => ∃ zs : List Str, x.seqL = some (zs.map D.str) ∧ zs.length ≤ 4000 ∧ Q (.p (.int (dc zs zs.length)))) : VE K G B (tLenSetS K ta) env Q := fun σ R H rp Qh k =>
  h σ R H rp _ fun v R1 H1 x r1 s1 hv q => by
    obtain ⟨R2, x', r2, s2, hv2, ho, zs, hx, hl, q2⟩ := hv.fz r1 q
    obtain ⟨a, xs, rfl, h1, h2⟩ := seqL_at r2 hv2 hx
    rw [AtL.strs_inv h2] at h1
    exact ⟨a, zs, rfl, h1, hl, k _ R2 H1 (.p (.int _)) r2 (s1.trans s2) (.int _) q2⟩
end
end VL
namespace VL
open PySem PySem.Spec PyProof.Rows L2
/-- a name of the module that holds a number or a text -/
theorem pe_gc {X : Cx} {x : Str} {v : V} {p : Pos} (hg : Gl X x) (h : ∃ u, X.mg x = some u ∧ RelV v u) (hd : (x == ("__debug__" : Str)) = false := by decide) : PE X (.Name x p) (tC v) := by
  obtain ⟨u, hm, r⟩ := h
  exact pe_glob hg hm r hd
def rRepS : R2 := fun x y H Q => ∃ (z : Str) (i : Int), x = .str z ∧ y = .int i ∧ MulOk z i ∧ Q (.str (Txt.mul z i)) H
theorem op_repS {X : Cx} : OpR X (binaryOp .Mult) rRepS := by
  intro pins s σ H x y v u Q I rx ry h
  obtain ⟨z, i, rfl, rfl, ok, q⟩ := h
  obtain ⟨t, rfl⟩ := rx
  obtain ⟨t', rfl⟩ := ry
  exact SB.mul ok fun t2 k => ⟨.str (Txt.mul z i), H, I.tok k, ⟨_, rfl⟩, q⟩
theorem foldl_app {α : Type} : ∀ (l : List (Array α)) (a : Array α), (l.foldl (· ++ ·) a).toList = a.toList ++ (l.map Array.toList).flatten
  | [], a => by simp
  | x :: r, a => by
    rw [List.foldl_cons, foldl_app r, Array.toList_append, List.map_cons, List.flatten_cons, List.append_assoc]
theorem mul_list (c : Nat) {n : Int} : (Txt.mul ⟨#[c]⟩ n).cps.toList = List.replicate n.toNat c := by
  unfold Txt.mul
  by_cases h : n < 1
  · rw [if_pos h, show n.toNat = 0 by omega]
    rfl
  · rw [if_neg h]
    by_cases h1 : n = 1
    · subst h1
      rfl
    · have e : (n == 1 || (⟨#[c]⟩ : Str).length == 0) = false := by
        have : (n == 1) = false := beq_eq_false_iff_ne.mpr h1
        rw [this]
        rfl
      rw [e, if_neg Bool.false_ne_true]
      show (List.foldl (· ++ ·) #[] (List.replicate n.toNat #[c])).toList = _
      rw [foldl_app]
      show [] ++ (List.map Array.toList (List.replicate n.toNat #[c])).flatten = _
      rw [List.nil_append, List.map_replicate]
      exact rep_one c n.toNat
theorem mul_ok {c : Nat} {n : Int} (h0 : -1000 ≤ n) (h : n ≤ 1000) : MulOk ⟨#[c]⟩ n := by
  have el : (⟨#[c]⟩ : Str).length = 1 := rfl
  refine ⟨?_, fun h1 _ => ?_, fun h1 _ => ?_⟩
  · rw [Bool.or_eq_false_iff]
    exact ⟨decide_eq_false (by omega), decide_eq_false (by omega)⟩
  · rw [el]
    have : (1000 : Int) ≤ (2 ^ 63 - 1) / n := by
      refine (Int.le_ediv_iff_mul_le (by omega)).mpr ?_
      have : (1000 : Int) * n ≤ 1000 * 1000 := by omega
      exact Int.le_trans this (by decide)
    omega
  · rw [el]
    show PySem.Builtin.Str.tooLong _ = false
    have hs : sizeLine ≥ 100000 := by decide
    exact decide_eq_false (by omega)
section
variable {K : PySem.W.Frag} {G : Gs} {B : Bs} {env : Vn} {Q : XV → Prop}
theorem vo_repS {c : Nat} {n : Int} (h0 : -1000 ≤ n) (h : n ≤ 1000) (q : ∀ z : Str, z.cps.toList = List.replicate n.toNat c → Q (.p (.str z))) : VO K G B rRepS env (.p (.str ⟨#[c]⟩)) (.p (.int n)) Q := fun σ R H r v w hv hw Qh k =>
  ⟨⟨#[c]⟩, n, str_at hv, int_at hw, mul_ok h0 h, k _ R H (.p (.str _)) r (Same.refl R) (.str _) (q _ (mul_list c))⟩
theorem vo_inSign {c : Nat} {z : Str} (q : Q (.p (.bl (decide (c ∈ z.cps.toList))))) : VO K G B (fun x y H Q => ∃ (c : Nat) (z : Str), x = .str ⟨#[c]⟩ ∧ y = .str z ∧ Q (.bl (decide (c ∈ z.cps.toList))) H) env (.p (.str ⟨#[c]⟩)) (.p (.str z)) Q := fun σ R H r v w hv hw Qh k =>
  ⟨c, z, str_at hv, str_at hw, k _ R H (.p (.bl _)) r (Same.refl R) (.bl _) q⟩
theorem vc_strI {i : Int} (hl : i.natAbs.log2 < 1920) (q : Q (.p (.str (toString i)))) : VC K G B (fun xs H Q => ∃ i, xs = [.int i] ∧ i.natAbs.log2 < 1920 ∧ Q (.str (toString i)) H) env [.p (.int i)] Q := vc1 fun σ R H r v hv Qh k =>
  ⟨i, by rw [int_at hv], hl, k _ R H (.p (.str _)) r (Same.refl R) (.str _) q⟩
theorem vc_intS {z : Str} {n : Int} (hn : PySem.intText? z = some n) (hl : z.length ≤ 640) (q : Q (.p (.int n))) : VC K G B (fun xs H Q => ∃ a n, xs = [.str a] ∧ PySem.intText? a = some n ∧ a.length ≤ 640 ∧ Q (.int n) H) env [.p (.str z)] Q := vc1 fun σ R H r v hv Qh k =>
  ⟨z, n, by rw [str_at hv], hn, hl, k _ R H (.p (.int _)) r (Same.refl R) (.int _) q⟩
theorem ve_starts {to tz : TE} (h : VE K G B to env fun x => ∃ a, x = .p (.str a) ∧ VE K G B tz env fun y => ∃ b, y = .p (.str b) ∧ Q (.p (.bl (Txt.startswith a b)))) : VE K G B (tBM K "str" (fun x xs H Q => ∃ a b, x = .str a ∧ xs = [.str b] ∧ Q (.bl (Txt.startswith a b)) H) to (tCons tz tNil)) env Q := fun σ R H rp Qh k =>
  h σ R H rp _ fun v R1 H1 x r1 s1 hv ⟨a, e, q⟩ => by
    subst e
    have ev := str_at hv
    subst ev
    refine ⟨?_, q σ R1 H1 r1 _ fun w R2 H2 y r2 s2 hw ⟨b, e2, q2⟩ => ?_⟩
    · exact rfl
    · subst e2
      exact ⟨a, b, rfl, by rw [str_at hw], k _ R2 H2 (.p (.bl _)) r2 (s1.trans s2) (.bl _) q2⟩
end
end VL
namespace VL
open PySem PySem.Spec PyProof.Rows L2
end VL
namespace VL
open PySem L2
/-- gs: the new lists that the result d points at -/
def SpG (K : PySem.W.Frag) (G : Gs) {α : Type} (args : α → List D) (pre : α → Prop) (post : α → List (Addr × D) → D → Prop) : Sp := fun vs H Q E =>
  ∃ R x, (Sub K G R H ∧ TabIn G R) ∧ AtL K R vs (args x) ∧ pre x ∧
    ∀ v R' H' d gs, Step K G R H R' H' → At K R' v d → (∀ q ∈ gs, H q.1 = none ∧ R' q.1 = none ∧ ∃ y, H' q.1 = some y ∧ MAt K R' y q.2) → post x gs d → Q v H'
section
variable {K : PySem.W.Frag} {G : Gs} {B : Bs} {env : Vn} {σ : L2.St} {R R' R1 H H' H1 : Hp} {Q : XV → Prop} {nx : Vn → Prop} {rt : XV → Prop} {bk ct : Vn → Prop}
/-- a body that ends with its only return -/
def VSR (K : PySem.W.Frag) (G : Gs) (B : Bs) (t : TS) (env : Vn) (post : List (Addr × D) → D → Prop) : Prop := ∀ σ R H, Rep K G B env σ R H → ∀ Q : VK,
  (∀ v R' H' d gs, Step K G B.R B.H R' H' → At K R' v d → (∀ q ∈ gs, B.H q.1 = none ∧ R' q.1 = none ∧ ∃ y, H' q.1 = some y ∧ MAt K R' y q.2) → post gs d → Q v H') → t { nx := fun _ H' => Q .non H', rt := Q } σ H
theorem vsr_seq {t u : TS} {post : List (Addr × D) → D → Prop} (h : VS K G B t env (fun e => VSR K G B u e post) (fun _ => False) (fun _ => False) (fun _ => False)) : VSR K G B (tSeq t u) env post := fun σ R H r Q q =>
  h σ R H r _ (fun e σ' R' H' r' _ g => g σ' R' H' r' Q q) (fun v e σ' R' H' y r' _ hv g => g.elim) (fun e σ' R' H' r' _ g => g.elim) (fun e σ' R' H' r' _ g => g.elim)
theorem vsr_ret {j : Nat} {gs : List (Addr × D)} {te : TE} {post : List (Addr × D) → D → Prop} (hj : env[j]? = some (.hp gs)) (h : VE K G B te env fun y => ∃ d, y = .p d ∧ post gs d) : VSR K G B (tRet te) env post := fun σ R H r Q q =>
  h σ R H r _ fun v R2 H2 y r2 s2 hv ⟨d, ed, hq⟩ => by
    subst ed
    exact q v R2 H2 d gs r2.step hv (fun p hp => r2.slots j _ hj p hp) hq
theorem run_defG {α : Type} {args : α → List D} {pre : α → Prop} {post : α → List (Addr × D) → D → Prop} {vs : List V} {Q : VK} {E : XK} {t : TS} {N : List Str}
    (hn : ∀ x, (args x).length ≤ N.length) {env0 : α → Vn} (he : ∀ x, (args x).map Slot.p ++ List.replicate (N.length - (args x).length) .u = env0 x)
    (h : ∀ B x, pre x → VSR K G B t (env0 x) (post x))
    (hs : SpG K G args pre post vs H Q E) : t { nx := fun _ H' => Q .non H', rt := Q } (L2.start N vs) H := by
  obtain ⟨R, x, ⟨s, tb⟩, ha, hp, q⟩ := hs
  have h := h ⟨R, H, []⟩ x hp
  rw [← he x] at h
  exact h _ R H (rep_start s tb ha (hn x)) Q q
theorem vsr_hp0 (j : Nat) {t : TS} {post : List (Addr × D) → D → Prop} (hj : env[j]? = some .u) (h : VSR K G B t (env.set j (.hp [])) post) : VSR K G B t env post := fun σ R H r Q q =>
  h σ R H (r.toHp hj (gs := []) (fun q hq => by cases hq) (fun q hq => by cases hq)) Q q
end
end VL
namespace VL
open PySem PySem.Spec PyProof.Rows L2
/-- the module's dict x: texts to tuples -/
structure KDs (K : PySem.W.Frag) (w : World) (mg : Str → Option Value) (x : Str) (tab : List (Str × List V)) : Prop where
  ex : ∃ (d : Addr) (es : Array DictEntry) (n : Nat), mg x = some (.ref d) ∧ KDict K w d es n ∧ (∀ z, z ∉ tab.map (·.1) → PySem.W.nsIn K d z = some none) ∧ ∀ p ∈ tab, ∃ t, PySem.W.nsIn K d p.1 = some (some (.ref t)) ∧ ∀ H, SqT K H t p.2
theorem nsIn_miss {K : PySem.W.Frag} {w : World} {d : Addr} {ks : List Str} (h : He.dicW K d = some (He.keysIn w.params ks)) {z : Str} (hz : z ∉ ks) : PySem.W.nsIn K d z = some none := by
  have key : ∀ (l : List DictEntry) (ks : List Str), l.map He.keyOf = He.keysIn w.params ks → z ∉ ks → (l.find? fun e => e.key.isStr z) = none ∧ (l.any fun e => e.refKey) = false := by
    intro l
    induction l with
    | nil => intro ks _ _; exact ⟨rfl, rfl⟩
    | cons e r ih =>
      intro ks h hz
      cases ks with
      | nil => cases h
      | cons k ks =>
        have h1 : He.keyOf e :: r.map He.keyOf = some (k, PyData.keyHash w.params k) :: He.keysIn w.params ks := h
        injection h1 with h2 h3
        obtain ⟨i1, i2⟩ := ih ks h3 (fun q => hz (List.mem_cons_of_mem _ q))
        unfold He.keyOf at h2
        split at h2
        · rename_i x t q
          have h5 := (Prod.mk.inj (Option.some.inj h2)).1
          have hx : ¬ z = x := fun e => hz (by rw [e, h5]; exact List.mem_cons_self)
          have n1 : e.key.isStr z = false := by
            rw [q, PySem.W.isStr_of]
            show decide _ = false
            first | exact decide_eq_false hx | exact decide_eq_false (fun e => hx e.symm)
          refine ⟨?_, ?_⟩
          · rw [List.find?_cons_of_neg (by rw [n1]; exact Bool.false_ne_true)]
            exact i1
          · rw [List.any_cons, i2, Bool.or_false]
            unfold DictEntry.refKey
            rw [q]
        · cases h2
  obtain ⟨es, n, D⟩ := He.dicW_ok h
  unfold He.dicW at h
  rw [D.at_] at h
  have low := D.low
  dsimp only at h
  rw [low] at h
  have h2 : es.toList.map He.keyOf = He.keysIn w.params ks := Option.some.inj h
  obtain ⟨k1, k2⟩ := key _ _ h2 hz
  unfold PySem.W.nsIn
  rw [D.at_]
  dsimp only
  rw [k1]
  dsimp only
  rw [k2]
  rfl
theorem kds_of {K : PySem.W.Frag} {w : World} {mg : Str → Option Value} {x : Str} {d : Addr} {tab : List (Str × List V)} (hm : mg x = some (.ref d)) (h : He.dicW K d = some (He.keysIn w.params (tab.map (·.1)))) (hv : ∀ p ∈ tab, ∃ t, PySem.W.nsIn K d p.1 = some (some (.ref t)) ∧ ∀ H, SqT K H t p.2) : KDs K w mg x tab := by
  obtain ⟨es, n, D⟩ := He.dicW_ok h
  exact ⟨d, es, n, hm, D, fun z hz => nsIn_miss h hz, hv⟩
/-- a tuple that the module knows -/
theorem sqt_k {K : PySem.W.Frag} {t : Addr} {od : Option Addr} {its : Array Value} {n : Nat} {sl : Array (Option Value)} {vs : List V} (h : K.lookup t = some ⟨.type "tuple", od, .seq its n, sl⟩) (hz : its.size ≤ sizeLine) (hv : Vals vs its.toList) : ∀ H, SqT K H t vs :=
  fun H => .inr ⟨_, its, n, h, rfl, rfl, hz, hv⟩
section
variable {X : Cx} {d : Addr} {es : Array DictEntry} {n : Nat}
def rKd (K : PySem.W.Frag) (d : Addr) : R2 := fun x y H Q => ∃ (z : Str) (u0 : Value) (v0 : V), x = .ref d ∧ y = .str z ∧ PySem.W.nsIn K d z = some (some u0) ∧ RelV v0 u0 ∧ Q v0 H
theorem ix_kd (D : KDict X.K X.w d es n) : IxR X (rKd X.K d) := by
  intro value slice pins s σ H x y v u Q I rx ry h hs
  have hi := op_item_kd D pins s σ H x y v u Q I rx ry h
  obtain ⟨z, u0, v0, rfl, rfl, e, r, q⟩ := h
  cases rx
  exact tail_any (kd_type D I) slot_dict_getitem.lookup hi hs
end
section
variable {K : PySem.W.Frag} {G : Gs} {B : Bs} {env : Vn} {Q : XV → Prop} {nx : Vn → Prop} {rt : XV → Prop} {bk ct : Vn → Prop}
theorem vo_notInKd {d : Addr} {z : Str} {r : Option Value} (h : PySem.W.nsIn K d z = some r) (q : Q (.p (.bl (!r.isSome)))) : VO K G B (fun x y H Q => ∃ (z : Str) (r : Option Value), x = .str z ∧ y = .ref d ∧ PySem.W.nsIn K d z = some r ∧ Q (.bl (!r.isSome)) H) env (.p (.str z)) (.p (.ptr d)) Q := fun σ R H rp v w hv hw Qh k =>
  ⟨z, r, str_at hv, ptr_at hw, h, k _ R H (.p (.bl _)) rp (Same.refl R) (.bl _) q⟩
theorem vo_itKd {d t : Addr} {z : Str} {vs : List V} {ds : List D} (h : PySem.W.nsIn K d z = some (some (.ref t))) (ht : ∀ H, SqT K H t vs) (ha : ∀ R, AtL K R vs ds) (q : Q (.p (.tup ds))) : VO K G B (rKd K d) env (.p (.ptr d)) (.p (.str z)) Q := fun σ R H rp v w hv hw Qh k =>
  ⟨z, .ref t, .ref t, ptr_at hv, str_at hw, h, rfl, k _ R H (.p (.tup ds)) rp (Same.refl R) (.tup (ht R) (ha R)) q⟩
theorem vc_strS {z : Str} (q : Q (.p (.str z))) : VC K G B (fun xs H Q => ∃ a, xs = [.str a] ∧ Q (.str a) H) env [.p (.str z)] Q := vc1 fun σ R H r v hv Qh k =>
  ⟨z, by rw [str_at hv], k _ R H (.p (.str z)) r (Same.refl R) (.str z) q⟩
/-- x.split(y) -/
theorem ve_split {to te : TE} (h : VE K G B to env fun x => ∃ a, x = .p (.str a) ∧ VE K G B te env fun y => ∃ b, y = .p (.str b) ∧ b.length ≠ 0 ∧ a.length ≤ 100000 ∧ Q (.o (.lst ((Txt.split a b).map D.str)))) :
    VE K G B (tM1 (fun x xs H Q => ∃ a b, x = .str a ∧ xs = [.str b] ∧ (b.length == 0) = false ∧ a.length + 2 ≤ sizeLine ∧ rNewStrs (Txt.split a b) H Q) to te) env Q := fun σ R H rp Qh k =>
  h σ R H rp _ fun v R1 H1 x r1 s1 hv ⟨a, e, q⟩ => by
    subst e
    have ev := str_at hv
    subst ev
    refine ⟨⟨a, rfl⟩, q σ R1 H1 r1 _ fun w R2 H2 y r2 s2 hw ⟨b, e2, hb, hl, q2⟩ => ?_⟩
    subst e2
    refine ⟨a, b, rfl, by rw [str_at hw], beq_eq_false_iff_ne.mpr hb, Nat.le_trans (Nat.add_le_add_right hl 2) (by decide), fun p hp => ?_⟩
    obtain ⟨r3, v3⟩ := own_lst r2 hp (atl_strs (K := K) (R := R2) (Txt.split a b))
    exact k _ R2 _ _ r3 (s1.trans s2) v3 q2
abbrev rJoin (K : PySem.W.Frag) : V → List V → Hp → VK → Prop := fun x xs H Q => ∃ a p, ∃ ys : List Str, x = .str a ∧ xs = [.ref p] ∧ (SqL K H p (ys.map V.str) ∨ SqT K H p (ys.map V.str)) ∧ (ys.map (·.length)).sum + ys.length * a.length ≤ 16777216 ∧ Q (.str (Txt.join a ys)) H
/-- x.join(y) -/
theorem ve_join {to te : TE} (h : VE K G B to env fun x => ∃ a, x = .p (.str a) ∧ VE K G B te env fun y => y.fz fun y => ∃ ys : List Str, (y.seqL = some (ys.map D.str) ∨ y = .p (.tup (ys.map D.str))) ∧ (ys.map (·.length)).sum + ys.length * a.length ≤ 1000000 ∧ Q (.p (.str (Txt.join a ys)))) :
    VE K G B (tM1 (rJoin K) to te) env Q := fun σ R H rp Qh k =>
  h σ R H rp _ fun v R1 H1 x r1 s1 hv ⟨a, e, q⟩ => by
    subst e
    have ev := str_at hv
    subst ev
    refine ⟨⟨a, rfl⟩, q σ R1 H1 r1 _ fun w R2 H2 y0 r2 s2 hw q2 => ?_⟩
    obtain ⟨R3, y, r3, s3, hw3, ho, ys, hy, hl, q3⟩ := hw.fz r2 q2
    rcases hy with hy | rfl
    · obtain ⟨p, xs, rfl, h1, h2⟩ := seqL_at r3 hw3 hy
      rw [AtL.strs_inv h2] at h1
      exact ⟨a, p, ys, rfl, rfl, .inl h1, Nat.le_trans hl (by decide), k _ R3 H2 (.p (.str _)) r3 ((s1.trans s2).trans s3) (.str _) q3⟩
    · obtain ⟨p, xs, rfl, h1, _, h2⟩ := tup_at r3 hw3
      rw [AtL.strs_inv h2] at h1
      exact ⟨a, p, ys, rfl, rfl, .inr h1, Nat.le_trans hl (by decide), k _ R3 H2 (.p (.str _)) r3 ((s1.trans s2).trans s3) (.str _) q3⟩
/-- xs.extend(e) -/
theorem vs_extend {i : Nat} {te : TE} {ds : List D} (hd : env[i]? = some (.mu (.lst ds))) (h : VE K G B te env fun x => x.fz fun x => ∃ es, x = .p (.lst es) ∧ ds.length + es.length ≤ 100000 ∧ nx (env.set i (.mu (.lst (ds ++ es))))) :
    VS K G B (tDrop (tBM K "list" rExtend (tVar i) (tCons te tNil))) env nx rt bk ct := fun σ R H r Z kn _ _ _ => by
  obtain ⟨a, y, h1, h2, h3, h4, h5⟩ := r.slots i _ hd
  obtain ⟨xs, rfl⟩ : ∃ xs, y = .lst xs := by cases y <;> first | exact ⟨_, rfl⟩ | exact h5.elim
  refine ⟨.ref a, h1, .inl ⟨rfl, xs, .inl (.inl h4)⟩, h σ R H r _ fun v R1 H1 x r1 s1 hv q => ?_⟩
  obtain ⟨R2, x', r2, s2, hv2, ho, es, rfl, hl, q2⟩ := hv.fz r1 q
  obtain ⟨b, y, g1, g2, g3, g4, g5⟩ := r2.slots i _ hd
  rw [h1] at g1
  cases g1
  obtain ⟨ys, rfl⟩ : ∃ xs, y = .lst xs := by cases y <;> first | exact ⟨_, rfl⟩ | exact g5.elim
  have g6 : AtL K R2 ys ds := g5
  cases hv2 with
  | @lst c zs _ e1 e2 =>
    refine ⟨a, c, ys, zs, rfl, rfl, g4, r2.sub.of e1 rfl, by rw [g6.len, e2.len]; exact Nat.le_trans hl (by decide), ?_⟩
    exact kn _ σ R2 _ (r2.mut hd h1 (y := .lst (ys ++ zs)) (d' := .lst (ds ++ es)) (g6.app e2)) (s1.trans s2) q2
end
end VL
namespace VL
open PySem L2
end VL
namespace VL
open PySem L2
end VL
namespace VL
open PySem PySem.Spec PyProof.Rows L2
end VL
namespace VL
open PySem PySem.Spec PyProof.Rows L2
end VL
namespace VL
open PySem PySem.Spec PyProof.Rows L2
section
variable {K : PySem.W.Frag} {G : Gs} {B : Bs} {env : Vn} {σ : L2.St} {R R' R1 H H' H1 : Hp} {Q : XV → Prop} {nx : Vn → Prop} {rt : XV → Prop} {bk ct : Vn → Prop} {Qe : Vn → Prop} {Qb : Bool → Prop} {Ql : List D → Prop}
theorem keys_at (R : Hp) : ∀ ks : List Key, AtL K R (ks.map kV) (ks.map keyD)
  | [] => .nil
  | .inl i :: r => .cons (.int i) (keys_at R r)
  | .inr x :: r => .cons (.str x) (keys_at R r)
theorem keys_inv : ∀ {ks : List Key} {vs : List V}, AtL K R vs (ks.map keyD) → vs = ks.map kV
  | [], _, h => by cases h; rfl
  | k :: r, _, h => by
    cases h with
    | cons h t => rw [key_at h, keys_inv t]; rfl
/-- what a key tells is a tuple -/
theorem At.weak {v : V} {ks : List Key} (h : At K R v (.key ks)) : At K R v (.tup (ks.map keyD)) := by
  cases h with
  | key h => exact .tup (.inl (.inl h)) (keys_at R ks)
theorem tkey_at {v : V} {ks : List Key} (h : At K R v (.key ks)) : ∃ a, v = .ref a ∧ R a = some (.tup (ks.map kV)) := by
  cases h with
  | key h => exact ⟨_, rfl, h⟩
/-- a new tuple of numbers and texts -/
theorem ve_tupK {ta : TA} (h : VA K G B ta env fun xs => ∃ ks, XV.plains xs = some (ks.map keyD) ∧ ks.length ≤ 100000 ∧ Q (.p (.key ks))) : VE K G B (tTup ta) env Q := fun σ R H r Qh k =>
  h σ R H r _ fun vs R1 H1 xs r1 s1 hv _ ⟨ks, e, hl, q⟩ => by
    have ha := plains_at e hv
    have ev := keys_inv ha
    subst ev
    refine ⟨by rw [List.length_map]; exact Nat.le_trans hl (by decide), fun p hp => ?_⟩
    have hn := r1.sub.none hp
    exact k (.ref p) _ _ (.p (.key ks)) (r1.newP hp rfl) (s1.trans (same_take hn)) (.key upd_same) q
def XV.keys : List XV → Option (List Key)
  | [] => some []
  | .p (.int i) :: r => match XV.keys r with
    | some ks => some (.inl i :: ks)
    | none => none
  | .p (.str x) :: r => match XV.keys r with
    | some ks => some (.inr x :: ks)
    | none => none
  | _ :: _ => none
theorem keys_plains : ∀ {xs : List XV} {ks : List Key}, XV.keys xs = some ks → XV.plains xs = some (ks.map keyD)
  | [], _, e => by cases e; rfl
  | .p (.int i) :: r, ks, e => by
    unfold XV.keys at e
    cases q : XV.keys r with
    | none => rw [q] at e; cases e
    | some l =>
      rw [q] at e
      cases e
      unfold XV.plains
      rw [keys_plains q]
      rfl
  | .p (.str i) :: r, ks, e => by
    unfold XV.keys at e
    cases q : XV.keys r with
    | none => rw [q] at e; cases e
    | some l =>
      rw [q] at e
      cases e
      unfold XV.plains
      rw [keys_plains q]
      rfl
  | .p .non :: _, _, e => by cases e
  | .p (.bl _) :: _, _, e => by cases e
  | .p (.tup _) :: _, _, e => by cases e
  | .p (.lst _) :: _, _, e => by cases e
  | .p (.ro _) :: _, _, e => by cases e
  | .p (.dct _) :: _, _, e => by cases e
  | .p (.lkd _ _) :: _, _, e => by cases e
  | .p .st :: _, _, e => by cases e
  | .p .cm :: _, _, e => by cases e
  | .p (.ptr _) :: _, _, e => by cases e
  | .p (.ty _) :: _, _, e => by cases e
  | .p (.dtt _) :: _, _, e => by cases e
  | .p (.ins _ _ _) :: _, _, e => by cases e
  | .p (.key _) :: _, _, e => by cases e
  | .o _ :: _, _, e => by cases e
  | .m _ _ :: _, _, e => by cases e
/-- a tuple that is to be a key -/
def tTupK (t : TA) : TE := tTup t
theorem ve_tupKq {ta : TA} (h : VA K G B ta env fun xs => ∃ ks, XV.keys xs = some ks ∧ ks.length ≤ 100000 ∧ Q (.p (.key ks))) : VE K G B (tTupK ta) env Q :=
  ve_tupK fun σ R H r Qh k => h σ R H r Qh fun vs R' H' xs r' s' hv ho ⟨ks, e, hl, q⟩ => k vs R' H' xs r' s' hv ho ⟨ks, keys_plains e, hl, q⟩
theorem ex_keys {P : List Key → Prop} {xs : List XV} {ks : List Key} (h : XV.keys xs = some ks) (hl : Nat.ble ks.length 100000 = true) (q : P ks) : ∃ ks, XV.keys xs = some ks ∧ ks.length ≤ 100000 ∧ P ks := ⟨ks, h, Nat.le_of_ble_eq_true hl, q⟩
def XV.dttD : XV → Option (List (List Key × V))
  | .p (.dtt ds) => some ds
  | .m _ (.dtt ds) => some ds
  | _ => none
theorem dttD_at (r : Rep K G B env σ R H) {v : V} {x : XV} {ds : List (List Key × V)} (h : VAt K B env σ R H v x) (e : x.dttD = some ds) : ∃ a, v = .ref a ∧ Rd H a (.dT ds) := by
  cases x with
  | p d =>
    cases d <;> try cases e
    cases h with
    | dtt h => exact ⟨_, rfl, .inl (r.sub.of h rfl)⟩
  | o d => cases e
  | m i d =>
    cases d <;> try cases e
    obtain ⟨h1, h2⟩ := h
    obtain ⟨a, y, g1, g2, g3, g4, g5⟩ := r.slots i _ h1
    rw [g1] at h2
    cases h2
    obtain ⟨xs, rfl⟩ : ∃ xs, y = .dT xs := by cases y <;> first | exact ⟨_, rfl⟩ | exact g5.elim
    have g5 : xs = ds := g5
    subst g5
    exact ⟨a, rfl, .inl g4⟩
theorem ve_dnewT (q : Q (.o (.dtt []))) : VE K G B tDNewT env Q := fun σ R H r Qh k p hp =>
  k (.ref p) R _ (.o (.dtt [])) (r.new hp) (Same.refl R) ⟨p, _, rfl, r.fresh hp, r.sub.none hp, upd_same, rfl, r.noslot hp, r.nopr hp⟩ q
theorem at_sc {d : D} {u : V} (e : d.sc = some u) : At K R u d := by
  cases d <;> cases e <;> constructor
theorem ve_dgetT {td ty : TE} (h : VE K G B td env fun x => x.fz fun x => VE K G B ty env fun y => ∃ ds ks u d, x.dttD = some ds ∧ y = .p (.key ks) ∧ valV ds ks = some u ∧ d.sc = some u ∧ Q (.p d)) : VE K G B (tDGet td ty) env Q := fun σ R H r Qh k =>
  h σ R H r _ fun v R1 H1 x r1 s1 hv q => by
    obtain ⟨R2, x', r2, s2, hv2, ho, q2⟩ := hv.fz r1 q
    refine q2 σ R2 H1 r2 _ fun w R3 H3 y r3 s3 hw ⟨ds, ks, u, d, hx, e, hd, hu, q4⟩ => ?_
    subst e
    obtain ⟨a, rfl, h1⟩ := dttD_at r3 (hv2.go ho s3) hx
    obtain ⟨b, rfl, h2⟩ := tkey_at hw
    exact ⟨a, u, rfl, .inr ⟨ds, ks, b, h1, rfl, r3.sub.of h2 rfl, hd.symm⟩, k u R3 H3 (.p d) r3 ((s1.trans s2).trans s3) (at_sc hu) q4⟩
theorem ve_dinT {ty td : TE} (h : VE K G B ty env fun y => ∃ ks, y = .p (.key ks) ∧ VE K G B td env fun x => ∃ ds, x.dttD = some ds ∧ Q (.p (.bl (valV ds ks).isSome))) : VE K G B (tDIn ty td) env Q := fun σ R H r Qh k =>
  h σ R H r _ fun v R1 H1 x r1 s1 hv ⟨ks, e, q⟩ => by
    subst e
    refine q σ R1 H1 r1 _ fun w R3 H3 y r3 s3 hw ⟨ds, hx, q4⟩ => ?_
    obtain ⟨a, rfl, h1⟩ := dttD_at r3 hw hx
    obtain ⟨b, rfl, h2⟩ := tkey_at (At.same s3 hv)
    exact ⟨a, _, rfl, .inr ⟨ds, ks, b, h1, rfl, r3.sub.of h2 rfl, rfl⟩, k _ R3 H3 (.p (.bl _)) r3 (s1.trans s3) (.bl _) q4⟩
theorem ve_dnotinT {ty td : TE} (h : VE K G B ty env fun y => ∃ ks, y = .p (.key ks) ∧ VE K G B td env fun x => ∃ ds, x.dttD = some ds ∧ Q (.p (.bl (!(valV ds ks).isSome)))) : VE K G B (tDNotIn ty td) env Q := fun σ R H r Qh k =>
  h σ R H r _ fun v R1 H1 x r1 s1 hv ⟨ks, e, q⟩ => by
    subst e
    refine q σ R1 H1 r1 _ fun w R3 H3 y r3 s3 hw ⟨ds, hx, q4⟩ => ?_
    obtain ⟨a, rfl, h1⟩ := dttD_at r3 hw hx
    obtain ⟨b, rfl, h2⟩ := tkey_at (At.same s3 hv)
    exact ⟨a, _, rfl, .inr ⟨ds, ks, b, h1, rfl, r3.sub.of h2 rfl, rfl⟩, k _ R3 H3 (.p (.bl _)) r3 (s1.trans s3) (.bl _) q4⟩
/-- d.get(k), the values numbers, texts or truths -/
theorem ve_dget1T {td ty : TE} (h : VE K G B td env fun x => ∃ ds, x.dttD = some ds ∧ VE K G B ty env fun y => ∃ ks d, y = .p (.key ks) ∧ d.sc = some ((valV ds ks).getD .non) ∧ x.isO = false ∧ Q (.p d)) : VE K G B (tDGet1 td ty) env Q := fun σ R H r Qh k =>
  h σ R H r _ fun v R1 H1 x r1 s1 hv ⟨ds, hx, q⟩ => by
    obtain ⟨a, rfl, h1⟩ := dttD_at r1 hv hx
    refine ⟨a, rfl, .inr ⟨ds, h1⟩, q σ R1 H1 r1 _ fun w R3 H3 y r3 s3 hw ⟨ks, d, e, hd, ho, q4⟩ => ?_⟩
    subst e
    obtain ⟨a', e', h1'⟩ := dttD_at r3 (VAt.go (H' := H3) hv ho s3) hx
    cases e'
    obtain ⟨b, rfl, h2⟩ := tkey_at hw
    exact ⟨_, .inr ⟨ds, ks, b, h1', rfl, r3.sub.of h2 rfl, rfl⟩, k _ R3 H3 (.p d) r3 (s1.trans s3) (at_sc hd) q4⟩
end
section
def tDGetT (td ty : TE) : TE := tDGet td ty
def tDInT (ty td : TE) : TE := tDIn ty td
def tDNotInT (ty td : TE) : TE := tDNotIn ty td
def tDGet1T (td ty : TE) : TE := tDGet1 td ty
variable {X : Cx} {o i e value : Expr} {pos pos' : Pos} {td ty tv : TE}
end
section
variable {K : PySem.W.Frag} {G : Gs} {B : Bs} {env : Vn} {σ : L2.St} {R R' R1 H H' H1 : Hp} {Q : XV → Prop} {nx : Vn → Prop} {rt : XV → Prop} {bk ct : Vn → Prop} {Qe : Vn → Prop} {Qb : Bool → Prop} {Ql : List D → Prop}
theorem vq_dget {td ty : TE} (h : VE K G B td env fun x => x.fz fun x => VE K G B ty env fun y => ∃ ds ks u d, x.dttD = some ds ∧ y = .p (.key ks) ∧ valV ds ks = some u ∧ d.sc = some u ∧ Q (.p d)) : VE K G B (tDGetT td ty) env Q := ve_dgetT h
theorem vq_din {ty td : TE} (h : VE K G B ty env fun y => ∃ ks, y = .p (.key ks) ∧ VE K G B td env fun x => ∃ ds, x.dttD = some ds ∧ Q (.p (.bl (valV ds ks).isSome))) : VE K G B (tDInT ty td) env Q := ve_dinT h
theorem vq_dnotin {ty td : TE} (h : VE K G B ty env fun y => ∃ ks, y = .p (.key ks) ∧ VE K G B td env fun x => ∃ ds, x.dttD = some ds ∧ Q (.p (.bl (!(valV ds ks).isSome)))) : VE K G B (tDNotInT ty td) env Q := ve_dnotinT h
theorem vq_dget1 {td ty : TE} (h : VE K G B td env fun x => ∃ ds, x.dttD = some ds ∧ VE K G B ty env fun y => ∃ ks d, y = .p (.key ks) ∧ d.sc = some ((valV ds ks).getD .non) ∧ x.isO = false ∧ Q (.p d)) : VE K G B (tDGet1T td ty) env Q := ve_dget1T h
end
end VL
namespace VL
open PySem PySem.Spec PyProof.Rows L2
end VL
namespace VL
open PySem PySem.Spec PyProof.Rows L2
section
variable {K : PySem.W.Frag} {G : Gs} {B : Bs} {env : Vn} {σ : L2.St} {R R' R1 H H' H1 : Hp} {Q : XV → Prop} {nx : Vn → Prop} {rt : XV → Prop} {bk ct : Vn → Prop} {Qe : Vn → Prop} {Qb : Bool → Prop} {Ql : List D → Prop}
theorem Rep.adopt (r : Rep K G B env σ R H) {j : Nat} {gs : List (Addr × D)} (hj : env[j]? = some (.hp gs)) {v : V} {d : D} (hv : VAt K B env σ R H v (.o d)) : ∃ a, v = .ref a ∧ a ∉ gs.map (·.1) ∧ Rep K G B (env.set j (.hp ((a, d) :: gs))) σ R H := by
  obtain ⟨a, y, rfl, h0, hn, hy, hm, hs, hp⟩ := hv
  have hjl := (List.getElem?_eq_some_iff.mp hj).1
  have hj1 : (env.set j .u)[j]? = some .u := List.getElem?_set_self hjl
  refine ⟨a, rfl, fun z => hs j _ hj z, ?_⟩
  have less : ∀ b, NoOwn env σ b → NoOwn (env.set j .u) σ b := fun b hb k sk hk o => by
    by_cases ej : j = k
    · subst ej
      rw [hj1] at hk
      cases hk
      exact o
    · rw [List.getElem?_set_ne ej] at hk
      exact hb k sk hk o
  have r2 := (r.forget j).toHp hj1 (gs := (a, d) :: gs) (fun q hq => by
    rcases List.mem_cons.mp hq with rfl | hq
    · exact ⟨h0, hn, y, hy, hm⟩
    · exact r.slots j _ hj q hq) (fun q hq => by
    rcases List.mem_cons.mp hq with rfl | hq
    · exact ⟨less _ hs, hp⟩
    · have ow : Slot.owns σ[j]? q.1 (.hp gs) := List.mem_map_of_mem (f := (·.1)) hq
      exact ⟨r.noown hj ow, r.nopr' hj ow⟩)
  rw [List.set_set] at r2
  exact r2
theorem vs_appendO {i j : Nat} {te : TE} {ds : List D} {gs : List (Addr × D)} (hd : env[i]? = some (.mu (.lst ds))) (hj : env[j]? = some (.hp gs)) (h : VE K G B te env fun x => ∃ d, x = .o d ∧ ds.length < 100000 ∧ ∀ a, a ∉ gs.map (·.1) → nx ((env.set j (.hp ((a, d) :: gs))).set i (.mu (.lst (ds ++ [.ptr a]))))) :
    VS K G B (tDrop (tBM K "list" rAppend (tVar i) (tCons te tNil))) env nx rt bk ct := fun σ R H r Z kn _ _ _ => by
  obtain ⟨a, y, h1, h2, h3, h4, h5⟩ := r.slots i _ hd
  obtain ⟨xs, rfl⟩ : ∃ xs, y = .lst xs := by cases y <;> first | exact ⟨_, rfl⟩ | exact h5.elim
  have hij : j ≠ i := fun z => by
    rw [z, hd] at hj
    cases hj
  refine ⟨.ref a, h1, .inl ⟨rfl, xs, .inl (.inl h4)⟩, h σ R H r _ fun v R1 H1 x r1 s1 hv ⟨d, e, hl, q⟩ => ?_⟩
  subst e
  obtain ⟨b, rfl, hb, r2⟩ := r1.adopt hj hv
  have hd2 : (env.set j (.hp ((b, d) :: gs)))[i]? = some (.mu (.lst ds)) := by rw [List.getElem?_set_ne hij]; exact hd
  obtain ⟨c, y, g1, g2, g3, g4, g5⟩ := r2.slots i _ hd2
  rw [h1] at g1
  cases g1
  obtain ⟨ys, rfl⟩ : ∃ xs, y = .lst xs := by cases y <;> first | exact ⟨_, rfl⟩ | exact g5.elim
  refine ⟨a, ys, .ref b, rfl, rfl, g4, by rw [AtL.len g5]; exact Nat.lt_of_lt_of_le hl (by decide), ?_⟩
  exact kn _ σ R1 _ (r2.mut hd2 h1 (y := .lst (ys ++ [.ref b])) (d' := .lst (ds ++ [.ptr b])) (AtL.app g5 (.cons (.ptr b) .nil))) s1 (q b hb)
theorem vg_subO {i j : Nat} {z : Int} {ds : List D} {d : D} {gs : List (Addr × D)} {k : Nat} (hd : env[i]? = some (.mu (.lst ds))) (hj : env[j]? = some (.hp gs)) (hk : ixN ds.length z = some k) (h : ∀ a, a ∉ gs.map (·.1) → Qe ((env.set j (.hp ((a, d) :: gs))).set i (.mu (.lst (ds.set k (.ptr a)))))) :
    VG K G B (gSub (tVar i) (tC (.int z)) rSetL) (.o d) env Qe := fun σ R H r v hv Qh kk => by
  have hij : j ≠ i := fun z => by
    rw [z, hd] at hj
    cases hj
  obtain ⟨b, rfl, hb, r2⟩ := r.adopt hj hv
  have hd2 : (env.set j (.hp ((b, d) :: gs)))[i]? = some (.mu (.lst ds)) := by rw [List.getElem?_set_ne hij]; exact hd
  obtain ⟨a, y, h1, h2, h3, h4, h5⟩ := r2.slots i _ hd2
  obtain ⟨xs, rfl⟩ : ∃ xs, y = .lst xs := by cases y <;> first | exact ⟨_, rfl⟩ | exact h5.elim
  have h6 : AtL K R xs ds := h5
  refine ⟨.ref a, h1, a, xs, z, k, rfl, rfl, h4, by rw [h6.len]; exact hk, ?_⟩
  exact kk _ σ R _ (r2.mut hd2 h1 (y := .lst (xs.set k (.ref b))) (d' := .lst (ds.set k (.ptr b))) (h6.set (.ptr b) k)) (Same.refl R) (h b hb)
/-- x = [[], []] -/
theorem vs_asgLL {i j : Nat} {gs : List (Addr × D)} (hi : i < env.length) (hij : i ≠ j) (hj : env[j]? = some (.hp gs)) (h : ∀ a b, a ≠ b → a ∉ gs.map (·.1) → b ∉ gs.map (·.1) → nx ((env.set j (.hp ((b, .lst []) :: (a, .lst []) :: gs))).set i (.mu (.lst [.ptr a, .ptr b])))) :
    VS K G B (tAsg (tLst (tCons (tLst tNil) (tCons (tLst tNil) tNil))) (gName i)) env nx rt bk ct := fun σ R H r Z kn _ _ _ => by
  refine ⟨Nat.zero_le _, fun p hp => ⟨Nat.zero_le _, fun q hq => ⟨by show 2 ≤ sizeLine; decide, fun l hl => ?_⟩⟩⟩
  obtain ⟨rp, vp⟩ := own_lst (ds := []) r hp .nil
  obtain ⟨a, ea, ha, r2⟩ := rp.adopt hj vp
  cases ea
  have hj2 : (env.set j (.hp ((p, .lst []) :: gs)))[j]? = some (.hp ((p, .lst []) :: gs)) := List.getElem?_set_self (List.getElem?_eq_some_iff.mp hj).1
  obtain ⟨rq, vq⟩ := own_lst (ds := []) r2 hq .nil
  obtain ⟨b, eb, hb, r3⟩ := rq.adopt hj2 vq
  cases eb
  rw [List.set_set] at r3
  rw [List.map_cons, List.mem_cons, not_or] at hb
  obtain ⟨rl, vl⟩ := own_lst (ds := [.ptr p, .ptr q]) r3 hl (.cons (.ptr p) (.cons (.ptr q) .nil))
  have hlen : i < (env.set j (.hp ((q, .lst []) :: (p, .lst []) :: gs))).length := by rw [List.length_set]; exact hi
  exact vg_o (i := i) hlen (h p q (fun z => hb.1 z.symm) ha hb.2) σ R _ rl (.ref l) vl _ fun e2 σ2 R2 H2 r4 s4 q4 => kn e2 σ2 R2 H2 r4 s4 q4
theorem vsr_frz (i : Nat) {t : TS} {d : D} {post : List (Addr × D) → D → Prop} (hd : env[i]? = some (.mu d)) (h : VSR K G B t (env.set i (.p d)) post) : VSR K G B t env post := fun σ R H r Q q => by
  obtain ⟨R2, r2, _⟩ := r.freeze hd
  exact h σ R2 H r2 Q q
end
end VL
namespace VL
open PySem PySem.Spec PyProof.Rows L2
end VL
namespace VL
open PySem PySem.Spec PyProof.Rows L2
end VL
namespace VL
open PySem PySem.Spec PyProof.Rows L2
end VL
namespace VL
open PySem PySem.Spec PyProof.Rows L2
section
variable {X : Cx} {pins : List (Addr × Obj)} {σ : L2.St} {H H' : Hp} {s s' : Shared} {E : XK}
/-- a call's exception: the state without it, over the same ground -/
theorem call_ground {B : Heap} {a : Addr} {Z : Obj → Prop} (I : L2.Inv X pins σ H s) (fl : HandSPX.FlyingZ B X.stack a Z s'.heap) (hok : HOk X.prog X.w H' B) (ub : UB (frs X.stack) H H' s.heap B s'.heap) (ag : AllBare s'.gens) :
    ∃ sI : Shared, L2.Inv X pins σ H' sI ∧ (∀ b o, sI.heap.get? b = some o → b ∉ frs X.stack → B.get? b = some o) ∧ (∀ b o, sI.heap.get? b = some o → s'.heap.get? b = some o) ∧ sI.os = s.os := by
  obtain ⟨G, g1, g2⟩ := restrict s'.heap fun b => (B.get? b).isSome || decide (b ∈ frs X.stack)
  have st : B.StaysIn s'.heap := fl.1
  have gB : ∀ b o, B.get? b = some o → G.get? b = some o := fun b o e => by
    rw [g1 b (by simp [e])]
    exact st b o e
  have gF : ∀ b, b ∈ frs X.stack → G.get? b = s'.heap.get? b := fun b hb => g1 b (by simp [hb])
  have og : ∀ b o, G.get? b = some o → s'.heap.get? b = some o ∧ ((B.get? b).isSome = true ∨ b ∈ frs X.stack) := fun b o e => by
    cases q : ((B.get? b).isSome || decide (b ∈ frs X.stack)) with
    | false => rw [g2 b q] at e; cases e
    | true =>
      rw [g1 b q] at e
      exact ⟨e, by simpa [Bool.or_eq_true] using q⟩
  refine ⟨{ s with heap := G, gens := s'.gens, drawn := s'.drawn, toks := s'.toks }, ?_, fun b o e hb => ?_, fun b o e => (og b o e).1, rfl⟩
  · refine I.call (ch := []) ⟨fun b o e n hb _ => gB b o (ub.keep b o e n hb), fun b o e n hb _ => ?_, fun b o e n _ => ub.free b o e n, fun b o e _ => ?_, ub.tups, ub.frzs, ub.tbls⟩ (hok.kept gB) ag (fun _ z => nomatch z)
    · obtain ⟨sl, q⟩ := ub.slot b o e hb
      exact ⟨sl, by rw [gF b hb]; exact q⟩
    · by_cases hb : b ∈ frs X.stack
      · obtain ⟨sl, q⟩ := ub.slot b o e hb
        exact ⟨_, by rw [gF b hb]; exact q⟩
      · obtain ⟨o', q⟩ := ub.there b o e hb
        exact ⟨o', gB b o' q⟩
  · obtain ⟨e', h⟩ := og b o e
    rcases h with h | h
    · obtain ⟨o', q⟩ := Option.isSome_iff_exists.mp h
      have z := st b o' q
      rw [e'] at z; cases z
      exact q
    · exact absurd h hb
/-- a block's wish of an exception -/
abbrev xeB (X : Cx) (ce : Env) : Value → Shared → Prop := notedBy (model X.prog X.w) X.A ce (CompFails (model X.prog X.w) X.A X.xe ce)
/-- the context of a block whose element may raise -/
abbrev blkX (X : Cx) (s : Shared) (H : Hp) (scope : Scope) (ce : Env) (fp : List Addr) (xe : Value → Shared → Prop) : Cx := (X.blk s H scope ce fp).tr [] xe
theorem block_passes {s3 : Shared} {H3 : Hp} {scope : Scope} {ce : Env} {fp : List Addr} (I3 : L2.Inv X pins σ H3 s3) (hs : X.stack = X.env :: X.outer) (hf : X.env.frame = some X.env.locals) (tk : Takes X fun cls d _ H => E cls d H)
    (cL : ce.locals = s3.heap.objs.size) (cf : ce.frame = X.env.frame) (hfp : ∀ b ∈ fp, FpOk X pins H3 b ∧ b < s3.heap.objs.size) :
    Passes (L2.CX X.prog X.w) (blkX X s3 H3 scope ce fp (xeB X ce)) E := by
  intro pins' σ' H' s' e s2 Ib c
  obtain ⟨a, B, H2, cls, d, rfl, fl, hok, ub, na, os, ag, hE⟩ := c
  obtain ⟨sI, I2, nb, up, osI⟩ := call_ground (X := blkX X s3 H3 scope ce fp (xeB X ce)) Ib fl hok ub ag
  have nb : ∀ b o, sI.heap.get? b = some o → b ∉ frs X.stack → B.get? b = some o := nb
  have hfr : X.A.frames = some (X.env :: X.outer) := by rw [I3.ok.frames, hs]
  have nC2 : H2 ce.locals = none := I2.free
  obtain ⟨m, hnI, _⟩ := I2.loc
  have hnI : sI.heap.Ns ce.locals m := hnI
  have hn2 : s2.heap.Ns ce.locals m := Heap.Ns.keeps hnI up
  have neC : ∀ b o, s3.heap.get? b = some o → b ≠ ce.locals := fun b o e z => by
    rw [z, cL] at e
    exact absurd (Heap.lt_size e) (Nat.lt_irrefl _)
  have stC : ∀ b ∈ frs X.stack, b ≠ ce.locals := fun b hb => by
    obtain ⟨_, o, ho, _⟩ := I3.stack.mem hb
    exact neC b o ho
  have hid : ∀ {h : Heap} {b : Addr} {o : Obj}, (PySem.W.hideAll h [ce.locals]).get? b = some o → h.get? b = some o ∧ b ≠ ce.locals := fun {h b o} e => ⟨PySem.W.of_hideAll _ e, fun z => by
    rw [z, PySem.W.hideAll_none _ (List.mem_singleton.mpr rfl)] at e
    cases e⟩
  have hin : ∀ {h : Heap} {b : Addr} {o : Obj}, h.get? b = some o → b ≠ ce.locals → (PySem.W.hideAll h [ce.locals]).get? b = some o := fun {h b o} e n => PySem.W.hideAll_get _ e (by simpa using n)
  have hno : ∀ {h : Heap} {b : Addr}, h.get? b = none → (PySem.W.hideAll h [ce.locals]).get? b = none := fun {h b} e => by
    cases q : (PySem.W.hideAll h [ce.locals]).get? b with
    | none => rfl
    | some o =>
      have z := (hid q).1
      rw [e] at z
      cases z
  have fl' : HandSPX.FlyingZ (PySem.W.hideAll B [ce.locals]) (X.env :: X.outer) a (Zc cls d) s2.heap := by
    have fl : HandSPX.FlyingZ B X.stack a (Zc cls d) s2.heap := fl
    rw [hs] at fl
    obtain ⟨k1, k2, k3, oe, vs, T, oT, ts, he, hz, hd, h1, hnT, hTe, hT, hdT, h3⟩ := fl
    exact ⟨fun b o e => k1 b o (hid e).1, hno k2, funFrames_none k3 fun L hL => hno (k3.mem hL).1, oe, vs, T, oT, ts, he, hz, hd, h1, hno hnT, hTe, hT, hdT, h3⟩
  show wpAny _ X.A (noteFrame (.ref a) ce) _ _ s2
  rw [noteFrame_env _ cf]
  refine HandSPX.looks_onZ Zc.steady hfr hf fl' fun h1 hH up1 => ?_
  refine ⟨m, hn2.upToSlots up1, fun h2 m2 hnm hsb => ?_⟩
  have hsb : Heap.SameBut ce.locals h1 h2 := hsb
  have hn1 : h1.Ns ce.locals m := hn2.upToSlots up1
  have nf : ∀ b o vs, h1.get? b = some o → o.data = .fields vs → b ≠ ce.locals := fun b o vs e d z => by
    obtain ⟨oc, es, ep, hoc, hdc, _⟩ := hn1
    rw [z, hoc] at e
    cases e
    rw [hdc] at d
    cases d
  have hH2 : HandSPX.HeldZ (PySem.W.hideAll B [ce.locals]) (X.env :: X.outer) a (Zc cls d) X.env.locals h2 := by
    obtain ⟨k1, k2, k3, oe, vs, T, oT, ts, he, hz, hd, g1, hnT, hTe, hT, hdT, g3⟩ := hH
    exact ⟨fun b o e => (hsb.2 b (hid e).2).trans (k1 b o e), k2, Heap.FunFrames.sameBut hsb hnm k3, oe, vs, T, oT, ts, (hsb.2 a (nf _ _ _ he hd)).trans he, hz, hd, g1, hnT, hTe, (hsb.2 T (nf _ _ _ hT hdT)).trans hT, hdT, g3⟩
  have hH3 := hH2
  obtain ⟨_, _, _, oe, vs, T, oT, ts, he, hz, hd, g1, hnT, hTe, hT, hdT, g3⟩ := hH3
  unfold PySem.passOn
  refine wpAny_bind (wpAny_field he hd g1 ?_)
  rw [if_neg (show ¬ ((Value.ref T == Value.none) = true) from by simp)]
  rw [cf, hf]
  refine wpAny_bind (HandSPX.setFlight_onZ hH2 fun h3 hh3 up3 => ?_)
  refine wpAny_throw ?_
  refine tk _ _ ⟨a, PySem.W.hideAll B [ce.locals], { sI with heap := PySem.W.hideAll sI.heap [ce.locals] }, pins, σ, H2, cls, d, rfl, ?_, fun b o e hb => hin (nb b o (hid e).1 hb) (hid e).2, fun b o e hnf => ?_, .inr (.inr (by rw [hs]; exact hh3)), na, os.trans osI.symm, ag, hE⟩
  · have U : L2.Un (frs X.stack) fp H3 H2 s3.heap sI.heap := I2.base
    refine I3.call' (ch := fp) (s' := { sI with heap := PySem.W.hideAll sI.heap [ce.locals] }) I2.os ⟨fun b o e n h1 h2 => hin (U.keep b o e n h1 h2) (neC b o e), fun b o e n h1 h2 => ?_, U.free, fun b o e h => ?_, U.tups, U.frzs, U.tbls⟩ ?_ I2.bare fun b hb =>
      ⟨(hfp b hb).1.2.2.2.1, (hfp b hb).1.2.1, (hfp b hb).1.2.2.2.2.1, (hfp b hb).1.2.2.2.2.2⟩
    · obtain ⟨sl, q⟩ := U.slot b o e n h1 h2
      exact ⟨sl, hin q (neC b o e)⟩
    · obtain ⟨o', q⟩ := U.there b o e h
      exact ⟨o', hin q (neC b o e)⟩
    · intro b o q
      refine (I2.hok b o q).stay (fun c u hc r => hin r fun z => ?_) (fun _ r => r) fun _ _ r => r
      rcases hc with hc | hc
      · rw [← hc, z, nC2] at q
        cases q
      · rw [z, nC2] at hc
        cases hc
  · obtain ⟨e1, e2⟩ := hid e
    obtain ⟨sl, q⟩ := up1 b o (up b o e1) hnf
    obtain ⟨sl2, q2⟩ := up3 b { o with slots := sl } ((hsb.2 b e2).trans q) hnf
    exact ⟨sl2, q2⟩
theorem lcX_core {Q : VK} {elt tg iter : Expr} {ifs : List Expr} {scope : Scope} {own : List (Str × Nat)} {pos pos' : Pos} {wi : TI} {g : TG} {tt : TT} {te : TE} {use : Option (Value → Sem Unit)} {Qf : Value → Shared → Prop}
    (hst : X.stack = X.env :: X.outer) (hfr : X.env.frame = some X.env.locals) (tk : Takes X fun cls d _ H => E cls d H)
    (hc : X.calm = true) (hN : X.N.Nodup) (I : L2.Inv X pins σ H s) (hi : PI X tg iter wi) (ok : BlkOk X.N X.env.scope scope own)
    (hg : ∀ (s : Shared) (H : Hp) (C : Addr) (cl : List (Str × Addr)) (fp : List Addr) (xe : Value → Shared → Prop), PG (blkX X s H scope (compEnvC scope cl C X.env) fp xe) tg g)
    (ht : ∀ (s : Shared) (H : Hp) (C : Addr) (cl : List (Str × Addr)) (fp : List Addr) (xe : Value → Shared → Prop), PTs (blkX X s H scope (compEnvC scope cl C X.env) fp xe) ifs tt)
    (he : ∀ (s : Shared) (H : Hp) (C : Addr) (cl : List (Str × Addr)) (fp : List Addr) (xe : Value → Shared → Prop), Passes (L2.CX X.prog X.w) (blkX X s H scope (compEnvC scope cl C X.env) fp xe) E → PE (blkX X s H scope (compEnvC scope cl C X.env) fp xe) elt te)
    (hs : ∀ x, foldedSetIterable iter X.env x = pure x) (h : tLc wi g tt te (own.map (·.2)) σ H Q)
    (hRR : ∀ D C s' m H', L2.Inv X pins σ H' s' → Q (.ref D) H' → s'.heap.Ns C m → FpOk X pins H' C → ∀ ce : Env, ce.locals = C → compEnds (model X.prog X.w) X.A X.xe use Qf (.ref D) ce (.ok .next) s') :
    wpAny (model X.prog X.w) X.A (comprehension (.ListComp elt [⟨tg, iter, ifs, 0⟩] scope pos) scope X.env pos' (newList []) false (eval iter X.env) use) Qf X.xe s := by
  have hfree : ∀ y ∈ scope.names, y.2 = .free → ∃ c, X.env.cells.lookup y.1 = some c := fun y hy e => by
    rcases ok.free y hy e with k | k
    · exact I.ok.has _ (.inl k)
    · exact I.ok.has _ (.inr k)
  refine comprehension_at (use := use) rfl hs (closure_ok hfree) ok.kind (fun y hy e => by rw [ok.uniq y hy, e])
    (thn (hi.run pins s σ H _ I h) fun xv s1 hx => thn hx fun itv s2 h2 => ?_)
  obtain ⟨it, fp, tn, J, H2, e, I2, T, st2, f2, q⟩ := h2
  subst e
  refine wpAny_newObj_type (newEnv_comp ?_) (by show 0 ≤ sizeLine; decide)
  generalize hD : s2.heap.objs.size = D
  have hDn : H2 D = none := I2.hok.fresh (Nat.le_of_eq hD)
  obtain ⟨W, ⟨m0, w0⟩, turn⟩ := q D hDn
  -- the new list
  generalize hs3 : ({ s2 with heap := s2.heap.push { cls := .type "list", data := .seq ([] : List Value).toArray } } : Shared) = s3
  have I3 : L2.Inv X pins σ (upd H2 D (.lst [])) s3 := by
    rw [← hs3]
    refine I2.laid (t' := s2.toks) (fun b o e => Heap.get?_push_of_some _ e) (Nat.le_of_eq hD) ⟨Nat.zero_le _, [], 0, .nil, ?_⟩
    rw [← hD]
    exact Heap.get?_push_size _ rfl
  have h3 : s3.heap = s2.heap.push { cls := .type "list", data := .seq ([] : List Value).toArray } := by rw [← hs3]
  have sz : ∀ b ∈ fp, b < s2.heap.objs.size := fun b hb => by
    obtain ⟨o, e, _⟩ := T.obj _ _ st2 b hb
    exact Heap.lt_size e
  have f3 : ∀ b ∈ fp, FpOk X pins (upd H2 D (.lst [])) b ∧ b < s3.heap.objs.size := fun b hb => by
    have hlt := sz b hb
    refine ⟨⟨?_, (f2 b hb).2⟩, by rw [h3, Heap.size_push]; exact Nat.lt_succ_of_lt hlt⟩
    rw [upd_ne (by rw [← hD]; exact Nat.ne_of_lt hlt)]
    exact (f2 b hb).1
  have st3 : tn 0 s3.heap := T.keep _ _ _ st2 fun b _ o e => by rw [h3]; exact Heap.get?_push_of_some _ e
  have I4 := block_start I3 ok hN f3
  have cL0 : (compEnvC scope (cellsFrom (s3.heap.objs.size + 1) scope.names (cloFrom X.env.cells scope.names [])) s3.heap.objs.size X.env).locals = s3.heap.objs.size := rfl
  have pg := hg s3 (upd H2 D (.lst [])) s3.heap.objs.size (cellsFrom (s3.heap.objs.size + 1) scope.names (cloFrom X.env.cells scope.names [])) fp (xeB X (compEnvC scope (cellsFrom (s3.heap.objs.size + 1) scope.names (cloFrom X.env.cells scope.names [])) s3.heap.objs.size X.env))
  have pt := ht s3 (upd H2 D (.lst [])) s3.heap.objs.size (cellsFrom (s3.heap.objs.size + 1) scope.names (cloFrom X.env.cells scope.names [])) fp (xeB X (compEnvC scope (cellsFrom (s3.heap.objs.size + 1) scope.names (cloFrom X.env.cells scope.names [])) s3.heap.objs.size X.env))
  have pe := he s3 (upd H2 D (.lst [])) s3.heap.objs.size (cellsFrom (s3.heap.objs.size + 1) scope.names (cloFrom X.env.cells scope.names [])) fp (xeB X (compEnvC scope (cellsFrom (s3.heap.objs.size + 1) scope.names (cloFrom X.env.cells scope.names [])) s3.heap.objs.size X.env))
    (block_passes I3 hst hfr tk cL0 rfl f3)
  show codeAny _ _ (.compStart (.ListComp elt [⟨tg, iter, ifs, 0⟩] scope pos) 0 (.ref it) (.ref D) (compEnvC scope (cellsFrom (s3.heap.objs.size + 1) scope.names (cloFrom X.env.cells scope.names [])) s3.heap.objs.size X.env)) (compEnds (model X.prog X.w) X.A X.xe use Qf (.ref D) (compEnvC scope (cellsFrom (s3.heap.objs.size + 1) scope.names (cloFrom X.env.cells scope.names [])) s3.heap.objs.size X.env)) { s3 with heap := pushCells (s3.heap.push { cls := .type "dict", data := .dict #[] }) scope.names }
  have nfp : ∀ b ∈ fp, (upd H2 D (.lst [])) b = none := fun b hb => (f3 b hb).1.1
  generalize hce : compEnvC scope (cellsFrom (s3.heap.objs.size + 1) scope.names (cloFrom X.env.cells scope.names [])) s3.heap.objs.size X.env = ce at I4 pg pt pe ⊢
  have cL : ce.locals = s3.heap.objs.size := by subst hce; rfl
  generalize hH3 : upd H2 D (.lst []) = H3 at I3 I4 pg pt pe w0 nfp f3
  generalize hs4 : ({ s3 with heap := pushCells (s3.heap.push { cls := .type "dict", data := .dict #[] }) scope.names } : Shared) = s4 at I4 ⊢
  have st4 : tn 0 s4.heap := T.keep _ _ _ st3 fun b _ o e => by rw [← hs4]; exact pushCells_keeps _ _ _ _ (Heap.get?_push_of_some _ e)
  have I4 : L2.Inv (blkX X s3 H3 scope ce fp (xeB X ce)) [] (wipe σ (own.map (·.2))) H3 s4 := I4.toTry _
  have stat : ∀ {σ' : L2.St} {H' : Hp} {s' : Shared}, L2.Inv (blkX X s3 H3 scope ce fp (xeB X ce)) [] σ' H' s' → (∀ b ∈ fp, H' b = none) → ∀ b ∈ fp, FpOk (blkX X s3 H3 scope ce fp (xeB X ce)) [] H' b := fun {σ' H' s'} I' hn b hb =>
    ⟨hn b hb, (I'.ok.exf b hb).1, I'.ok.exfs b hb, .inl hb, fun x c e => (I'.ok.exf b hb).2 x c e, fun p hp => absurd (show p ∈ ([] : List (Addr × Obj)) ++ [] from hp) (by simp)⟩
  have loop : codeAny (model X.prog X.w) X.A (.compLoop (.ListComp elt [⟨tg, iter, ifs, 0⟩] scope pos) 0 (.ref it) (.ref D) ce) (compEnds (model X.prog X.w) X.A X.xe use Qf (.ref D) ce) s4 := by
    refine compLoop_any (fun n s' => ∃ i H', L2.Inv (blkX X s3 H3 scope ce fp (xeB X ce)) [] (wipe σ (own.map (·.2))) H' s' ∧ tn i s'.heap ∧ (∀ b ∈ fp, H' b = none) ∧ W i n H') ?_ m0 ⟨0, H3, I4, st4, nfp, w0⟩
    have exq : ∀ {α : Type} {t : Sem α} {Q : α → Shared → Prop} {s : Shared}, wpAny (model X.prog X.w) X.A t Q (xeB X ce) s → wpAny (model X.prog X.w) X.A t Q (notedBy (model X.prog X.w) X.A ce fun e s' => compEnds (model X.prog X.w) X.A X.xe use Qf (.ref D) ce (.error e) s') s := fun {α t Q s} h => by
      refine wpAny_mono h (fun _ _ q => q) fun e s' q => ?_
      cases use <;> exact q
    rintro n s5 ⟨i, H5, I5, st5, n5, w5⟩
    rcases turn i n H5 w5 with ⟨stop, qq⟩ | ⟨go, Nx, hNx, step⟩
    · have td := T.done (blkX X s3 H3 scope ce fp (xeB X ce)) rfl rfl rfl hc i [] s5 _ H5 (fun _ _ => False) I5 (stat I5 n5) st5 stop
      refine thnF td fun r s6 ⟨hr, I6⟩ => ?_
      subst hr
      -- back in the def's context
      have I7 : L2.Inv X pins σ H5 s6 := I3.call' (ch := fp) I6.os I6.base I6.hok I6.bare fun b hb => ⟨(f3 b hb).1.2.2.2.1, (f3 b hb).1.2.1, (f3 b hb).1.2.2.2.2.1, (f3 b hb).1.2.2.2.2.2⟩
      have nC : H5 s3.heap.objs.size = none := by
        have z : H5 ce.locals = none := I6.free
        rw [cL] at z
        exact z
      obtain ⟨m, hn, _⟩ := I6.loc
      have hn : s6.heap.Ns ce.locals m := hn
      rw [cL] at hn
      exact hRR D s3.heap.objs.size s6 m H5 I7 qq hn (I3.fpOk (Nat.le_refl _) nC) ce cL
    · have ti := T.item (blkX X s3 H3 scope ce fp (xeB X ce)) rfl rfl rfl hc i [] s5 _ H5 (fun _ _ => False) I5 (stat I5 n5) st5 go
      refine thnF ti fun r s6 ⟨u, hr, h6⟩ => ?_
      subst hr
      refine thnF h6 fun _ s7 ⟨x, H7, I7, r7, y7, st7, n7⟩ => ?_
      have I7' := I7.pinned (stat I7 n7) (T.obj _ _ st7)
      refine exq (thn (pg.run _ s7 _ H7 x u _ I7' r7 (step x H7 y7)) fun _ s8 ⟨σ8, H8, I8, hw8, q8⟩ => ?_)
      refine thn (pt.run _ s8 σ8 H8 _ I8 q8) fun b s9 ⟨H9, I9, q9⟩ => ?_
      -- the turn's end
      have fin : ∀ {s' : Shared} {H' : Hp}, L2.Inv (blkX X s3 H3 scope ce fp (xeB X ce)) ([] ++ pinsAt fp s7.heap) σ8 H' s' → Nx H' → ∃ m, m < n ∧ ∃ i H', L2.Inv (blkX X s3 H3 scope ce fp (xeB X ce)) [] (wipe σ (own.map (·.2))) H' s' ∧ tn i s'.heap ∧ (∀ b ∈ fp, H' b = none) ∧ W i m H' := fun {s' H'} I' nx => by
        obtain ⟨m', hm, w'⟩ := hNx H' nx
        have pin' : ∀ b ∈ fp, ∀ o, s7.heap.get? b = some o → s'.heap.get? b = some o ∧ H' b = none := fun b hb o e =>
          let z := I'.pin (b, o) (List.mem_append_right _ (List.mem_append_right _ (mem_pinsAt hb e)))
          ⟨z.1, z.2.1⟩
        have hl : (wipe σ (own.map (·.2))).length = σ8.length := by rw [← hw8, wipe_length]
        refine ⟨m', hm, i + 1, H', (I'.unpinned (pins := [])).weak hl (fun j v e => ?_), T.keep _ _ _ st7 fun b hb o e => (pin' b hb o e).1, fun b hb => ?_, w'⟩
        · rw [← hw8] at e
          exact (wipe_some e).1
        · obtain ⟨o, e, _⟩ := T.obj _ _ st7 b hb
          exact (pin' b hb o e).2
      cases b with
      | false =>
        simp only [Bool.false_eq_true, if_false] at q9 ⊢
        exact fin I9 q9
      | true =>
        simp only [if_true] at q9 ⊢
        refine exq (thn (pe.run _ s9 σ8 H9 _ I9 q9) fun z s10 ⟨yv, H10, I10, r10, acc, hD10, hz10, nx⟩ => ?_)
        exact app_ok (X := blkX X s3 H3 scope ce fp (xeB X ce)) I10 hD10 hz10 r10 fun s11 I11 => fin I11 nx
  exact codeAny_compStart_list loop (T.self X.A 0 _ _ _ st4 loop)
end
section
variable {X : Cx} {E : XK}
/-- as pe_lc, the element may raise -/
theorem pe_lcX {elt tg iter : Expr} {ifs : List Expr} {scope : Scope} {own : List (Str × Nat)} {pos : Pos} {wi : TI} {g : TG} {tt : TT} {te : TE} (hst : X.stack = X.env :: X.outer) (hfr : X.env.frame = some X.env.locals) (tk : Takes X fun cls d _ H => E cls d H) (hc : X.calm = true) (hN : X.N.Nodup) (hi : PI X tg iter wi) (ok : BlkOk X.N X.env.scope scope own)
    (hg : ∀ (s : Shared) (H : Hp) (C : Addr) (cl : List (Str × Addr)) (fp : List Addr) (xe : Value → Shared → Prop), PG (blkX X s H scope (compEnvC scope cl C X.env) fp xe) tg g)
    (ht : ∀ (s : Shared) (H : Hp) (C : Addr) (cl : List (Str × Addr)) (fp : List Addr) (xe : Value → Shared → Prop), PTs (blkX X s H scope (compEnvC scope cl C X.env) fp xe) ifs tt)
    (he : ∀ (s : Shared) (H : Hp) (C : Addr) (cl : List (Str × Addr)) (fp : List Addr) (xe : Value → Shared → Prop), Passes (L2.CX X.prog X.w) (blkX X s H scope (compEnvC scope cl C X.env) fp xe) E → PE (blkX X s H scope (compEnvC scope cl C X.env) fp xe) elt te)
    (hs : ∀ x, foldedSetIterable iter X.env x = pure x := by intro _; rfl) :
    PE X (.ListComp elt [⟨tg, iter, ifs, 0⟩] scope pos) (tLc wi g tt te (own.map (·.2))) := by
  refine ⟨fun pins s σ H Q I h => ?_⟩
  rw [eval_ListComp]
  refine lcX_core hst hfr tk hc hN I hi ok hg ht he hs h fun D C s' m H' I' q hn f ce cl => ⟨m, by rw [cl]; exact hn, fun h'' sb => ?_⟩
  rw [cl] at sb
  obtain ⟨f0, f1, f2, f3, f4, f5⟩ := f
  exact ⟨.ref D, H', I'.turned (t' := s'.toks) (fun b o hb e => (sb.2 b hb).trans e) f0 f1 f3 f4 f5, rfl, q⟩
/-- as ps_setLc, the element may raise -/
theorem ps_setLcX {i : Nat} {y : Str} {py : Pos} {elt tg iter : Expr} {ifs : List Expr} {scope : Scope} {own : List (Str × Nat)} {pos spos : Pos} {wi : TI} {g : TG} {tt : TT} {te : TE} (hst : X.stack = X.env :: X.outer) (hfr : X.env.frame = some X.env.locals) (tk : Takes X fun cls d _ H => E cls d H) (hc : X.calm = true) (hN : X.N.Nodup) (hy : X.N[i]? = some y) (hyl : X.env.scope.names.lookup y = some .local)
    (hsw : swapsWith (.ListComp elt [⟨tg, iter, ifs, 0⟩] scope pos) (some (.Name y py)) spos.line X.env = pure true) (hi : PI X tg iter wi) (ok : BlkOk X.N X.env.scope scope own)
    (hg : ∀ (s : Shared) (H : Hp) (C : Addr) (cl : List (Str × Addr)) (fp : List Addr) (xe : Value → Shared → Prop), PG (blkX X s H scope (compEnvC scope cl C X.env) fp xe) tg g)
    (ht : ∀ (s : Shared) (H : Hp) (C : Addr) (cl : List (Str × Addr)) (fp : List Addr) (xe : Value → Shared → Prop), PTs (blkX X s H scope (compEnvC scope cl C X.env) fp xe) ifs tt)
    (he : ∀ (s : Shared) (H : Hp) (C : Addr) (cl : List (Str × Addr)) (fp : List Addr) (xe : Value → Shared → Prop), Passes (L2.CX X.prog X.w) (blkX X s H scope (compEnvC scope cl C X.env) fp xe) E → PE (blkX X s H scope (compEnvC scope cl C X.env) fp xe) elt te)
    (hs : ∀ x, foldedSetIterable iter X.env x = pure x := by intro _; rfl) :
    PS X (.Assign [.Name y py] (.ListComp elt [⟨tg, iter, ifs, 0⟩] scope pos) spos) (tAsg (tLc wi g tt te (own.map (·.2))) (gName i)) := by
  refine ⟨fun pins s σ H D I h => ?_⟩
  rw [exec_Assign_Name_used _ _ _ _ hsw]
  refine wpAny_bind (wpAny_standAt (wpAny_bind ?_))
  show wpAny _ X.A (do let _ ← comprehension (.ListComp elt [⟨tg, iter, ifs, 0⟩] scope pos) scope X.env (firstIterPos [⟨tg, iter, ifs, 0⟩] pos) (newList []) false (eval iter X.env) (some (assign (.Name y py) X.env))) _ _ s
  have h : tLc wi g tt te (own.map (·.2)) σ H (fun x H1 => gName i x σ H1 D.nx) := h
  refine wpAny_bind (thn (lcX_core (Qf := fun _ s' => SP X pins D .next s') hst hfr tk hc hN I hi ok hg ht he hs h fun L C s' m H' I' q hn f ce cl => ?_) fun _ s' hq => wpAny_pure (wpAny_pure hq))
  show wpAny _ _ (assign (.Name y py) X.env (.ref L)) _ _ _
  refine wpAny_assign_Name (store_ok2 (v := V.ref L) I' hN hy (.inl hyl) rfl (fun s2 I2 ⟨a, sb, ha⟩ => ?_) (.inr hyl))
  obtain ⟨f0, f1, f2, f3, f4, f5⟩ := f
  have haC : C ≠ a := by
    rcases ha with z | z
    · rw [z]; exact f1
    · exact fun e => f4 y a z e.symm
  rw [cl]
  refine ⟨m, hn.sameBut sb haC, fun h3 sb3 => ?_⟩
  exact ⟨_, H', I2.turned (t' := s2.toks) (fun b o hb e => (sb3.2 b hb).trans e) f0 f1 f3 f4 f5, q⟩
end
end VL
namespace VL
open PySem PySem.Spec PyProof.Rows L2
section
variable {K : PySem.W.Frag} {G : Gs} {B : Bs} {env : Vn} {σ : L2.St} {R R' H H' : Hp} {Q : XV → Prop}
/-- x.split(y), of longer texts -/
theorem ve_splitL {to te : TE} (h : VE K G B to env fun x => ∃ a, x = .p (.str a) ∧ VE K G B te env fun y => ∃ b, y = .p (.str b) ∧ b.length ≠ 0 ∧ a.length ≤ 10000000 ∧ Q (.o (.lst ((Txt.split a b).map D.str)))) :
    VE K G B (tM1 (fun x xs H Q => ∃ a b, x = .str a ∧ xs = [.str b] ∧ (b.length == 0) = false ∧ a.length + 2 ≤ sizeLine ∧ rNewStrs (Txt.split a b) H Q) to te) env Q := fun σ R H rp Qh k =>
  h σ R H rp _ fun v R1 H1 x r1 s1 hv ⟨a, e, q⟩ => by
    subst e
    have ev := str_at hv
    subst ev
    refine ⟨⟨a, rfl⟩, q σ R1 H1 r1 _ fun w R2 H2 y r2 s2 hw ⟨b, e2, hb, hl, q2⟩ => ?_⟩
    subst e2
    refine ⟨a, b, rfl, by rw [str_at hw], beq_eq_false_iff_ne.mpr hb, Nat.le_trans (Nat.add_le_add_right hl 2) (by decide), fun p hp => ?_⟩
    obtain ⟨r3, v3⟩ := own_lst r2 hp (atl_strs (K := K) (R := R2) (Txt.split a b))
    exact k _ R2 _ _ r3 (s1.trans s2) v3 q2
end
end VL
namespace VL
open PySem PySem.Spec PyProof.Rows L2
section
variable {K : PySem.W.Frag} {G : Gs} {B : Bs} {env : Vn} {σ : L2.St} {R R' H H' : Hp} {Q : XV → Prop} {nx : Vn → Prop} {rt : XV → Prop} {bk ct : Vn → Prop} {Qx : Vn → XV → Prop}
/-- the slots written anew -/
theorem vs_env (e2 : Vn) {t : TS} (he : env = e2) (h : VS K G B t e2 nx rt bk ct) : VS K G B t env nx rt bk ct := by
  subst he
  exact h
/-- xs.pop() as a statement -/
theorem vs_popD {i : Nat} {ds : List D} {d : D} (hd : env[i]? = some (.mu (.lst ds))) (hl : ds[ds.length - 1]? = some d) (h : nx (env.set i (.mu (.lst ds.dropLast)))) :
    VS K G B (tDrop (tBM0 K "list" rPop (tVar i))) env nx rt bk ct := fun σ R H r Z kn _ _ _ => by
  obtain ⟨a, y, h1, h2, h3, h4, h5⟩ := r.slots i _ hd
  obtain ⟨xs, rfl⟩ : ∃ xs, y = .lst xs := by cases y <;> first | exact ⟨_, rfl⟩ | exact h5.elim
  have h6 : AtL K R xs ds := h5
  obtain ⟨v, hv, hd'⟩ := h6.get hl
  refine ⟨.ref a, h1, .inl ⟨rfl, xs, .inl (.inl h4)⟩, a, xs, v, rfl, rfl, h4, by rw [h6.len]; exact hv, ?_⟩
  refine kn _ σ R _ (r.mut hd h1 (y := .lst xs.dropLast) (d' := .lst ds.dropLast) ?_) (Same.refl R) h
  show AtL K R xs.dropLast ds.dropLast
  rw [List.dropLast_eq_take, List.dropLast_eq_take, h6.len]
  exact h6.take _
/-- who wants the result plain is served by a promise of new lists -/
theorem spG_of {α : Type} {args : α → List D} {pre : α → Prop} {post : α → List (Addr × D) → D → Prop} {postA : α → D → Prop} {vs : List V} {Qv : VK} {E : XK}
    (hpost : ∀ x gs e, post x gs e → ∃ d, (OwnR gs d e ∨ ∃ ds es, d = .lst ds ∧ e = .lst es ∧ OwnL gs ds es) ∧ postA x d) (h : SpA K G false args pre postA noRs vs H Qv E) : SpG K G args pre post vs H Qv E := by
  obtain ⟨R, x, hs, ha, hp, q, _⟩ := h
  refine ⟨R, x, hs, ha, hp, fun v R' H' e gs st hv hg hpe => ?_⟩
  obtain ⟨d, ho, hd⟩ := hpost x gs e hpe
  have sm : Same R' (backOf R' H' gs) := fun b x e => back_old e
  have hgs : ∀ q ∈ gs, ∃ y, backOf R' H' gs q.1 = some y ∧ MAt K (backOf R' H' gs) y q.2 := fun q hq => by
    obtain ⟨_, h2, y, h3, h4⟩ := hg q hq
    exact ⟨y, by rw [back_in h2 (List.mem_map_of_mem (f := fun q : Addr × D => q.1) hq)]; exact h3, h4.same sm⟩
  refine q v (backOf R' H' gs) H' d ?_ ?_ (fun z => by cases z) hd
  · exact {
      same := st.same.trans sm
      sub := fun b x e => by
        cases q : R' b with
        | some o =>
          rw [back_old q] at e
          cases e
          exact st.sub b x q
        | none =>
          by_cases hm : b ∈ gs.map (·.1)
          · rw [back_in q hm] at e
            obtain ⟨g, hgm, rfl⟩ := List.mem_map.mp hm
            obtain ⟨_, _, y, h3, h4⟩ := hg g hgm
            rw [h3] at e
            cases e
            exact subAt_of h3 (mat_mk h4)
          · rw [back_out q hm] at e
            cases e
      kept := st.kept
      out := fun b y e hd n => by
        have h1 := st.out b y e hd n
        by_cases hm : b ∈ gs.map (·.1)
        · obtain ⟨g, hgm, rfl⟩ := List.mem_map.mp hm
          have := (hg g hgm).1
          rw [e] at this
          cases this
        · exact back_out h1 hm }
  · rcases ho with ho | ⟨ds, es, rfl, rfl, ho⟩
    · exact own_back sm hgs ho hv
    · cases hv with
      | lst h1 h2 => exact .lst (sm _ _ h1) (own_backL sm hgs ho h2)
/-- what may be raised, within a comprehension -/
theorem lets_pr {E : XK} {Xs : Addr → Prop} {p : List (Addr × HO)} (L : Lets K G B E Xs) : Lets K G { B with pr := p } E Xs := L
end
end VL
namespace VL
open PySem PySem.Spec PyProof.Rows L2
section
variable {K : PySem.W.Frag} {G : Gs} {B : Bs} {env : Vn}
theorem is_S {t : TS} {nx : Vn → Prop} {rt : XV → Prop} {bk ct : Vn → Prop} (h : VS K G B t env nx rt bk ct) : VS K G B t env nx rt bk ct := h
theorem is_E {t : TE} {Q : XV → Prop} (h : VE K G B t env Q) : VE K G B t env Q := h
theorem is_A {t : TA} {Q : List XV → Prop} (h : VA K G B t env Q) : VA K G B t env Q := h
theorem is_T {t : TT} {Q : Bool → Prop} (h : VT K G B t env Q) : VT K G B t env Q := h
theorem is_O {r : V → V → Hp → VK → Prop} {x y : XV} {Q : XV → Prop} (h : VO K G B r env x y Q) : VO K G B r env x y Q := h
theorem is_C {r : List V → Hp → VK → Prop} {xs : List XV} {Q : XV → Prop} (h : VC K G B r env xs Q) : VC K G B r env xs Q := h
theorem is_G {g : TG} {x : XV} {Q : Vn → Prop} (h : VG K G B g x env Q) : VG K G B g x env Q := h
end
end VL
namespace N
open PySem L2 VL
def GoodSt1 (ns : List Int) : Prop := ns ≠ [] ∧ ns.length ≤ 100
end N
namespace N
open PySem L2 VL
def soFar : Int → List Int → List Int
  | _, [] => []
  | t, x :: r => (t + x) :: soFar (t + x) r
theorem soFar_len : ∀ (t : Int) (l : List Int), (soFar t l).length = l.length
  | _, [] => rfl
  | t, x :: r => by rw [soFar, List.length_cons, List.length_cons, soFar_len]
theorem take_one {α : Type} {l : List α} {i : Nat} {x : α} (h : l[i]? = some x) : l.take (i + 1) = l.take i ++ [x] := by
  rw [List.take_add_one, h]
  rfl
theorem map_get {α β : Type} {f : α → β} {l : List α} {i : Nat} {d : β} (h : (l.map f)[i]? = some d) : ∃ x, l[i]? = some x ∧ d = f x := by
  rw [List.getElem?_map] at h
  cases e : l[i]? with
  | none =>
    rw [e] at h
    cases h
  | some x =>
    rw [e] at h
    exact ⟨x, rfl, (Option.some.inj h).symm⟩
theorem lt_of_get {α : Type} {l : List α} {i : Nat} {x : α} (h : l[i]? = some x) : i < l.length := (List.getElem?_eq_some_iff.mp h).1
end N
namespace N
open PySem L2 VL
theorem cons_of_ne {α : Type} {l : List α} (h : l ≠ []) : ∃ x r, l = x :: r := by
  cases l with
  | nil => exact absurd rfl h
  | cons x r => exact ⟨x, r, rfl⟩
theorem hu1 {env : Vn} {v : Nat} (h : env[v]? = some .u) : ∀ w ∈ [v], env[w]? = some .u := fun w hw => by
  cases List.mem_singleton.mp hw
  exact h
theorem hu2 {env : Vn} {v u : Nat} (h : env[v]? = some .u) (h2 : env[u]? = some .u) : ∀ w ∈ [v, u], env[w]? = some .u := fun w hw => by
  rcases List.mem_cons.mp hw with rfl | hw
  · exact h
  · exact hu1 h2 w hw
theorem hu3 {env : Vn} {v u t : Nat} (h : env[v]? = some .u) (h2 : env[u]? = some .u) (h3 : env[t]? = some .u) : ∀ w ∈ [v, u, t], env[w]? = some .u := fun w hw => by
  rcases List.mem_cons.mp hw with rfl | hw
  · exact h
  · exact hu2 h2 h3 w hw
theorem sIx_end (n d : Nat) : HT.sIx n d none = d := rfl
theorem cutD_mid {α : Type} (f : α → D) (l : List α) {a b : Int} (ha : 0 ≤ a) (hb : 0 ≤ b) : cutD (l.map f) (some a) (some b) = ((l.take b.toNat).drop a.toNat).map f := by
  unfold cutD
  rw [List.length_map, sIx_nn ha, sIx_nn hb, ← List.map_drop, ← List.map_take, List.drop_take]
  congr 1
  by_cases h : a.toNat ≤ l.length
  · rw [Nat.min_eq_left h]
    by_cases h2 : b.toNat ≤ l.length
    · rw [Nat.min_eq_left h2]
    · rw [Nat.min_eq_right (by omega), List.take_of_length_le (by rw [List.length_drop]; omega), List.take_of_length_le (by rw [List.length_drop]; omega)]
  · rw [Nat.min_eq_right (a := a.toNat) (b := l.length) (by omega), List.drop_of_length_le (Nat.le_refl _), List.drop_of_length_le (by omega), List.take_nil, List.take_nil]
theorem cutD_take {α : Type} (f : α → D) (l : List α) {b : Int} (hb : 0 ≤ b) : cutD (l.map f) none (some b) = (l.take b.toNat).map f := by
  have h := cutD_mid f l (a := 0) (Int.le_refl 0) hb
  rw [show (0 : Int).toNat = 0 from rfl, List.drop_zero] at h
  exact h
theorem cutD_drop {α : Type} (f : α → D) (l : List α) {a : Int} (ha : 0 ≤ a) : cutD (l.map f) (some a) none = (l.drop a.toNat).map f := by
  have h := cutD_mid f l (a := a) (b := l.length) ha (by omega)
  rw [Int.toNat_natCast, List.take_length] at h
  rw [← h]
  unfold cutD
  rw [List.length_map, sIx_nn (k := (l.length : Int)) (by omega), sIx_end, Int.toNat_natCast, Nat.min_self]
theorem ixN_nat {n j : Nat} (h : j < n) : ixN n (j : Int) = some j := by
  unfold ixN
  rw [if_pos (by omega), if_pos (by omega)]
  simp
theorem atI_get {α : Type} (f : α → D) {l : List α} {j : Nat} {x : α} (h : l[j]? = some x) : atI (l.map f) (j : Int) = some (f x) := atI_nat (by rw [List.getElem?_map, h]; rfl)
end N
namespace N
open PySem L2 VL
structure Ware where
  nm : Str
  lag : Int
  gives : Int
  floor : Int
  stock : Int
  com : List (Int × Int)
  parts : List (Str × Int)
abbrev Want := Str × Int × Int
structure Shop where
  ws : List Ware
  wants : List Want
def partD (p : Str × Int) : D := .tup [.str p.1, .int p.2]
def wareD (w : Ware) : D := .tup [.str w.nm, .int w.lag, .int w.gives, .int w.floor, .int w.stock, .tup (w.com.map pairD), .tup (w.parts.map partD)]
def wantD (w : Want) : D := .tup [.str w.1, .int w.2.1, .int w.2.2]
def shopD (s : Shop) : D := .tup [.tup (s.ws.map wareD), .tup (s.wants.map wantD)]
def Shop.names (s : Shop) : List Str := s.ws.map fun w => w.nm
/-- what the defs that walk a shop ask of it -/
structure ShopOk (s : Shop) : Prop where
  nd : s.names.Nodup
  sub : ∀ w ∈ s.ws, ∀ p ∈ w.parts, p.1 ∈ s.names
  n : s.ws.length ≤ 100
  p : ∀ w ∈ s.ws, w.parts.length ≤ 100
  c : ∀ w ∈ s.ws, w.com.length ≤ 1000
  m : s.wants.length ≤ 1000
section
variable {α : Type}
def getS : List (Str × α) → Str → Option α
  | [], _ => none
  | (a, x) :: r, k => if a = k then some x else getS r k
theorem getS_of {t : List (Str × α)} {k : Str} {x : α} (nd : (t.map (·.1)).Nodup) (h : (k, x) ∈ t) : getS t k = some x := by
  induction t with
  | nil => cases h
  | cons p r ih =>
    obtain ⟨a, y⟩ := p
    rw [List.map_cons, List.nodup_cons] at nd
    show (if a = k then some y else getS r k) = some x
    rcases List.mem_cons.mp h with e | e
    · cases e
      rw [if_pos rfl]
    · have hk : a ≠ k := fun z => nd.1 (by rw [z]; exact List.mem_map_of_mem (f := (·.1)) e)
      rw [if_neg hk]
      exact ih nd.2 e
end
def strsD (zs : List Str) : D := .lst (zs.map D.str)
def partsOf (s : Shop) : List (Str × List Str) := s.ws.map fun w => (w.nm, w.parts.map (·.1))
/-- the shop has no ring: some rank falls from each ware to its parts -/
def Acyclic (t : List (Str × List Str)) : Prop := ∃ rank : Str → Nat, ∀ x ps, (x, ps) ∈ t → ∀ p ∈ ps, rank p < rank x
theorem ware_uniq {s : Shop} (nd : s.names.Nodup) {v w : Ware} (hv : v ∈ s.ws) (hw : w ∈ s.ws) (e : v.nm = w.nm) : v = w := by
  obtain ⟨i, hi⟩ := List.getElem?_of_mem hv
  obtain ⟨j, hj⟩ := List.getElem?_of_mem hw
  unfold Shop.names at nd
  have h1 : (s.ws.map fun w => w.nm)[i]? = some v.nm := by rw [List.getElem?_map, hi]; rfl
  have h2 : (s.ws.map fun w => w.nm)[j]? = some v.nm := by rw [List.getElem?_map, hj, e]; rfl
  have := (List.getElem?_inj (lt_of_get h1) nd).mp (h1.trans h2.symm)
  subst this
  rw [hi] at hj
  exact Option.some.inj hj
structure ShopA (s : Shop) : Prop where
  ok : ShopOk s
  ac : Acyclic (partsOf s)
end N
namespace N
open PySem L2 VL
/-- a value for each name -/
def fnS {α : Type} (ns : List Str) (f : Str → α) : List (Str × α) := ns.map fun x => (x, f x)
theorem getS_fn {α : Type} {f : Str → α} {x : Str} : ∀ {ns : List Str}, x ∈ ns → getS (fnS ns f) x = some (f x)
  | [], h => by cases h
  | a :: r, h => by
    show (if a = x then some (f a) else getS (fnS r f) x) = some (f x)
    by_cases e : a = x
    · rw [if_pos e, e]
    · rw [if_neg e]
      rcases List.mem_cons.mp h with q | q
      · exact absurd q.symm e
      · exact getS_fn q
theorem foldl_ge : ∀ (l : List Nat) (b : Nat), b ≤ l.foldl max b ∧ (∀ a ∈ l, a ≤ l.foldl max b) ∧ (l.foldl max b = b ∨ l.foldl max b ∈ l)
  | [], b => ⟨Nat.le_refl _, fun _ h => (by cases h), .inl rfl⟩
  | a :: r, b => by
    obtain ⟨h1, h2, h3⟩ := foldl_ge r (max b a)
    show b ≤ r.foldl max (max b a) ∧ (∀ x ∈ a :: r, x ≤ r.foldl max (max b a)) ∧ (r.foldl max (max b a) = b ∨ r.foldl max (max b a) ∈ a :: r)
    refine ⟨by omega, fun x hx => ?_, ?_⟩
    · rcases List.mem_cons.mp hx with rfl | hx
      · omega
      · exact h2 x hx
    · rcases h3 with h3 | h3
      · rw [h3]
        by_cases q : a ≤ b
        · exact .inl (Nat.max_eq_left q)
        · exact .inr (by rw [Nat.max_eq_right (by omega)]; exact List.mem_cons_self)
      · exact .inr (List.mem_cons_of_mem _ h3)
/-- how deep a name lies, counting k steps at most -/
def lvl (t : List (Str × List Str)) : Nat → Str → Nat
  | 0, _ => 0
  | k + 1, x => (t.map fun p => if x ∈ p.2 then lvl t k p.1 + 1 else 0).foldl max 0
section
variable {t : List (Str × List Str)}
theorem lvl_ge {k : Nat} {x y : Str} {ps : List Str} (h : (y, ps) ∈ t) (hx : x ∈ ps) : lvl t k y + 1 ≤ lvl t (k + 1) x := by
  refine (foldl_ge _ 0).2.1 _ (List.mem_map.mpr ⟨(y, ps), h, ?_⟩)
  show (if x ∈ ps then lvl t k y + 1 else 0) = _
  rw [if_pos hx]
theorem lvl_is {k : Nat} {x : Str} : lvl t (k + 1) x = 0 ∨ ∃ y ps, (y, ps) ∈ t ∧ x ∈ ps ∧ lvl t (k + 1) x = lvl t k y + 1 := by
  rcases (foldl_ge (t.map fun p : Str × List Str => if x ∈ p.2 then lvl t k p.1 + 1 else 0) 0).2.2 with h | h
  · exact .inl h
  · obtain ⟨p, hp, e⟩ := List.mem_map.mp h
    by_cases q : x ∈ p.2
    · rw [if_pos q] at e
      exact .inr ⟨p.1, p.2, hp, q, e.symm⟩
    · rw [if_neg q] at e
      exact .inl e.symm
theorem lvl_mono : ∀ (k : Nat) (x : Str), lvl t k x ≤ lvl t (k + 1) x
  | 0, x => Nat.zero_le _
  | k + 1, x => by
    rcases lvl_is (t := t) (k := k) (x := x) with h | ⟨y, ps, h1, h2, h3⟩
    · rw [h]
      exact Nat.zero_le _
    · rw [h3]
      have := lvl_mono k y
      have := lvl_ge (k := k + 1) h1 h2
      omega
/-- the names of a greater rank -/
def cnt (t : List (Str × List Str)) (rank : Str → Nat) (x : Str) : Nat := (t.filter fun p => decide (rank x < rank p.1)).length
theorem filter_lt {α : Type} {p q : α → Bool} (h : ∀ a, p a = true → q a = true) {b : α} (h1 : p b = false) (h2 : q b = true) : ∀ {l : List α}, b ∈ l → (l.filter p).length < (l.filter q).length
  | [], hb => by cases hb
  | a :: r, hb => by
    have le : ∀ r : List α, (r.filter p).length ≤ (r.filter q).length := fun r => by
      induction r with
      | nil => exact Nat.le_refl _
      | cons c r ih =>
        by_cases e : p c = true
        · rw [List.filter_cons_of_pos e, List.filter_cons_of_pos (h c e)]
          exact Nat.succ_le_succ ih
        · rw [List.filter_cons_of_neg e]
          by_cases e2 : q c = true
          · rw [List.filter_cons_of_pos e2]
            exact Nat.le_succ_of_le ih
          · rw [List.filter_cons_of_neg e2]
            exact ih
    rcases List.mem_cons.mp hb with rfl | hb
    · rw [List.filter_cons_of_neg (by rw [h1]; exact Bool.false_ne_true), List.filter_cons_of_pos h2]
      exact Nat.lt_succ_of_le (le r)
    · have ih := filter_lt h h1 h2 hb
      by_cases e : p a = true
      · rw [List.filter_cons_of_pos e, List.filter_cons_of_pos (h a e)]
        exact Nat.succ_lt_succ ih
      · rw [List.filter_cons_of_neg e]
        by_cases e2 : q a = true
        · rw [List.filter_cons_of_pos e2]
          exact Nat.lt_succ_of_lt ih
        · rw [List.filter_cons_of_neg e2]
          exact ih
theorem lvl_stable {rank : Str → Nat} (hr : ∀ x ps, (x, ps) ∈ t → ∀ p ∈ ps, rank p < rank x) : ∀ (k : Nat) (x : Str), cnt t rank x ≤ k → lvl t (k + 1) x = lvl t k x
  | 0, x, h => by
    rcases lvl_is (t := t) (k := 0) (x := x) with e | ⟨y, ps, h1, h2, h3⟩
    · exact e
    · have hm : (y, ps) ∈ t.filter fun p => decide (rank x < rank p.1) := List.mem_filter.mpr ⟨h1, decide_eq_true (hr y ps h1 x h2)⟩
      have := List.length_pos_of_mem hm
      unfold cnt at h
      omega
  | k + 1, x, h => by
    apply Nat.le_antisymm
    · rcases lvl_is (t := t) (k := k + 1) (x := x) with e | ⟨y, ps, h1, h2, h3⟩
      · rw [e]
        exact Nat.zero_le _
      · have hlt : cnt t rank y < cnt t rank x := filter_lt (p := fun p : Str × List Str => decide (rank y < rank p.1)) (q := fun p : Str × List Str => decide (rank x < rank p.1)) (fun a ha => decide_eq_true (Nat.lt_trans (hr y ps h1 x h2) (of_decide_eq_true ha))) (b := (y, ps)) (decide_eq_false (Nat.lt_irrefl _)) (decide_eq_true (hr y ps h1 x h2)) h1
        have e := lvl_stable hr k y (by omega)
        rw [h3, e]
        exact lvl_ge h1 h2
    · exact lvl_mono (k + 1) x
theorem cnt_le (rank : Str → Nat) (x : Str) : cnt t rank x ≤ t.length := List.length_filter_le _ _
/-- the levels: nought, or one more than the greatest level above -/
structure Levels (t : List (Str × List Str)) (f : Str → Int) : Prop where
  up : ∀ y ps, (y, ps) ∈ t → ∀ x ∈ ps, f y + 1 ≤ f x
  is : ∀ x, f x = 0 ∨ ∃ y ps, (y, ps) ∈ t ∧ x ∈ ps ∧ f x = f y + 1
  nn : ∀ x, 0 ≤ f x ∧ f x ≤ t.length
theorem lvl_le : ∀ (k : Nat) (x : Str), lvl t k x ≤ k
  | 0, _ => Nat.le_refl _
  | k + 1, x => by
    rcases lvl_is (t := t) (k := k) (x := x) with e | ⟨y, ps, _, _, h3⟩
    · rw [e]
      exact Nat.zero_le _
    · rw [h3]
      exact Nat.succ_le_succ (lvl_le k y)
def levF (t : List (Str × List Str)) (x : Str) : Int := (lvl t t.length x : Nat)
theorem levels_ok (ha : Acyclic t) : Levels t (levF t) := by
  obtain ⟨rank, hr⟩ := ha
  have st := fun x => lvl_stable hr t.length x (cnt_le rank x)
  refine ⟨fun y ps h x hx => ?_, fun x => ?_, fun x => ?_⟩
  · have := lvl_ge (k := t.length) h hx
    rw [st x] at this
    unfold levF
    omega
  · rcases lvl_is (t := t) (k := t.length) (x := x) with e | ⟨y, ps, h1, h2, h3⟩
    · rw [st x] at e
      exact .inl (by unfold levF; rw [e]; rfl)
    · rw [st x] at h3
      exact .inr ⟨y, ps, h1, h2, by unfold levF; rw [h3]; rfl⟩
  · have := lvl_le (t := t) t.length x
    unfold levF
    omega
end
end N
namespace N
open PySem L2 VL
/-- one to eight small letters -/
structure NameOk (z : Str) : Prop where
  lo : 1 ≤ z.cps.toList.length
  hi : z.cps.toList.length ≤ 8
  ab : ∀ c ∈ z.cps.toList, 97 ≤ c ∧ c ≤ 122
theorem NameOk.str {z : Str} (h : NameOk z) : PyData.strOk z = true := by
  unfold PyData.strOk
  rw [Array.all_eq_true_iff_forall_mem]
  intro c hc
  have := h.ab c (by simpa using hc)
  exact decide_eq_true (by omega)
theorem str_app (a b : Str) : (a ++ b).cps.toList = a.cps.toList ++ b.cps.toList := by
  show (a.cps ++ b.cps).toList = _
  exact Array.toList_append
theorem str_len (a : Str) : a.length = a.cps.toList.length := by
  show a.cps.size = _
  exact Array.length_toList.symm
/-- small numbers that the laws draw -/
abbrev Amt (n : Int) : Prop := 0 ≤ n ∧ n < 10 ^ 42
structure WareG (w : Ware) : Prop where
  nm : NameOk w.nm
  lag : 0 ≤ w.lag ∧ w.lag ≤ 30
  gives : 1 ≤ w.gives ∧ w.gives < 10 ^ 42
  floor : Amt w.floor
  stock : Amt w.stock
  cl : w.com.length ≤ 12
  com : ∀ p ∈ w.com, (0 ≤ p.1 ∧ p.1 ≤ 400) ∧ Amt p.2
  pl : w.parts.length ≤ 6
  pn : (w.parts.map (·.1)).Nodup
  parts : ∀ p ∈ w.parts, 1 ≤ p.2 ∧ p.2 < 10 ^ 42
structure WantsG (names : List Str) (vs : List Want) (n : Nat) (day : Int) : Prop where
  len : vs.length ≤ n
  ok : ∀ v ∈ vs, v.1 ∈ names ∧ (0 ≤ v.2.1 ∧ v.2.1 ≤ day) ∧ Amt v.2.2
structure ShopG (s : Shop) : Prop where
  lo : 1 ≤ s.ws.length
  hi : s.ws.length ≤ 12
  nd : s.names.Nodup
  ws : ∀ w ∈ s.ws, WareG w
  sub : ∀ w ∈ s.ws, ∀ p ∈ w.parts, p.1 ∈ s.names
  wants : WantsG s.names s.wants 20 400
theorem ShopG.ok {s : Shop} (h : ShopG s) : ShopOk s := ⟨h.nd, h.sub, by have := h.hi; omega, fun w hw => by have := (h.ws w hw).pl; omega, fun w hw => by have := (h.ws w hw).cl; omega, by have := h.wants.len; omega⟩
theorem ShopG.a {s : Shop} (h : ShopG s) (ac : Acyclic (partsOf s)) : ShopA s := ⟨h.ok, ac⟩
/-- wares of which each has only wares behind it in a row of names as parts -/
structure Chained (names : List Str) (ws : List Ware) (n : Nat) : Prop where
  nm : ws.map (·.nm) = names.take n
  len : ws.length = n
  ok : ∀ w ∈ ws, WareG w
  sub : ∀ (i : Nat) w, ws[i]? = some w → ∀ p ∈ w.parts, p.1 ∈ names.drop (i + 1)
theorem Chained.nil {names : List Str} : Chained names [] 0 := ⟨by simp, rfl, fun w hw => (by cases hw), fun i w hi => by simp at hi⟩
theorem Chained.snoc {names : List Str} {ws : List Ware} {n : Nat} {w : Ware} {z : Str} (h : Chained names ws n) (hz : names[n]? = some z) (hw : WareG w) (hn : w.nm = z) (hp : ∀ p ∈ w.parts, p.1 ∈ names.drop (n + 1)) : Chained names (ws ++ [w]) (n + 1) where
  nm := by rw [List.map_append, h.nm, take_one hz, ← hn]; rfl
  len := by rw [List.length_append, h.len]; rfl
  ok := fun v hv => by
    rcases List.mem_append.mp hv with hv | hv
    · exact h.ok v hv
    · cases List.mem_singleton.mp hv
      exact hw
  sub := fun i v hi => by
    by_cases hlt : i < ws.length
    · rw [List.getElem?_append_left hlt] at hi
      exact h.sub i v hi
    · have hi2 := (List.getElem?_eq_some_iff.mp hi).1
      rw [List.length_append] at hi2
      have hi3 : i = ws.length := by
        have : [w].length = 1 := rfl
        omega
      rw [hi3, List.getElem?_append_right (Nat.le_refl _), Nat.sub_self] at hi
      cases hi
      rw [hi3, h.len]
      exact hp
theorem idx_nodup {α : Type} [DecidableEq α] : ∀ {l : List α} (_ : l.Nodup) {i : Nat} {x : α}, l[i]? = some x → l.idxOf x = i
  | [], _, _, _, h => by simp at h
  | a :: r, nd, 0, x, h => by
    simp at h
    subst h
    simp
  | a :: r, nd, i + 1, x, h => by
    have h' : r[i]? = some x := by simpa using h
    rw [List.nodup_cons] at nd
    have hne : a ≠ x := fun z => nd.1 (by rw [z]; exact List.mem_of_getElem? h')
    have hb : (a == x) = false := beq_eq_false_iff_ne.mpr hne
    rw [List.idxOf_cons, hb, idx_nodup nd.2 h']
    rfl
theorem mem_drop_ix {α : Type} [DecidableEq α] {l : List α} (nd : l.Nodup) {i : Nat} {x y : α} (hx : l[i]? = some x) (hy : y ∈ l.drop (i + 1)) : l.idxOf x < l.idxOf y := by
  obtain ⟨j, hj, e⟩ := List.mem_iff_getElem.mp hy
  rw [List.getElem_drop] at e
  rw [List.length_drop] at hj
  have hil := (List.getElem?_eq_some_iff.mp hx)
  obtain ⟨hi, ex⟩ := hil
  have hl : i + 1 + j < l.length := by omega
  have h2 : l[i + 1 + j]? = some y := by rw [List.getElem?_eq_getElem hl, e]
  rw [idx_nodup nd hx, idx_nodup nd h2]
  omega
/-- turned about, they are a shop without a ring -/
theorem Chained.shop {names : List Str} {ws ws' : List Ware} {vs : List Want} (h : Chained names ws names.length) (nd : names.Nodup) (p : ws'.Perm ws) (lo : 1 ≤ names.length) (hi : names.length ≤ 12) (hv : WantsG names vs 20 400) : ShopG ⟨ws', vs⟩ ∧ Acyclic (partsOf ⟨ws', vs⟩) := by
  have hnm := h.nm
  rw [List.take_length] at hnm
  have hn : (Shop.mk ws' vs).names.Perm names := by
    unfold Shop.names
    have := p.map (fun w : Ware => w.nm)
    rw [hnm] at this
    exact this
  have hl : ws'.length = names.length := by
    rw [p.length_eq, h.len]
  have mem : ∀ w ∈ ws', w ∈ ws := fun w hw => p.mem_iff.mp hw
  have hsub : ∀ w ∈ ws, ∀ q ∈ w.parts, names.idxOf w.nm < names.idxOf q.1 ∧ q.1 ∈ names := fun w hw q hq => by
    obtain ⟨i, hi⟩ := List.getElem?_of_mem hw
    have h1 := h.sub i w hi q hq
    have h2 : names[i]? = some w.nm := by
      rw [← hnm, List.getElem?_map, hi]
      rfl
    exact ⟨mem_drop_ix nd h2 h1, List.mem_of_mem_drop h1⟩
  refine ⟨⟨by show 1 ≤ ws'.length; omega, by show ws'.length ≤ 12; omega, hn.nodup_iff.mpr nd, fun w hw => h.ok w (mem w hw), fun w hw q hq => hn.mem_iff.mpr (hsub w (mem w hw) q hq).2, ⟨hv.len, fun v hv' => ?_⟩⟩, ?_⟩
  · obtain ⟨h1, h2⟩ := hv.ok v hv'
    exact ⟨hn.mem_iff.mpr h1, h2⟩
  · refine ⟨fun x => names.length - names.idxOf x, fun x ps hx q hq => ?_⟩
    obtain ⟨w, hw, e⟩ := List.mem_map.mp hx
    cases e
    obtain ⟨r, hr, rfl⟩ := List.mem_map.mp hq
    obtain ⟨h1, h2⟩ := hsub w (mem w hw) r hr
    have := List.idxOf_lt_length_of_mem h2
    show names.length - names.idxOf r.1 < names.length - names.idxOf w.nm
    omega
/-- one of two, by a bit -/
theorem pickB {P : Int → Prop} {a b : Int} (c : Bool) (pa : P a) (pb : P b) : ∃ v, atI [D.int a, .int b] (if c then 1 else 0) = some (.int v) ∧ P v := by
  cases c
  · exact ⟨a, atI_nat (j := 0) rfl, pa⟩
  · exact ⟨b, atI_nat (j := 1) rfl, pb⟩
/-- one of some numbers -/
theorem pickL {P : Int → Prop} {l : List Int} {k : Int} (h0 : 0 ≤ k) (h1 : k < l.length) (h : ∀ x ∈ l, P x) : ∃ v, atI (l.map D.int) k = some (.int v) ∧ P v := by
  obtain ⟨k, rfl⟩ := Int.eq_ofNat_of_zero_le h0
  have hk : k < l.length := by omega
  exact ⟨l[k], atI_get D.int (List.getElem?_eq_getElem hk), h _ (List.getElem_mem hk)⟩
theorem atI_lt {α : Type} (f : α → D) {l : List α} {k : Int} (h0 : 0 ≤ k) (h1 : k < l.length) : ∃ (j : Nat) (x : α), k = j ∧ l[j]? = some x ∧ atI (l.map f) k = some (f x) := by
  obtain ⟨k, rfl⟩ := Int.eq_ofNat_of_zero_le h0
  have hk : k < l.length := by omega
  exact ⟨k, l[k], rfl, List.getElem?_eq_getElem hk, atI_get f (List.getElem?_eq_getElem hk)⟩
def abc : Str := "abcdefghijklmnopqrstuvwxyz"
theorem abc_at {k : Int} (h0 : 0 ≤ k) (h1 : k < 26) : atI abc.cps.toList k = some (97 + k.toNat) := by
  obtain ⟨k, rfl⟩ := Int.eq_ofNat_of_zero_le h0
  have hk : k < 26 := by omega
  have key : ∀ j : Fin 26, abc.cps.toList[j.val]? = some (97 + j.val) := by decide +kernel
  have := key ⟨k, hk⟩
  rw [Int.toNat_natCast]
  exact atI_nat this
/-- names whose last letters are a, b, c .. -/
structure Tailed (zs : List Str) : Prop where
  ok : ∀ z ∈ zs, NameOk z
  t : ∀ (i : Nat) z, zs[i]? = some z → z.cps.toList.getLast? = some (97 + i)
theorem Tailed.nodup {zs : List Str} (h : Tailed zs) : zs.Nodup := by
  refine List.pairwise_iff_getElem.mpr fun i j hi hj hij e => ?_
  have h1 := h.t i _ (List.getElem?_eq_getElem hi)
  have h2 := h.t j _ (List.getElem?_eq_getElem hj)
  rw [e, h2] at h1
  have : 97 + j = 97 + i := Option.some.inj h1
  omega
theorem Tailed.snoc {zs : List Str} (h : Tailed zs) {y : Str} (hl : y.cps.toList.length ≤ 7) (hy : ∀ c ∈ y.cps.toList, 97 ≤ c ∧ c ≤ 122) (hz : zs.length < 12) : Tailed (zs ++ [y ++ (⟨#[97 + zs.length]⟩ : Str)]) := by
  have e : (y ++ (⟨#[97 + zs.length]⟩ : Str)).cps.toList = y.cps.toList ++ [97 + zs.length] := str_app _ _
  refine ⟨fun z hz' => ?_, fun i z hi => ?_⟩
  · rcases List.mem_append.mp hz' with hz' | hz'
    · exact h.ok z hz'
    · cases List.mem_singleton.mp hz'
      refine ⟨by rw [e, List.length_append]; exact Nat.le_add_left 1 _, by rw [e, List.length_append]; show _ + 1 ≤ 8; omega, fun c hc => ?_⟩
      rw [e] at hc
      rcases List.mem_append.mp hc with hc | hc
      · exact hy c hc
      · cases List.mem_singleton.mp hc
        omega
  · by_cases hlt : i < zs.length
    · rw [List.getElem?_append_left hlt] at hi
      exact h.t i z hi
    · have hi2 := (List.getElem?_eq_some_iff.mp hi).1
      rw [List.length_append] at hi2
      have hi3 : i = zs.length := by
        have : [y ++ (⟨#[97 + zs.length]⟩ : Str)].length = 1 := rfl
        omega
      subst hi3
      rw [List.getElem?_append_right (Nat.le_refl _), Nat.sub_self] at hi
      cases hi
      rw [e, List.getLast?_append]
      rfl
theorem ShopG.strs {s : Shop} (h : ShopG s) : ∀ z ∈ s.names, PyData.strOk z = true := fun z hz => by
  obtain ⟨w, hw, rfl⟩ := List.mem_map.mp hz
  exact (h.ws w hw).nm.str
theorem not_take {α : Type} {l : List α} (nd : l.Nodup) {i : Nat} {x : α} (h : l[i]? = some x) : x ∉ l.take i := fun z => by
  obtain ⟨j, hj⟩ := List.getElem?_of_mem z
  rw [List.getElem?_take] at hj
  split at hj
  · have := (List.getElem?_inj (lt_of_get hj) nd).mp (hj.trans h.symm)
    omega
  · cases hj
theorem ware_named {s : Shop} {x : Str} (h : x ∈ s.names) : ∃ w ∈ s.ws, w.nm = x := by
  obtain ⟨w, hw, e⟩ := List.mem_map.mp h
  exact ⟨w, hw, e⟩
/-- the names in the worked order -/
def workedOf (s : Shop) : List Str := s.names.mergeSort fun a b => decide (levF (partsOf s) a ≤ levF (partsOf s) b)
theorem pair_sub {x y : Str} : ∀ {l : List Str}, x ∈ l → y ∈ l → l.idxOf x < l.idxOf y → [x, y].Sublist l
  | [], h, _, _ => by cases h
  | a :: r, hx, hy, hlt => by
    rw [List.idxOf_cons, List.idxOf_cons] at hlt
    by_cases ey : a = y
    · have hb : (a == y) = true := beq_iff_eq.mpr ey
      rw [hb] at hlt
      cases hlt
    · have hb : (a == y) = false := beq_eq_false_iff_ne.mpr ey
      have hyr := (List.mem_cons.mp hy).resolve_left fun q => ey q.symm
      rw [hb] at hlt
      by_cases ex : a = x
      · rw [ex]
        exact .cons_cons x (List.singleton_sublist.mpr hyr)
      · have hbx : (a == x) = false := beq_eq_false_iff_ne.mpr ex
        rw [hbx] at hlt
        have hlt' : r.idxOf x + 1 < r.idxOf y + 1 := hlt
        exact .cons a (pair_sub ((List.mem_cons.mp hx).resolve_left fun q => ex q.symm) hyr (by omega))
theorem sub_pair {x y : Str} : ∀ {l : List Str}, [x, y].Sublist l → l.Nodup → l.idxOf x < l.idxOf y
  | [], h, _ => by cases h
  | a :: r, h, nd => by
    rw [List.nodup_cons] at nd
    rw [List.idxOf_cons, List.idxOf_cons]
    cases h with
    | cons _ h =>
      have hx : x ∈ r := h.subset List.mem_cons_self
      have hy : y ∈ r := h.subset (List.mem_cons_of_mem _ List.mem_cons_self)
      have hbx : (a == x) = false := beq_eq_false_iff_ne.mpr fun z => nd.1 (z ▸ hx)
      have hby : (a == y) = false := beq_eq_false_iff_ne.mpr fun z => nd.1 (z ▸ hy)
      rw [hbx, hby]
      have := sub_pair h nd.2
      show r.idxOf x + 1 < r.idxOf y + 1
      omega
    | cons_cons _ h =>
      have hy : y ∈ r := h.subset List.mem_cons_self
      have hby : (x == y) = false := beq_eq_false_iff_ne.mpr fun z => nd.1 (z ▸ hy)
      rw [hby, beq_self_eq_true]
      exact Nat.succ_pos _
theorem lev_trans {f : Str → Int} (a b c : Str) (h : decide (f a ≤ f b) = true) (q : decide (f b ≤ f c) = true) : decide (f a ≤ f c) = true := decide_eq_true (Int.le_trans (of_decide_eq_true h) (of_decide_eq_true q))
theorem lev_total {f : Str → Int} (a b : Str) : (decide (f a ≤ f b) || decide (f b ≤ f a)) = true := by
  rw [Bool.or_eq_true, decide_eq_true_iff, decide_eq_true_iff]
  omega
theorem workedOf_perm (s : Shop) : (workedOf s).Perm s.names := List.mergeSort_perm _ _
theorem workedOf_mem {s : Shop} {x : Str} : x ∈ workedOf s ↔ x ∈ s.names := (workedOf_perm s).mem_iff
theorem workedOf_nodup {s : Shop} (h : s.names.Nodup) : (workedOf s).Nodup := (workedOf_perm s).nodup_iff.mpr h
/-- by levels, those of one level as they stand -/
theorem workedOf_lt {s : Shop} (nd : s.names.Nodup) {i j : Nat} {a b : Str} (hij : i < j) (ha : (workedOf s)[i]? = some a) (hb : (workedOf s)[j]? = some b) : levF (partsOf s) a < levF (partsOf s) b ∨ (levF (partsOf s) a = levF (partsOf s) b ∧ s.names.idxOf a < s.names.idxOf b) := by
  have pw : (workedOf s).Pairwise fun a b => decide (levF (partsOf s) a ≤ levF (partsOf s) b) = true := List.pairwise_mergeSort (le := fun a b => decide (levF (partsOf s) a ≤ levF (partsOf s) b)) lev_trans lev_total s.names
  obtain ⟨hi, ea⟩ := List.getElem?_eq_some_iff.mp ha
  obtain ⟨hj, eb⟩ := List.getElem?_eq_some_iff.mp hb
  have hle : levF (partsOf s) a ≤ levF (partsOf s) b := by
    have := List.pairwise_iff_getElem.mp pw i j hi hj hij
    rw [ea, eb] at this
    exact of_decide_eq_true this
  have wn := workedOf_nodup nd
  by_cases hlt : levF (partsOf s) a < levF (partsOf s) b
  · exact .inl hlt
  · refine .inr ⟨by omega, ?_⟩
    have ma : a ∈ s.names := workedOf_mem.mp (List.mem_of_getElem? ha)
    have mb : b ∈ s.names := workedOf_mem.mp (List.mem_of_getElem? hb)
    have hia := idx_nodup wn ha
    have hjb := idx_nodup wn hb
    have hne : a ≠ b := fun z => by
      rw [z, hjb] at hia
      omega
    rcases Nat.lt_trichotomy (s.names.idxOf a) (s.names.idxOf b) with q | q | q
    · exact q
    · refine absurd ?_ hne
      have h1 := (idx_get ma).1
      have h2 := (idx_get mb).1
      rw [q, h2] at h1
      exact (Option.some.inj h1).symm
    · have hs := List.pair_sublist_mergeSort (le := fun a b => decide (levF (partsOf s) a ≤ levF (partsOf s) b)) lev_trans lev_total (a := b) (b := a) (decide_eq_true (by omega)) (pair_sub mb ma q)
      have hsp : [b, a].Sublist (workedOf s) := hs
      have := sub_pair hsp wn
      rw [hia, hjb] at this
      omega
/-- the greatest, nought of none -/
def IsMax0 (l : List Int) (m : Int) : Prop := (l = [] ∧ m = 0) ∨ (m ∈ l ∧ ∀ y ∈ l, y ≤ m)
theorem IsMax0.uniq {l : List Int} {m n : Int} (h : IsMax0 l m) (q : IsMax0 l n) : m = n := by
  rcases h with ⟨h1, h2⟩ | ⟨h1, h2⟩ <;> rcases q with ⟨q1, q2⟩ | ⟨q1, q2⟩
  · omega
  · rw [h1] at q1
    cases q1
  · rw [q1] at h1
    cases h1
  · have := h2 n q1
    have := q2 m h1
    omega
/-- the days that wares take with all that they are made of, those of the names l -/
def TimesTo (s : Shop) (l : List Str) (f : Str → Int) : Prop := ∀ w ∈ s.ws, w.nm ∈ l → ∃ m, IsMax0 (w.parts.map fun p => f p.1) m ∧ f w.nm = w.lag + m
/-- behind in the worked order stand the parts -/
theorem parts_behind {s : Shop} (hA : ShopA s) {i : Nat} {w : Ware} (hw : w ∈ s.ws) (hi : (workedOf s)[i]? = some w.nm) {p : Str × Int} (hp : p ∈ w.parts) : ∃ j, i < j ∧ (workedOf s)[j]? = some p.1 := by
  have hl := (levels_ok hA.ac).up w.nm (w.parts.map (·.1)) (List.mem_map.mpr ⟨w, hw, rfl⟩) p.1 (List.mem_map_of_mem (f := (·.1)) hp)
  obtain ⟨j, hj⟩ := List.getElem?_of_mem (workedOf_mem.mpr (hA.ok.sub w hw p hp))
  refine ⟨j, ?_, hj⟩
  rcases Nat.lt_trichotomy i j with q | q | q
  · exact q
  · subst q
    rw [hi] at hj
    have e := Option.some.inj hj
    rw [e] at hl
    omega
  · rcases workedOf_lt hA.ok.nd q hj hi with h | ⟨h, _⟩ <;> omega
theorem parts_ahead {s : Shop} (hA : ShopA s) {i : Nat} {w : Ware} (hw : w ∈ s.ws) (hi : (workedOf s).reverse[i]? = some w.nm) {p : Str × Int} (hp : p ∈ w.parts) : p.1 ∈ (workedOf s).reverse.take i := by
  have hlt := lt_of_get hi
  rw [List.length_reverse] at hlt
  rw [List.getElem?_reverse hlt] at hi
  obtain ⟨j, hj, hj2⟩ := parts_behind hA hw hi hp
  have hjl := lt_of_get hj2
  have h3 : (workedOf s).reverse[(workedOf s).length - 1 - j]? = some p.1 := by
    rw [List.getElem?_reverse (by omega)]
    have : (workedOf s).length - 1 - ((workedOf s).length - 1 - j) = j := by omega
    rw [this]
    exact hj2
  refine List.mem_of_getElem? (i := (workedOf s).length - 1 - j) ?_
  rw [List.getElem?_take, if_pos (by omega)]
  exact h3
theorem TimesTo.snoc {s : Shop} (hA : ShopA s) {i : Nat} {w : Ware} {f : Str → Int} {m : Int} (h : TimesTo s ((workedOf s).reverse.take i) f) (hw : w ∈ s.ws) (hi : (workedOf s).reverse[i]? = some w.nm) (hm : IsMax0 (w.parts.map fun p => f p.1) m) :
    TimesTo s ((workedOf s).reverse.take (i + 1)) (fun y => if y = w.nm then w.lag + m else f y) := by
  have nd : (workedOf s).reverse.Nodup := (List.reverse_perm _).nodup_iff.mpr (workedOf_nodup hA.ok.nd)
  have hnew := not_take nd hi
  have same : ∀ v ∈ s.ws, ∀ j, j ≤ i → (workedOf s).reverse[j]? = some v.nm → (v.parts.map fun p => if p.1 = w.nm then w.lag + m else f p.1) = v.parts.map fun p => f p.1 := fun v hv j hj hjv => List.map_congr_left fun p hp => by
    have h1 := parts_ahead hA hv hjv hp
    have h2 : p.1 ∈ (workedOf s).reverse.take i := (List.take_subset_take_left _ hj) h1
    rw [if_neg fun z => hnew (by rw [← z]; exact h2)]
  intro v hv hvl
  by_cases e : v.nm = w.nm
  · have := ware_uniq hA.ok.nd hv hw e
    subst this
    dsimp only
    rw [if_pos rfl, same v hv i (Nat.le_refl _) hi]
    exact ⟨m, hm, rfl⟩
  · dsimp only
    rw [if_neg e]
    rw [take_one hi] at hvl
    have hvl2 : v.nm ∈ (workedOf s).reverse.take i := by
      rcases List.mem_append.mp hvl with q | q
      · exact q
      · exact absurd (List.mem_singleton.mp q) e
    obtain ⟨j, hj⟩ := List.getElem?_of_mem hvl2
    rw [List.getElem?_take] at hj
    split at hj
    · rw [same v hv j (by omega) hj]
      exact h v hv hvl2
    · cases hj
end N
namespace N
open PySem L2 VL
def bareC (w : Ware) : Ware := ⟨w.nm, w.lag, w.gives, w.floor, w.stock, [], w.parts⟩
/-- what was drawn, filled with what is on the way -/
structure Filled (us ws : List Ware) : Prop where
  eq : us.map bareC = ws.map bareC
  com : ∀ w ∈ us, GoodP w.com
theorem Filled.len {us ws : List Ware} (h : Filled us ws) : us.length = ws.length := by
  have := congrArg List.length h.eq
  rwa [List.length_map, List.length_map] at this
theorem Filled.get {us ws : List Ware} (h : Filled us ws) {w : Ware} (hw : w ∈ us) : ∃ v ∈ ws, bareC w = bareC v := by
  have : bareC w ∈ ws.map bareC := h.eq ▸ List.mem_map_of_mem hw
  obtain ⟨v, hv, e⟩ := List.mem_map.mp this
  exact ⟨v, hv, e.symm⟩
theorem Filled.names {us ws : List Ware} (h : Filled us ws) : us.map (·.nm) = ws.map (·.nm) := by
  have := congrArg (List.map fun w : Ware => w.nm) h.eq
  rw [List.map_map, List.map_map] at this
  exact this
theorem Filled.parts {us ws : List Ware} (h : Filled us ws) (vs vs' : List Want) : partsOf ⟨us, vs⟩ = partsOf ⟨ws, vs'⟩ := by
  have := congrArg (List.map fun w : Ware => (w.nm, w.parts.map fun p : Str × Int => p.1)) h.eq
  rw [List.map_map, List.map_map] at this
  exact this
theorem Filled.shop {us ws : List Ware} {vs : List Want} (h : Filled us ws) (g : ShopG ⟨ws, []⟩) (ac : Acyclic (partsOf ⟨ws, []⟩)) (hv : WantsG (Shop.mk ws []).names vs 20 400) : ShopG ⟨us, vs⟩ ∧ Acyclic (partsOf ⟨us, vs⟩) := by
  have hn : (Shop.mk us vs).names = (Shop.mk ws []).names := h.names
  have hl := h.len
  refine ⟨⟨?_, ?_, ?_, fun w hw => ?_, fun w hw p hp => ?_, ⟨hv.len, fun v q => ?_⟩⟩, ?_⟩
  · show 1 ≤ us.length
    rw [hl]
    exact g.lo
  · show us.length ≤ 12
    rw [hl]
    exact g.hi
  · rw [hn]
    exact g.nd
  · obtain ⟨v, hvm, e⟩ := h.get hw
    have gv := g.ws v hvm
    have hc := h.com w hw
    cases w with
    | mk nm lag gives floor stock com parts =>
    cases v with
    | mk nm' lag' gives' floor' stock' com' parts' =>
    unfold bareC at e
    cases e
    exact ⟨gv.nm, gv.lag, gv.gives, gv.floor, gv.stock, hc.1, hc.2, gv.pl, gv.pn, gv.parts⟩
  · obtain ⟨v, hvm, e⟩ := h.get hw
    rw [hn]
    refine g.sub v hvm p ?_
    have : (bareC w).parts = (bareC v).parts := congrArg Ware.parts e
    have e2 : w.parts = v.parts := this
    rw [← e2]
    exact hp
  · rw [hn]
    exact hv.ok v q
  · rw [h.parts vs []]
    exact ac
def turnAt {α : Type} (k : Nat) (l : List α) : List α := l.drop k ++ l.take k
theorem turnAt_perm {α : Type} (k : Nat) (l : List α) : (turnAt k l).Perm l := by
  unfold turnAt
  exact List.perm_append_comm.trans (by rw [List.take_append_drop])
end N
namespace N
open PySem L2 VL
theorem Filled.lag {us ws : List Ware} (h : Filled us ws) {k : Int} (hk : ∀ w ∈ ws, w.lag ≤ k) : ∀ w ∈ us, w.lag ≤ k := fun w hw => by
  obtain ⟨v, hv, e⟩ := h.get hw
  have e2 : (bareC w).lag = (bareC v).lag := congrArg Ware.lag e
  have e2 : w.lag = v.lag := e2
  rw [e2]
  exact hk v hv
end N
namespace N
open PySem L2 VL
/-- the least lots, day by day -/
def llGo (g f : Int) : Int → List (Int × Int) → List Int
  | _, [] => []
  | l, (t, n) :: r => (max l (-((t - n - f) / g)) - l) :: llGo g f (max l (-((t - n - f) / g))) r
def leastLots (have_ need : List Int) (g f : Int) : List Int := llGo g f 0 ((soFar 0 have_).zip (soFar 0 need))
/-- how many lots have come behind the days -/
def llAt (g f : Int) : Int → List (Int × Int) → Int
  | l, [] => l
  | l, (t, n) :: r => llAt g f (max l (-((t - n - f) / g))) r
theorem llAt_app (g f : Int) : ∀ (l : Int) (xs : List (Int × Int)) (t n : Int), llAt g f l (xs ++ [(t, n)]) = max (llAt g f l xs) (-((t - n - f) / g))
  | _, [], _, _ => rfl
  | l, (a, b) :: r, t, n => llAt_app g f _ r t n
theorem llGo_app (g f : Int) : ∀ (l : Int) (xs : List (Int × Int)) (t n : Int), llGo g f l (xs ++ [(t, n)]) = llGo g f l xs ++ [max (llAt g f l xs) (-((t - n - f) / g)) - llAt g f l xs]
  | _, [], _, _ => rfl
  | l, (a, b) :: r, t, n => by
    show _ :: llGo g f _ (r ++ [(t, n)]) = _ :: (llGo g f _ r ++ _)
    rw [llGo_app g f _ r t n]
    rfl
theorem llGo_len (g f : Int) : ∀ (l : Int) (xs : List (Int × Int)), (llGo g f l xs).length = xs.length
  | _, [] => rfl
  | _, (_, _) :: r => congrArg (· + 1) (llGo_len g f _ r)
theorem llGo_sum (g f : Int) : ∀ (l : Int) (xs : List (Int × Int)), l + (llGo g f l xs).sum = llAt g f l xs
  | l, [] => by simp [llGo, llAt]
  | l, (t, n) :: r => by
    have ih := llGo_sum g f (max l (-((t - n - f) / g))) r
    show l + ((max l (-((t - n - f) / g)) - l) :: llGo g f _ r).sum = llAt g f (max l (-((t - n - f) / g))) r
    rw [← ih, List.sum_cons]
    omega
theorem llGo_nn (g f : Int) : ∀ (l : Int) (xs : List (Int × Int)), ∀ x ∈ llGo g f l xs, 0 ≤ x
  | _, [], x, h => by cases h
  | l, (t, n) :: r, x, h => by
    rcases List.mem_cons.mp h with rfl | h
    · omega
    · exact llGo_nn g f _ r x h
theorem llGo_take (g f : Int) : ∀ (l : Int) (xs : List (Int × Int)) (i : Nat), (llGo g f l xs).take i = llGo g f l (xs.take i)
  | _, [], i => by cases i <;> rfl
  | _, (_, _) :: _, 0 => rfl
  | l, (t, n) :: r, i + 1 => by
    show _ :: (llGo g f _ r).take i = _ :: llGo g f _ (r.take i)
    rw [llGo_take g f _ r i]
theorem leastLots_len (a b : List Int) (g f : Int) : (leastLots a b g f).length = min a.length b.length := by
  unfold leastLots
  rw [llGo_len, List.length_zip, soFar_len, soFar_len]
theorem zip_get {α β : Type} {l : List α} {m : List β} {i : Nat} {a : α} {b : β} (h1 : l[i]? = some a) (h2 : m[i]? = some b) : (l.zip m)[i]? = some (a, b) := List.getElem?_zip_eq_some.mpr ⟨h1, h2⟩
end N
namespace N
open PySem L2 VL
theorem soFar_get : ∀ (t : Int) (l : List Int) (k : Nat) (x : Int), l[k]? = some x → (soFar t l)[k]? = some (t + (l.take (k + 1)).sum)
  | _, [], _, _, h => by simp at h
  | t, y :: r, 0, x, h => by simp [soFar]
  | t, y :: r, k + 1, x, h => by
    have h' : r[k]? = some x := by simpa using h
    have ih := soFar_get (t + y) r k x h'
    show (soFar (t + y) r)[k]? = _
    rw [ih, List.take_succ_cons, List.sum_cons]
    congr 1
    omega
theorem ceil_ok {g z : Int} (hg : 0 < g) : z ≤ (-((-z) / g)) * g ∧ (-((-z) / g)) * g < z + g := by
  have h1 := Int.mul_ediv_self_le (x := -z) (k := g) (by omega)
  have h2 := Int.lt_mul_ediv_self_add (x := -z) (k := g) hg
  have e : (-((-z) / g)) * g = -(g * ((-z) / g)) := by rw [Int.neg_mul, Int.mul_comm]
  rw [e]
  omega
/-- what is left at the end of day i -/
def leftAt (a b : List Int) (g : Int) (l : List Int) (i : Nat) : Int := (a.take (i + 1)).sum - (b.take (i + 1)).sum + (l.take (i + 1)).sum * g
theorem least_right {a b : List Int} {g f : Int} (hg : 0 < g) {i : Nat} {x p q : Int} (hx : (leastLots a b g f)[i]? = some x) (hp : a[i]? = some p) (hq : b[i]? = some q) :
    0 ≤ x ∧ f ≤ leftAt a b g (leastLots a b g f) i ∧ (0 < x → leftAt a b g (leastLots a b g f) i - g < f) := by
  have ht := soFar_get 0 a i p hp
  have hn := soFar_get 0 b i q hq
  have hz := zip_get ht hn
  have e1 : (leastLots a b g f).take (i + 1) = llGo g f 0 (((soFar 0 a).zip (soFar 0 b)).take (i + 1)) := llGo_take _ _ _ _ _
  have e2 := llGo_sum g f 0 (((soFar 0 a).zip (soFar 0 b)).take (i + 1))
  have e0 : (leastLots a b g f).take i = llGo g f 0 (((soFar 0 a).zip (soFar 0 b)).take i) := llGo_take _ _ _ _ _
  rw [take_one hz, llAt_app] at e2
  rw [take_one hz] at e1
  have e3 : x = max (llAt g f 0 (((soFar 0 a).zip (soFar 0 b)).take i)) (-((0 + (a.take (i + 1)).sum - (0 + (b.take (i + 1)).sum) - f) / g)) - llAt g f 0 (((soFar 0 a).zip (soFar 0 b)).take i) := by
    rw [take_one hx, llGo_app, e0] at e1
    simpa using e1
  have ex : 0 ≤ x := llGo_nn g f 0 _ x (List.mem_of_getElem? hx)
  unfold leftAt
  rw [e1]
  generalize hS : (llGo g f 0 (((soFar 0 a).zip (soFar 0 b)).take i ++ [(0 + (a.take (i + 1)).sum, 0 + (b.take (i + 1)).sum)])).sum = S at e2
  generalize hL : llAt g f 0 (((soFar 0 a).zip (soFar 0 b)).take i) = Lp at e2 e3
  generalize hA : (a.take (i + 1)).sum = A at e2 e3
  generalize hB : (b.take (i + 1)).sum = C at e2 e3
  have ec := ceil_ok (g := g) (z := f - (A - C)) hg
  have ez : -(f - (A - C)) = 0 + A - (0 + C) - f := by omega
  rw [ez] at ec
  generalize hq' : -((0 + A - (0 + C) - f) / g) = qq at ec e2 e3
  refine ⟨ex, ?_, fun hx0 => ?_⟩
  · have : qq * g ≤ S * g := Int.mul_le_mul_of_nonneg_right (by omega) (by omega)
    omega
  · have : S = qq := by omega
    rw [this]
    omega
theorem log_lt {x : Int} {n : Nat} (h0 : 0 ≤ x) (h : x < 2 ^ n) (hn : 0 < n) : x.natAbs.log2 < n := by
  by_cases e : x.natAbs = 0
  · rw [e]
    simpa using hn
  · rw [Nat.log2_lt e]
    have : ((x.natAbs : Nat) : Int) < ((2 ^ n : Nat) : Int) := by
      rw [Int.natAbs_of_nonneg h0]
      simpa using h
    exact Int.ofNat_lt.mp this
end N
namespace N
open PySem L2 VL TL
def figB (c : Nat) : Bool := decide (48 ≤ c) && decide (c ≤ 57)
/-- one to sixty figures, no nought ahead -/
def numB (z : Str) : Bool := decide (1 ≤ z.length) && (decide (z.length ≤ 60) && (z.cps.toList.all figB && (decide (z = "0") || !decide (z.cps.toList.head? = some 48))))
theorem numB_iff {z : Str} : numB z = true ↔ 1 ≤ z.length ∧ z.length ≤ 60 ∧ (z.cps.toList.all figB) = true ∧ (z = "0" ∨ z.cps.toList.head? ≠ some 48) := by
  unfold numB
  simp [Bool.and_eq_true]
theorem slen (z : Str) : z.length = z.cps.toList.length := Array.length_toList.symm
theorem fig_iff {c : Nat} : figB c = true ↔ 48 ≤ c ∧ c ≤ 57 := by
  unfold figB
  simp [Bool.and_eq_true]
theorem numB_val {z : Str} (h : numB z = true) : ∃ n, PySem.intText? z = some n := by
  obtain ⟨h1, h2, h3, _⟩ := numB_iff.mp h
  have hl := slen z
  exact ⟨_, PySem.intText_digits (fun c hc => fig_iff.mp (List.all_eq_true.mp h3 c hc)) (fun e => by rw [e] at hl; simp at hl; omega) (by omega)⟩
theorem figs_mem {c : Nat} : decide (c ∈ ("0123456789" : Str).cps.toList) = figB c := by
  have e : ("0123456789" : Str).cps.toList = [48, 49, 50, 51, 52, 53, 54, 55, 56, 57] := by decide +kernel
  rw [e]
  refine Bool.eq_iff_iff.mpr ?_
  rw [decide_eq_true_iff, fig_iff]
  simp only [List.mem_cons, List.not_mem_nil, or_false]
  omega
theorem numL_head : ∀ n : Nat, 0 < n → ∀ r, numL n ≠ 48 :: r := fun n => by
  induction n using Nat.strongRecOn with
  | ind n ih =>
    intro hn r e
    by_cases h : n < 10
    · rw [numL_lt h] at e
      have := (List.cons.inj e).1
      omega
    · rw [numL_step (by omega)] at e
      cases hd : numL (n / 10) with
      | nil => exact numL_ne _ hd
      | cons c s =>
        rw [hd, List.cons_append] at e
        have hc := (List.cons.inj e).1
        subst hc
        exact ih (n / 10) (by omega) (by omega) s hd
theorem num_text {n : Int} (h0 : 0 ≤ n) (h1 : n < 10 ^ 60) : numB (Str.ofString (toString n)) = true ∧ PySem.intText? (Str.ofString (toString n)) = some n ∧ (Str.ofString (toString n)).length ≤ 60 ∧ ∀ c ∈ (Str.ofString (toString n)).cps.toList, 48 ≤ c ∧ c ≤ 57 := by
  obtain ⟨m, rfl⟩ := Int.eq_ofNat_of_zero_le h0
  have hm : m < 10 ^ 60 := by
    have : ((m : Nat) : Int) < ((10 ^ 60 : Nat) : Int) := by exact h1
    exact Int.ofNat_lt.mp this
  have hl := numL_len (n := m) (k := 60) (by decide) hm
  have et : (Str.ofString (toString ((m : Nat) : Int))).cps.toList = numL m := tl_num m
  have el : (Str.ofString (toString ((m : Nat) : Int))).length = (numL m).length := by rw [slen, et]
  have hne := numL_ne m
  have hdig := numL_digits m
  refine ⟨numB_iff.mpr ⟨?_, by omega, ?_, ?_⟩, int_num (by omega), by omega, fun c hc => hdig c (by rw [← et]; exact hc)⟩
  · have := List.length_pos_iff.mpr hne
    omega
  · rw [et]
    exact List.all_eq_true.mpr fun c hc => fig_iff.mpr (hdig c hc)
  · by_cases q : m = 0
    · subst q
      exact .inl rfl
    · refine .inr fun e => ?_
      rw [et] at e
      cases hd : numL m with
      | nil => exact hne hd
      | cons c s =>
        rw [hd] at e
        cases e
        exact numL_head m (by omega) s hd
theorem starts0 {z : Str} : Txt.startswith z "0" = decide (z.cps.toList.head? = some 48) := by
  obtain ⟨⟨l⟩⟩ := z
  show (decide (0 + 1 ≤ l.length) && (Array.extract ⟨l⟩ 0 (0 + 1) == (#[48] : Array Nat))) = decide (l.head? = some 48)
  cases l with
  | nil => rfl
  | cons c r =>
    have e : (Array.extract ⟨c :: r⟩ 0 (0 + 1) : Array Nat) = #[c] := by simp
    rw [e]
    by_cases q : c = 48
    · subst q
      simp
    · have h1 : (#[c] == (#[48] : Array Nat)) = false := by simp [q]
      rw [h1, Bool.and_false]
      exact (decide_eq_false (by simp [q])).symm
theorem mulW {i j : Int} (h0 : 0 ≤ i) (h1 : i < 2 ^ 1000) (g0 : 0 ≤ j) (g1 : j < 2 ^ 1000) : CMulW i j := by
  have a := log_lt h0 h1 (by decide)
  have b := log_lt g0 g1 (by decide)
  show _ + _ < _
  omega
abbrev bigP : Int := 2305843009213693951
end N
namespace N
open PySem L2 VL
def sfx12 : Str := "bcdfghjklmnp"
def sfxL : List Nat := [98, 99, 100, 102, 103, 104, 106, 107, 108, 109, 110, 112]
theorem sfx_at {k : Nat} (h : k < 12) : ∃ c, atI sfx12.cps.toList (k : Int) = some c ∧ sfxL[k]? = some c ∧ 97 ≤ c ∧ c ≤ 122 := by
  have key : ∀ j : Fin 12, ∃ c, sfx12.cps.toList[j.val]? = some c ∧ sfxL[j.val]? = some c ∧ 97 ≤ c ∧ c ≤ 122 := by decide +kernel
  obtain ⟨c, h1, h2, h3⟩ := key ⟨k, h⟩
  exact ⟨c, atI_nat h1, h2, h3⟩
/-- the names' last signs are unlike -/
structure Sfx (zs : List Str) : Prop where
  ok : ∀ z ∈ zs, NameOk z
  t : ∀ (i : Nat) z, zs[i]? = some z → z.cps.toList.getLast? = sfxL[i]?
theorem Sfx.nodup {zs : List Str} (h : Sfx zs) (hl : zs.length ≤ 12) : zs.Nodup := by
  have nd : sfxL.Nodup := by decide
  refine List.pairwise_iff_getElem.mpr fun i j hi hj hij e => ?_
  have h1 := h.t i _ (List.getElem?_eq_getElem hi)
  have h2 := h.t j _ (List.getElem?_eq_getElem hj)
  rw [e, h2] at h1
  have hi12 : i < sfxL.length := by show i < 12; omega
  have hj12 : j < sfxL.length := by show j < 12; omega
  have := (List.getElem?_inj hj12 nd).mp h1
  omega
theorem Sfx.nil : Sfx [] := ⟨fun z hz => (by cases hz), fun i z hi => by rw [List.getElem?_nil] at hi; cases hi⟩
theorem Sfx.snoc {zs : List Str} (h : Sfx zs) {y : Str} {c a : Nat} {n : Nat} (hy : y.cps.toList = List.replicate n a) (hn : n ≤ 7) (ha : 97 ≤ a ∧ a ≤ 122) (hc : sfxL[zs.length]? = some c) (hc2 : 97 ≤ c ∧ c ≤ 122) : Sfx (zs ++ [y ++ (⟨#[c]⟩ : Str)]) := by
  have e : (y ++ (⟨#[c]⟩ : Str)).cps.toList = List.replicate n a ++ [c] := by rw [str_app, hy]
  refine ⟨fun z hz' => ?_, fun i z hi => ?_⟩
  · rcases List.mem_append.mp hz' with hz' | hz'
    · exact h.ok z hz'
    · cases List.mem_singleton.mp hz'
      refine ⟨by rw [e, List.length_append]; exact Nat.le_add_left 1 _, by rw [e, List.length_append, List.length_replicate]; show n + 1 ≤ 8; omega, fun x hx => ?_⟩
      rw [e] at hx
      rcases List.mem_append.mp hx with hx | hx
      · rw [List.eq_of_mem_replicate hx]
        exact ha
      · cases List.mem_singleton.mp hx
        exact hc2
  · by_cases hlt : i < zs.length
    · rw [List.getElem?_append_left hlt] at hi
      exact h.t i z hi
    · have hi2 := (List.getElem?_eq_some_iff.mp hi).1
      rw [List.length_append] at hi2
      have hi3 : i = zs.length := by
        have : [y ++ (⟨#[c]⟩ : Str)].length = 1 := rfl
        omega
      subst hi3
      rw [List.getElem?_append_right (Nat.le_refl _), Nat.sub_self] at hi
      cases hi
      rw [e, List.getLast?_append, hc]
      rfl
end N
namespace N
open PySem L2 VL
/-- a whole number from a least one on -/
def isWhole (d : D) (k : Int) : Bool := match d with
  | .int i => decide (k ≤ i)
  | _ => false
def isDay (d : D) : Bool := match d with
  | .int i => decide (0 ≤ i) && decide (i ≤ 400)
  | _ => false
/-- data as the laws hand in -/
def D.isDat : D → Bool
  | .non => true
  | .bl _ => true
  | .int _ => true
  | .str _ => true
  | .tup _ => true
  | .lst _ => true
  | .dct _ => true
  | _ => false
inductive Any : D → Prop
  | non : Any .non
  | bl (b : Bool) : Any (.bl b)
  | int (i : Int) : Any (.int i)
  | str {z : Str} : z.length ≤ 1000 → Any (.str z)
  | tup {ds : List D} : ds.length ≤ 1000 → (∀ d ∈ ds, Any d) → Any (.tup ds)
  | lst (ds : List D) : Any (.lst ds)
  | dct (kvs : List (Key × D)) : Any (.dct kvs)
theorem Any.dat {d : D} (h : Any d) : D.isDat d = true := by cases h <;> rfl
def abcB (c : Nat) : Bool := decide (97 ≤ c) && decide (c ≤ 122)
def nameB : D → Bool
  | .str z => decide (1 ≤ z.length) && (decide (z.length ≤ 8) && z.cps.toList.all abcB)
  | _ => false
def comingB : D → Bool
  | .tup [a, b] => isDay a && isWhole b 0
  | _ => false
def partB : D → Bool
  | .tup [a, b] => nameB a && isWhole b 1
  | _ => false
def allB (p : D → Bool) (most : Int) : D → Bool
  | .tup ds => decide ((ds.length : Int) ≤ most) && ds.all p
  | _ => false
/-- the name at the head of a row -/
def headS : D → Str
  | .tup (.str z :: _) => z
  | _ => ""
def unlikeB : D → Bool
  | .tup ds => decide (ds.map headS).Nodup
  | _ => false
def topW (most : Int) : D → Bool
  | .int i => decide (i ≤ most)
  | _ => false
def wareB : D → Bool
  | .tup [nm, lag, gives, fl, st, com, parts] => nameB nm && (isWhole lag 0 && (topW 30 lag && (isWhole gives 1 && (isWhole fl 0 && (isWhole st 0 && (allB comingB 12 com && (allB partB 6 parts && unlikeB parts)))))))
  | _ => false
theorem abc_mem {c : Nat} : decide (c ∈ ("abcdefghijklmnopqrstuvwxyz" : Str).cps.toList) = abcB c := by
  have e : ("abcdefghijklmnopqrstuvwxyz" : Str).cps.toList = [97, 98, 99, 100, 101, 102, 103, 104, 105, 106, 107, 108, 109, 110, 111, 112, 113, 114, 115, 116, 117, 118, 119, 120, 121, 122] := by decide +kernel
  rw [e]
  unfold abcB
  refine Bool.eq_iff_iff.mpr ?_
  rw [decide_eq_true_iff, Bool.and_eq_true, decide_eq_true_iff, decide_eq_true_iff]
  simp only [List.mem_cons, List.not_mem_nil, or_false]
  omega
end N
namespace N
open PySem L2 VL
theorem nameB_ok {z : Str} (h : NameOk z) : nameB (.str z) = true := by
  show (decide (1 ≤ z.length) && (decide (z.length ≤ 8) && z.cps.toList.all abcB)) = true
  have l := slen z
  have h1 := h.lo
  have h2 := h.hi
  have h3 : z.cps.toList.all abcB = true := List.all_eq_true.mpr fun c hc => by
    have := h.ab c hc
    unfold abcB
    rw [decide_eq_true this.1, decide_eq_true this.2]
    rfl
  rw [h3, decide_eq_true (by omega), decide_eq_true (by omega)]
  rfl
theorem isWhole_ok {n k : Int} (h : k ≤ n) : isWhole (.int n) k = true := decide_eq_true h
theorem comingB_ok {p : Int × Int} (h : (0 ≤ p.1 ∧ p.1 ≤ 400) ∧ Amt p.2) : comingB (pairD p) = true := by
  show ((decide (0 ≤ p.1) && decide (p.1 ≤ 400)) && decide (0 ≤ p.2)) = true
  rw [decide_eq_true h.1.1, decide_eq_true h.1.2, decide_eq_true h.2.1]
  rfl
theorem partB_ok {p : Str × Int} (h : NameOk p.1) (h1 : 1 ≤ p.2) : partB (partD p) = true := by
  show (nameB (.str p.1) && isWhole (.int p.2) 1) = true
  rw [nameB_ok h, isWhole_ok h1]
  rfl
theorem allB_ok {α : Type} {f : α → D} {p : D → Bool} {most : Int} {l : List α} (hl : (l.length : Int) ≤ most) (h : ∀ x ∈ l, p (f x) = true) : allB p most (.tup (l.map f)) = true := by
  show (decide (((l.map f).length : Int) ≤ most) && (l.map f).all p) = true
  rw [List.length_map, decide_eq_true hl, Bool.true_and, List.all_eq_true]
  intro d hd
  obtain ⟨x, hx, rfl⟩ := List.mem_map.mp hd
  exact h x hx
theorem heads_parts : ∀ ps : List (Str × Int), (ps.map partD).map headS = ps.map (·.1)
  | [] => rfl
  | p :: r => by
    rw [List.map_cons, List.map_cons, List.map_cons, heads_parts r]
    rfl
theorem unlikeB_parts (ps : List (Str × Int)) : unlikeB (.tup (ps.map partD)) = decide (ps.map (·.1)).Nodup := by
  show decide ((ps.map partD).map headS).Nodup = _
  rw [heads_parts]
theorem wareB_ok {w : Ware} (h : WareG w) (hp : ∀ p ∈ w.parts, NameOk p.1) : wareB (wareD w) = true := by
  show (nameB (.str w.nm) && (isWhole (.int w.lag) 0 && (topW 30 (.int w.lag) && (isWhole (.int w.gives) 1 && (isWhole (.int w.floor) 0 && (isWhole (.int w.stock) 0 && (allB comingB 12 (.tup (w.com.map pairD)) && (allB partB 6 (.tup (w.parts.map partD)) && unlikeB (.tup (w.parts.map partD)))))))))) = true
  have hc := h.cl
  have hpl := h.pl
  rw [nameB_ok h.nm, isWhole_ok h.lag.1, show topW 30 (.int w.lag) = true from decide_eq_true h.lag.2, isWhole_ok h.gives.1, isWhole_ok h.floor.1, isWhole_ok h.stock.1, allB_ok (by omega) (fun p q => comingB_ok (h.com p q)), allB_ok (by omega) (fun p q => partB_ok (hp p q) (h.parts p q).1), unlikeB_parts, decide_eq_true h.pn]
  rfl
theorem any_name {z : Str} (h : NameOk z) : Any (.str z) := .str (by have := h.hi; have := slen z; omega)
theorem any2 {y z : D} (hy : Any y) (hz : Any z) : Any (.tup [y, z]) := .tup (by show 2 ≤ 1000; decide) (fun d hd => by
  rcases List.mem_cons.mp hd with rfl | hd
  · exact hy
  · rw [List.mem_singleton.mp hd]
    exact hz)
inductive AllA : List D → Prop
  | nil : AllA []
  | cons {d : D} {ds : List D} : Any d → AllA ds → AllA (d :: ds)
theorem AllA.mem : ∀ {ds : List D}, AllA ds → ∀ d ∈ ds, Any d
  | _, .nil, d, h => by cases h
  | _, .cons h r, d, q => by
    rcases List.mem_cons.mp q with rfl | q
    · exact h
    · exact r.mem d q
section
variable {a b c d e f g : D}
theorem wareB_eq : wareB (.tup [a, b, c, d, e, f, g]) = (nameB a && (isWhole b 0 && (topW 30 b && (isWhole c 1 && (isWhole d 0 && (isWhole e 0 && (allB comingB 12 f && (allB partB 6 g && unlikeB g)))))))) := rfl
theorem bad_lag (h : (isWhole b 0 && topW 30 b) = false) : wareB (.tup [a, b, c, d, e, f, g]) = false := by
  rw [wareB_eq, ← Bool.and_assoc (isWhole b 0), h]; simp
theorem bad_gives (h : isWhole c 1 = false) : wareB (.tup [a, b, c, d, e, f, g]) = false := by
  rw [wareB_eq, h]; simp
theorem bad_com (h : allB comingB 12 f = false) : wareB (.tup [a, b, c, d, e, f, g]) = false := by
  rw [wareB_eq, h]; simp
theorem bad_parts (h : allB partB 6 g = false) : wareB (.tup [a, b, c, d, e, f, g]) = false := by
  rw [wareB_eq, h]; simp
theorem bad_unlike (h : unlikeB g = false) : wareB (.tup [a, b, c, d, e, f, g]) = false := by
  rw [wareB_eq, h]; simp
end
end N
namespace N
open PySem L2 VL
def wantB : D → Bool
  | .tup [a, b, c] => nameB a && (isDay b && isWhole c 0)
  | _ => false
def dsOf : D → List D
  | .tup ds => ds
  | _ => []
def partsD : D → List D
  | .tup [_, _, _, _, _, _, g] => dsOf g
  | _ => []
def inB (zs : List Str) (ds : List D) : Bool := ds.all fun d => decide (headS d ∈ zs)
def shopB : D → Bool
  | .tup [ws, vs] => allB wareB 12 ws && (!(dsOf ws).isEmpty && (allB wantB 20 vs && (unlikeB ws && (inB ((dsOf ws).map headS) (dsOf vs) && (dsOf ws).all fun w => inB ((dsOf ws).map headS) (partsD w)))))
  | _ => false
theorem shopB_eq (ws vs : D) : shopB (.tup [ws, vs]) = (allB wareB 12 ws && (!(dsOf ws).isEmpty && (allB wantB 20 vs && (unlikeB ws && (inB ((dsOf ws).map headS) (dsOf vs) && (dsOf ws).all fun w => inB ((dsOf ws).map headS) (partsD w)))))) := rfl
theorem shop_not : ∀ ds : List D, ds.length ≠ 2 → shopB (.tup ds) = false
  | [], _ => rfl
  | [_], _ => rfl
  | [_, _], h => absurd rfl h
  | _ :: _ :: _ :: _, _ => rfl
theorem want_not : ∀ ds : List D, ds.length ≠ 3 → wantB (.tup ds) = false
  | [], _ => rfl
  | [_], _ => rfl
  | [_, _], _ => rfl
  | [_, _, _], h => absurd rfl h
  | _ :: _ :: _ :: _ :: _, _ => rfl
theorem all_tup {p : D → Bool} {most : Int} {d : D} (h : allB p most d = true) : ∃ ds, d = .tup ds ∧ (ds.length : Int) ≤ most ∧ ∀ x ∈ ds, p x = true := by
  unfold allB at h
  split at h
  · rename_i ds
    rw [Bool.and_eq_true] at h
    exact ⟨ds, rfl, of_decide_eq_true h.1, List.all_eq_true.mp h.2⟩
  · cases h
theorem name_str {d : D} (h : nameB d = true) : ∃ z, d = .str z := by
  unfold nameB at h
  split at h
  · exact ⟨_, rfl⟩
  · cases h
theorem ware_shape {d : D} (h : wareB d = true) : ∃ (z : Str) (b c e f g : D) (ps : List D), d = .tup [.str z, b, c, e, f, g, .tup ps] ∧ (ps.length : Int) ≤ 6 ∧ ∀ p ∈ ps, partB p = true := by
  unfold wareB at h
  split at h
  · rename_i nm lag gives fl st com parts
    simp only [Bool.and_eq_true] at h
    obtain ⟨z, rfl⟩ := name_str h.1
    obtain ⟨ps, rfl, h1, h2⟩ := all_tup h.2.2.2.2.2.2.2.1
    exact ⟨z, _, _, _, _, _, ps, rfl, h1, h2⟩
  · cases h
theorem want_shape {d : D} (h : wantB d = true) : ∃ (z : Str) (b c : D), d = .tup [.str z, b, c] := by
  unfold wantB at h
  split at h
  · rename_i a b c
    rw [Bool.and_eq_true] at h
    obtain ⟨z, rfl⟩ := name_str h.1
    exact ⟨z, b, c, rfl⟩
  · cases h
theorem wantB_ok {v : Want} {names : List Str} (hn : NameOk v.1) (h : (0 ≤ v.2.1 ∧ v.2.1 ≤ 400) ∧ Amt v.2.2) : wantB (wantD v) = true := by
  show (nameB (.str v.1) && ((decide (0 ≤ v.2.1) && decide (v.2.1 ≤ 400)) && decide (0 ≤ v.2.2))) = true
  rw [nameB_ok hn, decide_eq_true h.1.1, decide_eq_true h.1.2, decide_eq_true h.2.1]
  rfl
theorem heads_wares : ∀ ws : List Ware, (ws.map wareD).map headS = ws.map (·.nm)
  | [] => rfl
  | p :: r => by
    rw [List.map_cons, List.map_cons, List.map_cons, heads_wares r]
    rfl
theorem inB_ok {α : Type} {f : α → D} {g : α → Str} (hg : ∀ x, headS (f x) = g x) {zs : List Str} {l : List α} (h : ∀ x ∈ l, g x ∈ zs) : inB zs (l.map f) = true := by
  unfold inB
  rw [List.all_eq_true]
  intro d hd
  obtain ⟨x, hx, rfl⟩ := List.mem_map.mp hd
  rw [hg]
  exact decide_eq_true (h x hx)
theorem inB_not {zs : List Str} {ds : List D} {d : D} (hd : d ∈ ds) (h : headS d ∉ zs) : inB zs ds = false := by
  cases e : inB zs ds with
  | false => rfl
  | true => exact absurd (of_decide_eq_true (List.all_eq_true.mp e d hd)) h
/-- a shop as the laws draw it; the names are names -/
structure ShopN (s : Shop) : Prop where
  g : ShopG s
  nm : ∀ z ∈ s.names, NameOk z
theorem ShopN.parts {s : Shop} (h : ShopN s) {w : Ware} (hw : w ∈ s.ws) : ∀ p ∈ w.parts, NameOk p.1 := fun p hp => h.nm _ (h.g.sub w hw p hp)
theorem shopB_ok {s : Shop} (h : ShopN s) : shopB (shopD s) = true := by
  have hg := h.g
  have h12 := hg.hi
  have h1 := hg.lo
  have hwl := hg.wants.len
  show shopB (.tup [.tup (s.ws.map wareD), .tup (s.wants.map wantD)]) = true
  have e1 : (!(dsOf (.tup (s.ws.map wareD))).isEmpty) = true := by
    cases e : s.ws with
    | nil => rw [e] at h1; exact absurd h1 (by decide)
    | cons a b => rfl
  have e2 : unlikeB (.tup (s.ws.map wareD)) = true := by
    show decide ((s.ws.map wareD).map headS).Nodup = true
    rw [heads_wares]
    exact decide_eq_true hg.nd
  have e3 : (dsOf (.tup (s.ws.map wareD))).map headS = s.names := heads_wares _
  rw [shopB_eq, allB_ok (by omega) (fun w hw => wareB_ok (hg.ws w hw) (h.parts hw)), e1, allB_ok (by omega) (fun v hv => wantB_ok (names := s.names) (h.nm _ (hg.wants.ok v hv).1) (hg.wants.ok v hv).2), e2, e3]
  rw [show inB s.names (dsOf (.tup (s.wants.map wantD))) = true from inB_ok (g := fun v : Want => v.1) (fun _ => rfl) (fun v hv => (hg.wants.ok v hv).1)]
  rw [show ((dsOf (.tup (s.ws.map wareD))).all fun w => inB s.names (partsD w)) = true from List.all_eq_true.mpr fun d hd => by
    obtain ⟨w, hw, rfl⟩ := List.mem_map.mp hd
    exact inB_ok (g := fun p : Str × Int => p.1) (fun _ => rfl) (fun p hp => hg.sub w hw p hp)]
  rfl
theorem any_want {v : Want} (h : NameOk v.1) : Any (wantD v) := .tup (by show 3 ≤ 1000; decide) (AllA.mem (.cons (any_name h) (.cons (.int _) (.cons (.int _) .nil))))
section
variable {ws vs : D}
theorem badS_wares (h : allB wareB 12 ws = false) : shopB (.tup [ws, vs]) = false := by
  rw [shopB_eq, h]; rfl
theorem badS_none (h : (dsOf ws).isEmpty = true) : shopB (.tup [ws, vs]) = false := by
  rw [shopB_eq, h]; simp
theorem badS_wants (h : allB wantB 20 vs = false) : shopB (.tup [ws, vs]) = false := by
  rw [shopB_eq, h]; simp
theorem badS_unlike (h : unlikeB ws = false) : shopB (.tup [ws, vs]) = false := by
  rw [shopB_eq, h]; simp
theorem badS_want (h : inB ((dsOf ws).map headS) (dsOf vs) = false) : shopB (.tup [ws, vs]) = false := by
  rw [shopB_eq, h]; simp
theorem badS_part (h : ((dsOf ws).all fun w => inB ((dsOf ws).map headS) (partsD w)) = false) : shopB (.tup [ws, vs]) = false := by
  rw [shopB_eq, h]; simp
end
inductive AllP (P : D → Prop) : List D → Prop
  | nil : AllP P []
  | cons {d : D} {ds : List D} : P d → AllP P ds → AllP P (d :: ds)
theorem AllP.mem {P : D → Prop} : ∀ {ds : List D}, AllP P ds → ∀ d ∈ ds, P d
  | _, .nil, d, h => by cases h
  | _, .cons h r, d, q => by
    rcases List.mem_cons.mp q with rfl | q
    · exact h
    · exact r.mem d q
theorem allB_mem {p : D → Bool} {m : Int} {ds : List D} {d : D} (hd : d ∈ ds) (h : p d = false) : allB p m (.tup ds) = false := by
  show (_ && ds.all p) = false
  have : ds.all p = false := by
    cases e : ds.all p with
    | false => rfl
    | true =>
      have := List.all_eq_true.mp e d hd
      rw [h] at this
      cases this
  rw [this, Bool.and_false]
theorem allB_long {p : D → Bool} {m : Int} {ds : List D} (h : m < ds.length) : allB p m (.tup ds) = false := by
  show (decide ((ds.length : Int) ≤ m) && _) = false
  rw [decide_eq_false (by omega)]
  rfl
end N
namespace N
open PySem L2 VL TL
/-- the number that a word writes -/
def numV (z : Str) : Int := (PySem.intText? z).getD 0
def nameS (z : Str) : Bool := nameB (.str z)
/-- how many names and numbers a row has behind its word -/
def formOf (z : Str) : Option (Nat × Nat) := if z = "ware" then some (1, 4) else if z = "coming" then some (1, 2) else if z = "part" then some (2, 1) else if z = "want" then some (1, 2) else none
def formTab : List (Str × List V) := [("ware", [.int 1, .int 4]), ("coming", [.int 1, .int 2]), ("part", [.int 2, .int 1]), ("want", [.int 1, .int 2])]
theorem form_mem {z : Str} {n m : Nat} (h : formOf z = some (n, m)) : (z, [V.int (n : Int), .int (m : Int)]) ∈ formTab ∧ 1 ≤ n ∧ n ≤ 2 ∧ 1 ≤ m ∧ m ≤ 4 := by
  unfold formOf at h
  split at h
  · rename_i e
    cases h
    subst e
    exact ⟨.head _, by decide⟩
  · split at h
    · rename_i e
      cases h
      subst e
      exact ⟨.tail _ (.head _), by decide⟩
    · split at h
      · rename_i e
        cases h
        subst e
        exact ⟨.tail _ (.tail _ (.head _)), by decide⟩
      · split at h
        · rename_i e
          cases h
          subst e
          exact ⟨.tail _ (.tail _ (.tail _ (.head _))), by decide⟩
        · cases h
/-- what a row's words tell -/
def parseRow : List Str → Option (List D)
  | [] => none
  | z :: r => match formOf z with
    | none => none
    | some (n, m) => if decide (r.length = n + m) && ((r.take n).all nameS && (r.drop n).all numB) then some (.str z :: (r.take n).map D.str ++ (r.drop n).map fun w => D.int (numV w)) else none
theorem parse_row {W : List Str} {ds : List D} (h : parseRow W = some ds) : ∃ z r n m, W = z :: r ∧ formOf z = some (n, m) ∧ r.length = n + m ∧ (∀ w ∈ r.take n, nameS w = true) ∧ (∀ w ∈ r.drop n, numB w = true) ∧ ds = .str z :: (r.take n).map D.str ++ (r.drop n).map fun w => D.int (numV w) := by
  cases W with
  | nil => cases h
  | cons z r =>
    unfold parseRow at h
    dsimp only at h
    cases hf : formOf z with
    | none =>
      rw [hf] at h
      cases h
    | some p =>
      obtain ⟨n, m⟩ := p
      rw [hf] at h
      dsimp only at h
      split at h
      · rename_i hb
        rw [Bool.and_eq_true, Bool.and_eq_true] at hb
        exact ⟨z, r, n, m, rfl, hf, of_decide_eq_true hb.1, List.all_eq_true.mp hb.2.1, List.all_eq_true.mp hb.2.2, (Option.some.inj h).symm⟩
      · cases h
theorem nameS_len {w : Str} (h : nameS w = true) : w.length ≤ 8 := by
  have h : (decide (1 ≤ w.length) && (decide (w.length ≤ 8) && w.cps.toList.all abcB)) = true := h
  rw [Bool.and_eq_true, Bool.and_eq_true] at h
  exact of_decide_eq_true h.2.1
end N
namespace N
open PySem L2 VL TL
def numT (n : Int) : Str := Str.ofString (toString n)
inductive RowV where
  | ware (nm : Str) (a b c d : Int) | coming (nm : Str) (d a : Int) | part (nm p : Str) (a : Int) | want (nm : Str) (d a : Int)
abbrev NumOk (n : Int) : Prop := 0 ≤ n ∧ n < 10 ^ 60
def RowV.words : RowV → List Str
  | .ware nm a b c d => ["ware", nm, numT a, numT b, numT c, numT d]
  | .coming nm d a => ["coming", nm, numT d, numT a]
  | .part nm p a => ["part", nm, p, numT a]
  | .want nm d a => ["want", nm, numT d, numT a]
def RowV.ds : RowV → List D
  | .ware nm a b c d => [.str "ware", .str nm, .int a, .int b, .int c, .int d]
  | .coming nm d a => [.str "coming", .str nm, .int d, .int a]
  | .part nm p a => [.str "part", .str nm, .str p, .int a]
  | .want nm d a => [.str "want", .str nm, .int d, .int a]
abbrev RowV.d (r : RowV) : D := .lst r.ds
def RowV.nm : RowV → Str
  | .ware nm _ _ _ _ => nm
  | .coming nm _ _ => nm
  | .part nm _ _ => nm
  | .want nm _ _ => nm
def RowV.ok : RowV → Prop
  | .ware nm a b c d => NameOk nm ∧ NumOk a ∧ NumOk b ∧ NumOk c ∧ NumOk d
  | .coming nm d a => NameOk nm ∧ NumOk d ∧ NumOk a
  | .part nm p a => NameOk nm ∧ NameOk p ∧ NumOk a
  | .want nm d a => NameOk nm ∧ NumOk d ∧ NumOk a
def RowV.line (r : RowV) : Str := Txt.join " " r.words
theorem numT_ok {n : Int} (h : NumOk n) : numB (numT n) = true ∧ numV (numT n) = n ∧ (numT n).length ≤ 60 ∧ ∀ c ∈ (numT n).cps.toList, 48 ≤ c ∧ c ≤ 57 := by
  obtain ⟨h1, h2, h3, h4⟩ := num_text h.1 h.2
  exact ⟨h1, by unfold numV; rw [show PySem.intText? (numT n) = some n from h2]; rfl, h3, h4⟩
theorem parse_words {r : RowV} (h : r.ok) : parseRow r.words = some r.ds := by
  have fw : formOf "ware" = some (1, 4) := by decide
  have fc : formOf "coming" = some (1, 2) := by decide
  have fp : formOf "part" = some (2, 1) := by decide
  have ft : formOf "want" = some (1, 2) := by decide
  cases r with
  | ware nm a b c d =>
    obtain ⟨h1, h2, h3, h4, h5⟩ := h
    have n2 := numT_ok h2
    have n3 := numT_ok h3
    have n4 := numT_ok h4
    have n5 := numT_ok h5
    show parseRow ("ware" :: [nm, numT a, numT b, numT c, numT d]) = _
    unfold parseRow
    dsimp only
    rw [fw]
    dsimp only
    rw [if_pos (by
      show (decide (5 = 1 + 4) && ([nm].all nameS && [numT a, numT b, numT c, numT d].all numB)) = true
      simp only [List.all_cons, List.all_nil, n2.1, n3.1, n4.1, n5.1, show nameS nm = true from nameB_ok h1]
      rfl)]
    show some [D.str "ware", .str nm, .int (numV (numT a)), .int (numV (numT b)), .int (numV (numT c)), .int (numV (numT d))] = _
    rw [n2.2.1, n3.2.1, n4.2.1, n5.2.1]
    rfl
  | coming nm d a =>
    obtain ⟨h1, h2, h3⟩ := h
    have n2 := numT_ok h2
    have n3 := numT_ok h3
    show parseRow ("coming" :: [nm, numT d, numT a]) = _
    unfold parseRow
    dsimp only
    rw [fc]
    dsimp only
    rw [if_pos (by
      show (decide (3 = 1 + 2) && ([nm].all nameS && [numT d, numT a].all numB)) = true
      simp only [List.all_cons, List.all_nil, n2.1, n3.1, show nameS nm = true from nameB_ok h1]
      rfl)]
    show some [D.str "coming", .str nm, .int (numV (numT d)), .int (numV (numT a))] = _
    rw [n2.2.1, n3.2.1]
    rfl
  | part nm p a =>
    obtain ⟨h1, h2, h3⟩ := h
    have n3 := numT_ok h3
    show parseRow ("part" :: [nm, p, numT a]) = _
    unfold parseRow
    dsimp only
    rw [fp]
    dsimp only
    rw [if_pos (by
      show (decide (3 = 2 + 1) && ([nm, p].all nameS && [numT a].all numB)) = true
      simp only [List.all_cons, List.all_nil, n3.1, show nameS nm = true from nameB_ok h1, show nameS p = true from nameB_ok h2]
      rfl)]
    show some [D.str "part", .str nm, .str p, .int (numV (numT a))] = _
    rw [n3.2.1]
    rfl
  | want nm d a =>
    obtain ⟨h1, h2, h3⟩ := h
    have n2 := numT_ok h2
    have n3 := numT_ok h3
    show parseRow ("want" :: [nm, numT d, numT a]) = _
    unfold parseRow
    dsimp only
    rw [ft]
    dsimp only
    rw [if_pos (by
      show (decide (3 = 1 + 2) && ([nm].all nameS && [numT d, numT a].all numB)) = true
      simp only [List.all_cons, List.all_nil, n2.1, n3.1, show nameS nm = true from nameB_ok h1]
      rfl)]
    show some [D.str "want", .str nm, .int (numV (numT d)), .int (numV (numT a))] = _
    rw [n2.2.1, n3.2.1]
    rfl
/-- words of signs that are neither blanks nor line ends -/
def Plain (z : Str) : Prop := z.length ≤ 60 ∧ ∀ c ∈ z.cps.toList, c ≠ 32 ∧ c ≠ 10
theorem plain_name {z : Str} (h : NameOk z) : Plain z := ⟨by have := h.hi; have := slen z; omega, fun c hc => by have := h.ab c hc; omega⟩
theorem plain_num {n : Int} (h : NumOk n) : Plain (numT n) := ⟨(numT_ok h).2.2.1, fun c hc => by have := (numT_ok h).2.2.2 c hc; omega⟩
theorem plain_w {z : Str} (h : (z = "ware" ∨ z = "coming") ∨ (z = "part" ∨ z = "want")) : Plain z := by
  rcases h with (rfl | rfl) | (rfl | rfl) <;> exact ⟨by decide, by decide +kernel⟩
theorem words_plain {r : RowV} (h : r.ok) : r.words.length ≤ 6 ∧ ∀ w ∈ r.words, Plain w := by
  cases r with
  | ware nm a b c d =>
    obtain ⟨h1, h2, h3, h4, h5⟩ := h
    refine ⟨by show 6 ≤ 6; decide, fun w hw => ?_⟩
    simp only [RowV.words, List.mem_cons, List.not_mem_nil, or_false] at hw
    rcases hw with rfl | rfl | rfl | rfl | rfl | rfl
    · exact plain_w (.inl (.inl rfl))
    · exact plain_name h1
    · exact plain_num h2
    · exact plain_num h3
    · exact plain_num h4
    · exact plain_num h5
  | coming nm d a =>
    obtain ⟨h1, h2, h3⟩ := h
    refine ⟨by show 4 ≤ 6; decide, fun w hw => ?_⟩
    simp only [RowV.words, List.mem_cons, List.not_mem_nil, or_false] at hw
    rcases hw with rfl | rfl | rfl | rfl
    · exact plain_w (.inl (.inr rfl))
    · exact plain_name h1
    · exact plain_num h2
    · exact plain_num h3
  | part nm p a =>
    obtain ⟨h1, h2, h3⟩ := h
    refine ⟨by show 4 ≤ 6; decide, fun w hw => ?_⟩
    simp only [RowV.words, List.mem_cons, List.not_mem_nil, or_false] at hw
    rcases hw with rfl | rfl | rfl | rfl
    · exact plain_w (.inr (.inl rfl))
    · exact plain_name h1
    · exact plain_name h2
    · exact plain_num h3
  | want nm d a =>
    obtain ⟨h1, h2, h3⟩ := h
    refine ⟨by show 4 ≤ 6; decide, fun w hw => ?_⟩
    simp only [RowV.words, List.mem_cons, List.not_mem_nil, or_false] at hw
    rcases hw with rfl | rfl | rfl | rfl
    · exact plain_w (.inr (.inr rfl))
    · exact plain_name h1
    · exact plain_num h2
    · exact plain_num h3
theorem words_ne (r : RowV) : r.words ≠ [] := by cases r <;> simp [RowV.words]
theorem split_line {r : RowV} (h : r.ok) : Txt.split r.line " " = r.words :=
  split_join (s := 32) (S := []) (by rfl) (by decide +kernel) (words_ne r) (fun w hw hm => ((words_plain h).2 w hw).2 32 hm |>.1 rfl)
theorem join_len (y : Str) (ws : List Str) : (Txt.join y ws).length ≤ (ws.map (·.length)).sum + ws.length * y.length := by
  rw [join_eq]
  exact StrLaws.join_length_le y ws
theorem sum_nat {l : List Nat} {M : Nat} (h : ∀ x ∈ l, x ≤ M) : l.sum ≤ l.length * M := by
  induction l with
  | nil => simp
  | cons x r ih =>
    have h1 := h x List.mem_cons_self
    have h2 := ih fun y hy => h y (List.mem_cons_of_mem _ hy)
    rw [List.sum_cons, List.length_cons, Nat.succ_mul]
    omega
theorem words_sum {ws : List Str} {M : Nat} (h : ∀ w ∈ ws, w.length ≤ M) : (ws.map (·.length)).sum ≤ ws.length * M := by
  have := sum_nat (l := ws.map (·.length)) (M := M) fun x hx => by
    obtain ⟨w, hw, rfl⟩ := List.mem_map.mp hx
    exact h w hw
  rw [List.length_map] at this
  exact this
theorem line_len {r : RowV} (h : r.ok) : r.line.length ≤ 366 := by
  obtain ⟨h1, h2⟩ := words_plain h
  have a := join_len " " r.words
  have b := words_sum (ws := r.words) (M := 60) fun w hw => (h2 w hw).1
  have e : (" " : Str).length = 1 := rfl
  rw [e] at a
  show (Txt.join " " r.words).length ≤ 366
  omega
theorem join_mem {y : Str} : ∀ {ws : List Str} {c : Nat}, c ∈ (Str.join y ws).cps.toList → c ∈ y.cps.toList ∨ ∃ w ∈ ws, c ∈ w.cps.toList
  | [], c, h => by simp [Str.join, Str.empty] at h
  | [x], c, h => .inr ⟨x, .head _, h⟩
  | x :: z :: r, c, h => by
    have h : c ∈ (x ++ y ++ Str.join y (z :: r)).cps.toList := h
    rw [str_app, str_app] at h
    rcases List.mem_append.mp h with h | h
    · rcases List.mem_append.mp h with h | h
      · exact .inr ⟨x, .head _, h⟩
      · exact .inl h
    · rcases join_mem h with h | ⟨w, hw, hc⟩
      · exact .inl h
      · exact .inr ⟨w, .tail _ hw, hc⟩
theorem line_10 {r : RowV} (h : r.ok) : 10 ∉ r.line.cps.toList := fun hm => by
  have hm : 10 ∈ (Txt.join " " r.words).cps.toList := hm
  rw [join_eq] at hm
  rcases join_mem hm with h1 | ⟨w, hw, hc⟩
  · have : (" " : Str).cps.toList = [32] := rfl
    rw [this] at h1
    simp at h1
  · exact ((words_plain h).2 w hw).2 10 hc |>.2 rfl
def textOf (rs : List RowV) : Str := Txt.join "\n" (rs.map RowV.line)
theorem split_text {rs : List RowV} (hne : rs ≠ []) (h : ∀ r ∈ rs, r.ok) : Txt.split (textOf rs) "\n" = rs.map RowV.line :=
  split_join (s := 10) (S := []) (by rfl) (by decide +kernel) (fun e => hne (List.map_eq_nil_iff.mp e)) (fun w hw hm => by
    obtain ⟨r, hr, rfl⟩ := List.mem_map.mp hw
    exact line_10 (h r hr) hm)
theorem text_len {rs : List RowV} (h : ∀ r ∈ rs, r.ok) : (textOf rs).length ≤ rs.length * 367 := by
  have a := join_len "\n" (rs.map RowV.line)
  have b := words_sum (ws := rs.map RowV.line) (M := 366) fun w hw => by
    obtain ⟨r, hr, rfl⟩ := List.mem_map.mp hw
    exact line_len (h r hr)
  have e : ("\n" : Str).length = 1 := rfl
  rw [e] at a
  rw [List.length_map] at a b
  show (Txt.join "\n" (rs.map RowV.line)).length ≤ _
  omega
def RowV.com? (nm : Str) : RowV → Option (Int × Int)
  | .coming x d a => if x = nm then some (d, a) else none
  | _ => none
def RowV.part? (nm : Str) : RowV → Option (Str × Int)
  | .part x p a => if x = nm then some (p, a) else none
  | _ => none
def RowV.want? : RowV → Option Want
  | .want x d a => some (x, d, a)
  | _ => none
def comsV (nm : Str) (rs : List RowV) : List (Int × Int) := rs.filterMap (RowV.com? nm)
def partsV (nm : Str) (rs : List RowV) : List (Str × Int) := rs.filterMap (RowV.part? nm)
def RowV.ware? (rs : List RowV) : RowV → Option Ware
  | .ware nm a b c d => some ⟨nm, a, b, c, d, comsV nm rs, partsV nm rs⟩
  | _ => none
def RowV.head? : RowV → Option Str
  | .ware nm _ _ _ _ => some nm
  | _ => none
def headsV (rs : List RowV) : List Str := rs.filterMap RowV.head?
def shopOf (rs : List RowV) : Shop := ⟨rs.filterMap (RowV.ware? rs), rs.filterMap RowV.want?⟩
theorem any_shopOf {rs : List RowV} (h : ∀ r ∈ rs, r.ok) (hl : rs.length ≤ 1000) : Any (shopD (shopOf rs)) := by
  have fl : ∀ {α : Type} (f : RowV → Option α), (rs.filterMap f).length ≤ 1000 := fun f => Nat.le_trans (List.length_filterMap_le f rs) hl
  refine any2 (.tup (by rw [List.length_map]; exact fl _) fun d hd => ?_) (.tup (by rw [List.length_map]; exact fl _) fun d hd => ?_)
  · obtain ⟨w, hw, rfl⟩ := List.mem_map.mp hd
    obtain ⟨r, hr, e⟩ := List.mem_filterMap.mp hw
    cases r with
    | ware nm a b c d =>
      cases e
      have hnm := (h _ hr).1
      refine .tup (by show 7 ≤ 1000; decide) (AllA.mem (.cons (any_name hnm) (.cons (.int _) (.cons (.int _) (.cons (.int _) (.cons (.int _) (.cons (.tup (by rw [List.length_map]; exact fl _) fun d hd => ?_) (.cons (.tup (by rw [List.length_map]; exact fl _) fun d hd => ?_) .nil))))))))
      · obtain ⟨p, _, rfl⟩ := List.mem_map.mp hd
        exact any2 (.int _) (.int _)
      · obtain ⟨p, hp, rfl⟩ := List.mem_map.mp hd
        obtain ⟨q, hq, e⟩ := List.mem_filterMap.mp hp
        cases q with
        | part x p' a' =>
          have hok := h _ hq
          unfold RowV.part? at e
          dsimp only at e
          split at e
          · cases e
            exact any2 (any_name hok.2.1) (.int _)
          · cases e
        | ware _ _ _ _ _ => cases e
        | coming _ _ _ => cases e
        | want _ _ _ => cases e
    | coming _ _ _ => cases e
    | part _ _ _ => cases e
    | want _ _ _ => cases e
  · obtain ⟨v, hv, rfl⟩ := List.mem_map.mp hd
    obtain ⟨r, hr, e⟩ := List.mem_filterMap.mp hv
    cases r with
    | want x d a =>
      cases e
      exact any_want (h _ hr).1
    | ware _ _ _ _ _ => cases e
    | coming _ _ _ => cases e
    | part _ _ _ => cases e
end N
namespace N
open PySem L2 VL TL
def wareRow (w : Ware) : RowV := .ware w.nm w.lag w.gives w.floor w.stock
def comRow (w : Ware) (p : Int × Int) : RowV := .coming w.nm p.1 p.2
def partRow (w : Ware) (p : Str × Int) : RowV := .part w.nm p.1 p.2
def wantRow (v : Want) : RowV := .want v.1 v.2.1 v.2.2
def wareRows (w : Ware) : List RowV := wareRow w :: (w.com.map (comRow w) ++ w.parts.map (partRow w))
def rowsOf (s : Shop) : List RowV := s.ws.flatMap wareRows ++ s.wants.map wantRow
theorem fm_flat {α β γ : Type} (f : α → List β) (g : β → Option γ) : ∀ l : List α, (l.flatMap f).filterMap g = l.flatMap fun x => (f x).filterMap g
  | [] => rfl
  | x :: r => by rw [List.flatMap_cons, List.flatMap_cons, List.filterMap_append, fm_flat f g r]
theorem fm_none {α β : Type} {g : α → Option β} : ∀ {l : List α}, (∀ x ∈ l, g x = none) → l.filterMap g = []
  | [], _ => rfl
  | x :: r, h => by rw [List.filterMap_cons_none (h x List.mem_cons_self), fm_none fun y hy => h y (List.mem_cons_of_mem _ hy)]
theorem fm_id {α β γ : Type} {f : α → β} {g : β → Option γ} {k : α → γ} : ∀ {l : List α}, (∀ x ∈ l, g (f x) = some (k x)) → (l.map f).filterMap g = l.map k
  | [], _ => rfl
  | x :: r, h => by rw [List.map_cons, List.filterMap_cons_some (h x List.mem_cons_self), fm_id fun y hy => h y (List.mem_cons_of_mem _ hy), List.map_cons]
theorem flat_none {α β : Type} {f : α → List β} : ∀ {l : List α}, (∀ x ∈ l, f x = []) → l.flatMap f = []
  | [], _ => rfl
  | x :: r, h => by rw [List.flatMap_cons, h x List.mem_cons_self, flat_none fun y hy => h y (List.mem_cons_of_mem _ hy)]; rfl
theorem flat_one {β : Type} (f : Ware → List β) : ∀ {ws : List Ware}, (ws.map (·.nm)).Nodup → ∀ {w : Ware}, w ∈ ws → (ws.flatMap fun v => if v.nm = w.nm then f v else []) = f w
  | [], _, w, h => by cases h
  | v :: r, nd, w, h => by
    rw [List.map_cons, List.nodup_cons] at nd
    rw [List.flatMap_cons]
    rcases List.mem_cons.mp h with rfl | h
    · rw [if_pos rfl, flat_none fun u hu => if_neg fun e => nd.1 (by rw [← e]; exact List.mem_map_of_mem (f := fun w : Ware => w.nm) hu), List.append_nil]
    · rw [if_neg fun e => nd.1 (by rw [e]; exact List.mem_map_of_mem (f := fun w : Ware => w.nm) h), flat_one f nd.2 h]
      rfl
theorem coms_wareRows (nm : Str) (w : Ware) : (wareRows w).filterMap (RowV.com? nm) = if w.nm = nm then w.com else [] := by
  unfold wareRows
  rw [List.filterMap_cons_none rfl, List.filterMap_append, fm_none (l := w.parts.map (partRow w)) fun x hx => by
    obtain ⟨p, _, rfl⟩ := List.mem_map.mp hx
    rfl, List.append_nil]
  by_cases e : w.nm = nm
  · rw [if_pos e, fm_id (k := id) fun p _ => if_pos e, List.map_id]
  · rw [if_neg e, fm_none fun x hx => by
      obtain ⟨p, _, rfl⟩ := List.mem_map.mp hx
      exact if_neg e]
theorem parts_wareRows (nm : Str) (w : Ware) : (wareRows w).filterMap (RowV.part? nm) = if w.nm = nm then w.parts else [] := by
  unfold wareRows
  rw [List.filterMap_cons_none rfl, List.filterMap_append, fm_none (l := w.com.map (comRow w)) fun x hx => by
    obtain ⟨p, _, rfl⟩ := List.mem_map.mp hx
    rfl, List.nil_append]
  by_cases e : w.nm = nm
  · rw [if_pos e, fm_id (k := id) fun p _ => if_pos e, List.map_id]
  · rw [if_neg e, fm_none fun x hx => by
      obtain ⟨p, _, rfl⟩ := List.mem_map.mp hx
      exact if_neg e]
theorem coms_rowsOf {s : Shop} (nd : s.names.Nodup) {w : Ware} (hw : w ∈ s.ws) : comsV w.nm (rowsOf s) = w.com := by
  unfold comsV rowsOf
  rw [List.filterMap_append, fm_flat, fm_none (l := s.wants.map wantRow) fun x hx => by
    obtain ⟨p, _, rfl⟩ := List.mem_map.mp hx
    rfl, List.append_nil]
  rw [show (fun x => (wareRows x).filterMap (RowV.com? w.nm)) = fun v : Ware => if v.nm = w.nm then v.com else [] from funext fun v => coms_wareRows w.nm v]
  exact flat_one (fun v => v.com) nd hw
theorem parts_rowsOf {s : Shop} (nd : s.names.Nodup) {w : Ware} (hw : w ∈ s.ws) : partsV w.nm (rowsOf s) = w.parts := by
  unfold partsV rowsOf
  rw [List.filterMap_append, fm_flat, fm_none (l := s.wants.map wantRow) fun x hx => by
    obtain ⟨p, _, rfl⟩ := List.mem_map.mp hx
    rfl, List.append_nil]
  rw [show (fun x => (wareRows x).filterMap (RowV.part? w.nm)) = fun v : Ware => if v.nm = w.nm then v.parts else [] from funext fun v => parts_wareRows w.nm v]
  exact flat_one (fun v => v.parts) nd hw
/-- what is told by the wares' rows alone -/
theorem heads_fm {β : Type} (g : RowV → Option β) (k : Ware → β) (h1 : ∀ w, g (wareRow w) = some (k w)) (h2 : ∀ w p, g (comRow w p) = none) (h3 : ∀ w p, g (partRow w p) = none) (h4 : ∀ v, g (wantRow v) = none) (s : Shop) : (rowsOf s).filterMap g = s.ws.map k := by
  unfold rowsOf
  rw [List.filterMap_append, fm_flat, fm_none (l := s.wants.map wantRow) fun x hx => by
    obtain ⟨p, _, rfl⟩ := List.mem_map.mp hx
    exact h4 p, List.append_nil]
  rw [show (fun x => (wareRows x).filterMap g) = fun w => [k w] from funext fun w => by
    unfold wareRows
    rw [List.filterMap_cons_some (h1 w), fm_none fun x hx => ?_]
    rcases List.mem_append.mp hx with hx | hx
    · obtain ⟨p, _, rfl⟩ := List.mem_map.mp hx
      exact h2 w p
    · obtain ⟨p, _, rfl⟩ := List.mem_map.mp hx
      exact h3 w p]
  induction s.ws with
  | nil => rfl
  | cons x r ih => rw [List.flatMap_cons, ih]; rfl
theorem heads_rowsOf (s : Shop) : headsV (rowsOf s) = s.names := heads_fm RowV.head? (fun w => w.nm) (fun _ => rfl) (fun _ _ => rfl) (fun _ _ => rfl) (fun _ => rfl) s
theorem wants_rowsOf (s : Shop) : (rowsOf s).filterMap RowV.want? = s.wants := by
  unfold rowsOf
  rw [List.filterMap_append, fm_flat, flat_none fun w _ => fm_none fun x hx => ?_, List.nil_append, fm_id (f := wantRow) (g := RowV.want?) (k := id) (l := s.wants) (fun v _ => rfl), List.map_id]
  unfold wareRows at hx
  rcases List.mem_cons.mp hx with rfl | hx
  · rfl
  · rcases List.mem_append.mp hx with hx | hx
    · obtain ⟨p, _, rfl⟩ := List.mem_map.mp hx
      rfl
    · obtain ⟨p, _, rfl⟩ := List.mem_map.mp hx
      rfl
theorem shop_rowsOf {s : Shop} (nd : s.names.Nodup) : shopOf (rowsOf s) = s := by
  have e1 : (rowsOf s).filterMap (RowV.ware? (rowsOf s)) = s.ws := by
    rw [heads_fm (RowV.ware? (rowsOf s)) (fun w => ⟨w.nm, w.lag, w.gives, w.floor, w.stock, comsV w.nm (rowsOf s), partsV w.nm (rowsOf s)⟩) (fun _ => rfl) (fun _ _ => rfl) (fun _ _ => rfl) (fun _ => rfl) s]
    have : s.ws.map (fun w : Ware => (⟨w.nm, w.lag, w.gives, w.floor, w.stock, comsV w.nm (rowsOf s), partsV w.nm (rowsOf s)⟩ : Ware)) = s.ws.map id := List.map_congr_left fun w hw => by
      rw [coms_rowsOf nd hw, parts_rowsOf nd hw]
      rfl
    rw [this, List.map_id]
  unfold shopOf
  rw [e1, wants_rowsOf]
theorem rows_mem {s : Shop} {r : RowV} (h : r ∈ rowsOf s) : (∃ w ∈ s.ws, r = wareRow w ∨ (∃ p ∈ w.com, r = comRow w p) ∨ ∃ p ∈ w.parts, r = partRow w p) ∨ ∃ v ∈ s.wants, r = wantRow v := by
  unfold rowsOf at h
  rcases List.mem_append.mp h with h | h
  · obtain ⟨w, hw, h⟩ := List.mem_flatMap.mp h
    refine .inl ⟨w, hw, ?_⟩
    unfold wareRows at h
    rcases List.mem_cons.mp h with rfl | h
    · exact .inl rfl
    · rcases List.mem_append.mp h with h | h
      · obtain ⟨p, hp, rfl⟩ := List.mem_map.mp h
        exact .inr (.inl ⟨p, hp, rfl⟩)
      · obtain ⟨p, hp, rfl⟩ := List.mem_map.mp h
        exact .inr (.inr ⟨p, hp, rfl⟩)
  · obtain ⟨v, hv, rfl⟩ := List.mem_map.mp h
    exact .inr ⟨v, hv, rfl⟩
theorem ShopG.n {s : Shop} (h : ShopG s) : ShopN s := ⟨h, fun z hz => by
  obtain ⟨w, hw, rfl⟩ := List.mem_map.mp hz
  exact (h.ws w hw).nm⟩
theorem amt_num {n : Int} (h : Amt n) : NumOk n := ⟨h.1, by have := h.2; omega⟩
theorem rows_ok {s : Shop} (h : ShopG s) : ∀ r ∈ rowsOf s, r.ok := fun r hr => by
  have hn := h.n.nm
  rcases rows_mem hr with ⟨w, hw, rfl | ⟨p, hp, rfl⟩ | ⟨p, hp, rfl⟩⟩ | ⟨v, hv, rfl⟩
  · have g := h.ws w hw
    exact ⟨g.nm, ⟨g.lag.1, by have := g.lag.2; omega⟩, ⟨by have := g.gives.1; omega, by have := g.gives.2; omega⟩, amt_num g.floor, amt_num g.stock⟩
  · have g := h.ws w hw
    have := g.com p hp
    exact ⟨g.nm, ⟨this.1.1, by have := this.1.2; omega⟩, amt_num this.2⟩
  · have g := h.ws w hw
    have := g.parts p hp
    exact ⟨g.nm, hn _ (h.sub w hw p hp), ⟨by omega, by omega⟩⟩
  · have := h.wants.ok v hv
    exact ⟨hn _ this.1, ⟨this.2.1.1, by have := this.2.1.2; omega⟩, amt_num this.2.2⟩
theorem rows_nm {s : Shop} (h : ShopG s) : ∀ r ∈ rowsOf s, r.nm ∈ headsV (rowsOf s) := fun r hr => by
  rw [heads_rowsOf]
  rcases rows_mem hr with ⟨w, hw, rfl | ⟨p, hp, rfl⟩ | ⟨p, hp, rfl⟩⟩ | ⟨v, hv, rfl⟩
  · exact List.mem_map_of_mem (f := fun w : Ware => w.nm) hw
  · exact List.mem_map_of_mem (f := fun w : Ware => w.nm) hw
  · exact List.mem_map_of_mem (f := fun w : Ware => w.nm) hw
  · exact (h.wants.ok v hv).1
theorem flat_len {α β : Type} {f : α → List β} {M : Nat} : ∀ {l : List α}, (∀ x ∈ l, (f x).length ≤ M) → (l.flatMap f).length ≤ l.length * M
  | [], _ => by simp
  | x :: r, h => by
    rw [List.flatMap_cons, List.length_append, List.length_cons, Nat.succ_mul]
    have h1 := h x List.mem_cons_self
    have h2 := flat_len (l := r) fun y hy => h y (List.mem_cons_of_mem _ hy)
    omega
theorem rows_len {s : Shop} (h : ShopG s) : (rowsOf s).length ≤ 248 := by
  unfold rowsOf
  rw [List.length_append, List.length_map]
  have h1 := flat_len (l := s.ws) (f := wareRows) (M := 19) fun w hw => by
    have g := h.ws w hw
    have := g.cl
    have := g.pl
    unfold wareRows
    rw [List.length_cons, List.length_append, List.length_map, List.length_map]
    omega
  have := h.hi
  have := h.wants.len
  omega
theorem rows_ne {s : Shop} (h : ShopG s) : rowsOf s ≠ [] := fun e => by
  have h1 := heads_rowsOf s
  rw [e] at h1
  have h2 : s.names = [] := h1.symm
  have h3 := h.lo
  have h4 : s.names.length = s.ws.length := List.length_map ..
  rw [h2] at h4
  have h5 : 0 = s.ws.length := h4
  omega
/-- what read_shop asks -/
theorem rows_read {s : Shop} (h : ShopG s) : rowsOf s ≠ [] ∧ (rowsOf s).length ≤ 250 ∧ (∀ r ∈ rowsOf s, r.ok) ∧ (∀ r ∈ rowsOf s, r.nm ∈ headsV (rowsOf s)) ∧ shopB (shopD (shopOf (rowsOf s))) = true :=
  ⟨rows_ne h, by have := rows_len h; omega, rows_ok h, rows_nm h, by rw [shop_rowsOf h.nd]; exact shopB_ok h.n⟩
def lineD (r : RowV) : D := .str r.line
theorem row_join {r : RowV} (h : r.ok) : (r.words.map (·.length)).sum + r.words.length * (" " : Str).length ≤ 1000000 := by
  obtain ⟨h1, h2⟩ := words_plain h
  have b := words_sum (ws := r.words) (M := 60) fun w hw => (h2 w hw).1
  have e : (" " : Str).length = 1 := rfl
  rw [e]
  omega
/-- a shop's rows tell as much in another order -/
def RowV.core? : RowV → Option (Str × Int × Int × Int × Int)
  | .ware nm a b c d => some (nm, a, b, c, d)
  | _ => none
structure Alike (rs qs : List RowV) : Prop where
  com : ∀ nm, comsV nm rs = comsV nm qs
  part : ∀ nm, partsV nm rs = partsV nm qs
  want : rs.filterMap RowV.want? = qs.filterMap RowV.want?
  core : rs.filterMap RowV.core? = qs.filterMap RowV.core?
theorem ware_core (qs : List RowV) : ∀ rs : List RowV, rs.filterMap (RowV.ware? qs) = (rs.filterMap RowV.core?).map fun c => (⟨c.1, c.2.1, c.2.2.1, c.2.2.2.1, c.2.2.2.2, comsV c.1 qs, partsV c.1 qs⟩ : Ware)
  | [] => rfl
  | r :: rs => by
    cases r with
    | ware nm a b c d => rw [List.filterMap_cons_some (show RowV.ware? qs (.ware nm a b c d) = some _ from rfl), List.filterMap_cons_some (show RowV.core? (.ware nm a b c d) = some _ from rfl), List.map_cons, ware_core qs rs]
    | coming x y z => rw [List.filterMap_cons_none (show RowV.ware? qs (.coming x y z) = none from rfl), List.filterMap_cons_none (show RowV.core? (.coming x y z) = none from rfl), ware_core qs rs]
    | part x y z => rw [List.filterMap_cons_none (show RowV.ware? qs (.part x y z) = none from rfl), List.filterMap_cons_none (show RowV.core? (.part x y z) = none from rfl), ware_core qs rs]
    | want x y z => rw [List.filterMap_cons_none (show RowV.ware? qs (.want x y z) = none from rfl), List.filterMap_cons_none (show RowV.core? (.want x y z) = none from rfl), ware_core qs rs]
theorem head_core : ∀ rs : List RowV, headsV rs = (rs.filterMap RowV.core?).map (·.1)
  | [] => rfl
  | r :: rs => by
    unfold headsV
    have ih := head_core rs
    unfold headsV at ih
    cases r with
    | ware nm a b c d => rw [List.filterMap_cons_some (show RowV.head? (.ware nm a b c d) = some _ from rfl), List.filterMap_cons_some (show RowV.core? (.ware nm a b c d) = some _ from rfl), List.map_cons, ih]
    | coming x y z => rw [List.filterMap_cons_none (show RowV.head? (.coming x y z) = none from rfl), List.filterMap_cons_none (show RowV.core? (.coming x y z) = none from rfl), ih]
    | part x y z => rw [List.filterMap_cons_none (show RowV.head? (.part x y z) = none from rfl), List.filterMap_cons_none (show RowV.core? (.part x y z) = none from rfl), ih]
    | want x y z => rw [List.filterMap_cons_none (show RowV.head? (.want x y z) = none from rfl), List.filterMap_cons_none (show RowV.core? (.want x y z) = none from rfl), ih]
theorem Alike.shop {rs qs : List RowV} (h : Alike rs qs) : shopOf rs = shopOf qs := by
  unfold shopOf
  rw [ware_core, ware_core, h.core, h.want]
  simp only [h.com, h.part]
theorem Alike.heads {rs qs : List RowV} (h : Alike rs qs) : headsV rs = headsV qs := by rw [head_core, head_core, h.core]
/-- what read_shop asks, of other rows -/
theorem alike_read {s : Shop} (h : ShopG s) {rs : List RowV} (ha : Alike rs (rowsOf s)) (hp : rs.Perm (rowsOf s)) : (rs ≠ [] ∧ rs.length ≤ 250 ∧ (∀ r ∈ rs, r.ok) ∧ (∀ r ∈ rs, r.nm ∈ headsV rs) ∧ shopB (shopD (shopOf rs)) = true) ∧ shopOf rs = s := by
  obtain ⟨h1, h2, h3, h4, h5⟩ := rows_read h
  refine ⟨⟨fun e => h1 ?_, by rw [hp.length_eq]; exact h2, fun r hr => h3 r (hp.mem_iff.mp hr), fun r hr => by rw [ha.heads]; exact h4 r (hp.mem_iff.mp hr), by rw [ha.shop]; exact h5⟩, by rw [ha.shop, shop_rowsOf h.nd]⟩
  rw [e] at hp
  exact List.Perm.eq_nil hp.symm |> fun z => z
/-- the wares' rows first -/
def others (w : Ware) : List RowV := w.com.map (comRow w) ++ w.parts.map (partRow w)
def rows2 (s : Shop) : List RowV := s.ws.map wareRow ++ (s.ws.flatMap others ++ s.wants.map wantRow)
theorem flat_split : ∀ ws : List Ware, (ws.flatMap wareRows).Perm (ws.map wareRow ++ ws.flatMap others)
  | [] => .refl _
  | w :: r => by
    rw [List.flatMap_cons, List.flatMap_cons, List.map_cons]
    show (wareRow w :: (others w ++ r.flatMap wareRows)).Perm (wareRow w :: (r.map wareRow ++ (others w ++ r.flatMap others)))
    refine List.Perm.cons _ ?_
    refine (List.Perm.append_left _ (flat_split r)).trans ?_
    rw [← List.append_assoc, ← List.append_assoc]
    exact List.Perm.append_right _ List.perm_append_comm
theorem rows2_perm (s : Shop) : (rows2 s).Perm (rowsOf s) := by
  unfold rows2 rowsOf
  rw [← List.append_assoc]
  exact List.Perm.append_right _ (flat_split s.ws).symm
theorem fm_part2 {β : Type} (g : RowV → Option β) (h : ∀ w, g (wareRow w) = none) : ∀ ws : List Ware, (ws.map wareRow ++ ws.flatMap others).filterMap g = (ws.flatMap wareRows).filterMap g := fun ws => by
  rw [List.filterMap_append, fm_none (l := ws.map wareRow) fun x hx => by
    obtain ⟨w, _, rfl⟩ := List.mem_map.mp hx
    exact h w, List.nil_append, fm_flat, fm_flat]
  refine congrArg (fun f => List.flatMap f ws) (funext fun w => ?_)
  show _ = (wareRow w :: others w).filterMap g
  rw [List.filterMap_cons_none (h w)]
theorem fm_part1 {β : Type} (g : RowV → Option β) (h2 : ∀ w p, g (comRow w p) = none) (h3 : ∀ w p, g (partRow w p) = none) : ∀ ws : List Ware, (ws.map wareRow ++ ws.flatMap others).filterMap g = (ws.flatMap wareRows).filterMap g := fun ws => by
  have ho : ∀ w : Ware, (others w).filterMap g = [] := fun w => fm_none fun x hx => by
    rcases List.mem_append.mp hx with hx | hx
    · obtain ⟨p, _, rfl⟩ := List.mem_map.mp hx
      exact h2 w p
    · obtain ⟨p, _, rfl⟩ := List.mem_map.mp hx
      exact h3 w p
  rw [List.filterMap_append, fm_flat, fm_flat, flat_none fun w _ => ho w, List.append_nil]
  induction ws with
  | nil => rfl
  | cons w r ih =>
    rw [List.map_cons, List.flatMap_cons, ← ih]
    have e : (wareRows w).filterMap g = [wareRow w].filterMap g := by
      show ([wareRow w] ++ others w).filterMap g = _
      rw [List.filterMap_append, ho, List.append_nil]
    rw [e, ← List.filterMap_append]
    rfl
theorem rows2_alike (s : Shop) : Alike (rows2 s) (rowsOf s) := by
  have k : ∀ {β : Type} (g : RowV → Option β), (s.ws.map wareRow ++ s.ws.flatMap others).filterMap g = (s.ws.flatMap wareRows).filterMap g → (rows2 s).filterMap g = (rowsOf s).filterMap g := fun g e => by
    unfold rows2 rowsOf
    rw [← List.append_assoc, List.filterMap_append, e, List.filterMap_append]
  exact ⟨fun nm => k _ (fm_part2 _ (fun _ => rfl) _), fun nm => k _ (fm_part2 _ (fun _ => rfl) _), k _ (fm_part2 _ (fun _ => rfl) _), k _ (fm_part1 _ (fun _ _ => rfl) (fun _ _ => rfl) _)⟩
end N
namespace N
open PySem L2 VL
/-- the lots begun on each day, of lots that come lag days later -/
def begunRow (lag : Int) (row : List Int) : List Int := row.drop lag.toNat ++ List.replicate (min lag.toNat row.length) 0
end N
namespace N
open PySem L2 VL
def rowF (n : Nat) (f : Nat → Int) : List Int := (List.range n).map f
theorem rowF_len (n : Nat) (f : Nat → Int) : (rowF n f).length = n := by
  unfold rowF
  rw [List.length_map, List.length_range]
theorem rowF_get {n d : Nat} {f : Nat → Int} (h : d < n) : (rowF n f)[d]? = some (f d) := by
  unfold rowF
  rw [List.getElem?_map, List.getElem?_range h]
  rfl
theorem rowF_congr {n : Nat} {f g : Nat → Int} (h : ∀ d, d < n → f d = g d) : rowF n f = rowF n g := List.map_congr_left fun d hd => h d (List.mem_range.mp hd)
/-- what comes on a day -/
def comesOn (com : List (Int × Int)) (d : Nat) : Int := ((com.filter fun p => decide (p.1 = (d : Int))).map fun p => p.2).sum
def hadF (w : Ware) (d : Nat) : Int := (if d = 0 then w.stock else 0) + comesOn w.com d
end N
namespace N
open PySem L2 VL
/-- what is wanted of a name on a day -/
def wantOn (wants : List Want) (nm : Str) (d : Nat) : Int := ((wants.filter fun w => decide (w.1 = nm ∧ w.2.1 = (d : Int))).map fun w => w.2.2).sum
theorem wantOn_snoc (ws : List Want) (w : Want) (nm : Str) (d : Nat) : wantOn (ws ++ [w]) nm d = wantOn ws nm d + if w.1 = nm ∧ w.2.1 = (d : Int) then w.2.2 else 0 := by
  unfold wantOn
  rw [List.filter_append, List.map_append, List.sum_append]
  congr 1
  by_cases h : w.1 = nm ∧ w.2.1 = (d : Int)
  · rw [if_pos h]
    simp [h]
  · rw [if_neg h]
    simp [h]
/-- the row of a ware in a plan, its lots begun on a day -/
def begunOn (pl : List (Str × List Int)) (v : Ware) (d : Nat) : Int := (begunRow v.lag ((getS pl v.nm).getD [])).getD d 0
/-- what some parts take of a name on a day -/
def takeParts (pl : List (Str × List Int)) (v : Ware) (ps : List (Str × Int)) (nm : Str) (d : Nat) : Int := ((ps.filter fun p => decide (p.1 = nm)).map fun p => p.2 * begunOn pl v d).sum
/-- what wares take of a name on a day -/
def takeOn (pl : List (Str × List Int)) (vs : List Ware) (nm : Str) (d : Nat) : Int := (vs.map fun v => takeParts pl v v.parts nm d).sum
def needF (s : Shop) (pl : List (Str × List Int)) (nm : Str) (d : Nat) : Int := wantOn s.wants nm d + takeOn pl s.ws nm d
theorem begunRow_len {lag : Int} {row : List Int} (h : 0 ≤ lag) : (begunRow lag row).length = row.length := by
  unfold begunRow
  rw [List.length_append, List.length_drop, List.length_replicate]
  omega
/-- how many days a shop has -/
structure DaysOf (s : Shop) (n : Int) : Prop where
  one : 1 ≤ n
  up : ∀ w ∈ s.wants, w.2.1 + 1 ≤ n
  is : n = 1 ∨ ∃ w ∈ s.wants, n = w.2.1 + 1
end N
namespace N
open PySem L2 VL
/-- how many of a name are wanted, all days together -/
def wantAll (ws : List Want) (nm : Str) : Int := ((ws.filter fun w => decide (w.1 = nm)).map fun w => w.2.2).sum
/-- what a lot takes of a name -/
def partSum (ps : List (Str × Int)) (nm : Str) : Int := ((ps.filter fun p => decide (p.1 = nm)).map (·.2)).sum
theorem partSum_none {ps : List (Str × Int)} {nm : Str} (h : ∀ p ∈ ps, p.1 ≠ nm) : partSum ps nm = 0 := by
  unfold partSum
  rw [List.filter_eq_nil_iff.mpr fun p hp => by simpa using h p hp]
  rfl
theorem sum_le_len {c : Int} : ∀ {l : List Int}, (∀ x ∈ l, 0 ≤ x ∧ x ≤ c) → 0 ≤ l.sum ∧ l.sum ≤ l.length * c
  | [], _ => by simp
  | x :: r, h => by
    have hx := h x List.mem_cons_self
    have ih := sum_le_len fun y hy => h y (List.mem_cons_of_mem _ hy)
    rw [List.sum_cons, List.length_cons]
    have e : ((r.length + 1 : Nat) : Int) * c = r.length * c + c := by
      rw [Int.natCast_add, Int.add_mul]
      simp
    rw [e]
    omega
theorem partSum_le {w : Ware} (h : WareG w) (nm : Str) : 0 ≤ partSum w.parts nm ∧ partSum w.parts nm ≤ 10 ^ 43 := by
  unfold partSum
  have h1 := sum_le_len (c := 10 ^ 42) (l := (w.parts.filter fun p => decide (p.1 = nm)).map (·.2)) fun x hx => by
    obtain ⟨p, hp, rfl⟩ := List.mem_map.mp hx
    have := h.parts p (List.mem_filter.mp hp).1
    omega
  have h2 : ((w.parts.filter fun p => decide (p.1 = nm)).map (·.2)).length ≤ 6 := by
    rw [List.length_map]
    exact Nat.le_trans (List.length_filter_le _ _) h.pl
  have h3 : (((w.parts.filter fun p => decide (p.1 = nm)).map (·.2)).length : Int) * 10 ^ 42 ≤ 6 * 10 ^ 42 := Int.mul_le_mul_of_nonneg_right (by omega) (by decide)
  omega
theorem find_ware {s : Shop} (nd : s.names.Nodup) {w : Ware} (hw : w ∈ s.ws) : s.ws.find? (fun v => decide (v.nm = w.nm)) = some w := by
  cases e : s.ws.find? fun v => decide (v.nm = w.nm) with
  | none =>
    have := List.find?_eq_none.mp e w hw
    simp at this
  | some v =>
    have h1 := List.find?_some e
    have h2 := List.mem_of_find?_eq_some e
    rw [ware_uniq nd h2 hw (of_decide_eq_true h1)]
/-- the shop without stock, floors, days and what is on the way -/
def bareW (w : Ware) : Ware := ⟨w.nm, 0, w.gives, 0, 0, [], w.parts⟩
def bareS (s : Shop) : Shop := ⟨s.ws.map bareW, s.wants.map fun v => (v.1, 0, v.2.2)⟩
theorem bare_names (s : Shop) : (bareS s).names = s.names := by
  unfold Shop.names bareS
  rw [List.map_map]
  rfl
theorem ShopG.bare {s : Shop} (h : ShopG s) : ShopG (bareS s) := by
  refine ⟨by unfold bareS; rw [List.length_map]; exact h.lo, by unfold bareS; rw [List.length_map]; exact h.hi, by rw [bare_names]; exact h.nd, fun w hw => ?_, fun w hw p hp => ?_, ?_⟩
  · obtain ⟨v, hv, rfl⟩ := List.mem_map.mp hw
    have := h.ws v hv
    exact ⟨this.nm, by show (0 : Int) ≤ 0 ∧ (0 : Int) ≤ 30; decide, this.gives, by show Amt 0; decide, by show Amt 0; decide, Nat.zero_le _, fun p hp => (by cases hp), this.pl, this.pn, this.parts⟩
  · obtain ⟨v, hv, rfl⟩ := List.mem_map.mp hw
    rw [bare_names]
    exact h.sub v hv p hp
  · rw [bare_names]
    refine ⟨by unfold bareS; rw [List.length_map]; exact h.wants.len, fun v hv => ?_⟩
    obtain ⟨u, hu, rfl⟩ := List.mem_map.mp hv
    have := h.wants.ok u hu
    exact ⟨this.1, by show (0 : Int) ≤ 0 ∧ (0 : Int) ≤ 400; decide, this.2.2⟩
end N
namespace N
open PySem L2 VL
theorem takeParts_eq (pl : List (Str × List Int)) (v : Ware) (ps : List (Str × Int)) (nm : Str) (d : Nat) : takeParts pl v ps nm d = partSum ps nm * begunOn pl v d := by
  unfold takeParts partSum
  induction ps with
  | nil => simp
  | cons p r ih =>
    by_cases h : p.1 = nm
    · rw [List.filter_cons_of_pos (by simpa using h), List.map_cons, List.sum_cons, ih, List.map_cons, List.sum_cons, Int.add_mul]
    · rw [List.filter_cons_of_neg (by simpa using h), ih]
theorem takeOn_congr {pl pl' : List (Str × List Int)} {nm : Str} {d : Nat} : ∀ {vs : List Ware}, (∀ v ∈ vs, partSum v.parts nm * begunOn pl v d = partSum v.parts nm * begunOn pl' v d) → takeOn pl vs nm d = takeOn pl' vs nm d
  | [], _ => rfl
  | v :: r, h => by
    have ih := takeOn_congr (vs := r) fun u hu => h u (List.mem_cons_of_mem _ hu)
    unfold takeOn at ih ⊢
    rw [List.map_cons, List.sum_cons, List.map_cons, List.sum_cons, ih, takeParts_eq, takeParts_eq, h v List.mem_cons_self]
theorem needF_congr {s : Shop} {pl pl' : List (Str × List Int)} {nm : Str} (h : ∀ v ∈ s.ws, nm ∈ v.parts.map (·.1) → getS pl v.nm = getS pl' v.nm) (d : Nat) : needF s pl nm d = needF s pl' nm d := by
  unfold needF
  congr 1
  refine takeOn_congr fun v hv => ?_
  by_cases e : nm ∈ v.parts.map (·.1)
  · unfold begunOn
    rw [h v hv e]
  · rw [partSum_none fun p hp q => e (by rw [← q]; exact List.mem_map_of_mem (f := (·.1)) hp)]
    simp
/-- the least row of a name, by the rows ahead -/
def rowAt (s : Shop) (n : Nat) (pl : List (Str × List Int)) (x : Str) : List Int := match s.ws.find? fun v => decide (v.nm = x) with
  | some w => leastLots (rowF n (hadF w)) (rowF n (needF s pl w.nm)) w.gives w.floor
  | none => []
theorem rowAt_eq {s : Shop} (nd : s.names.Nodup) {n : Nat} {pl : List (Str × List Int)} {w : Ware} (hw : w ∈ s.ws) : rowAt s n pl w.nm = leastLots (rowF n (hadF w)) (rowF n (needF s pl w.nm)) w.gives w.floor := by
  unfold rowAt
  rw [find_ware nd hw]
def planTo (s : Shop) (n : Nat) : Nat → List (Str × List Int)
  | 0 => []
  | i + 1 => match (workedOf s)[i]? with
    | some x => planTo s n i ++ [(x, rowAt s n (planTo s n i) x)]
    | none => planTo s n i
def leastPlan (s : Shop) (n : Nat) : List (Str × List Int) := planTo s n (workedOf s).length
theorem planTo_succ {s : Shop} {n i : Nat} {x : Str} (h : (workedOf s)[i]? = some x) : planTo s n (i + 1) = planTo s n i ++ [(x, rowAt s n (planTo s n i) x)] := by
  show (match (workedOf s)[i]? with | some x => _ | none => _) = _
  rw [h]
theorem planTo_keys (s : Shop) (n : Nat) : ∀ i, i ≤ (workedOf s).length → (planTo s n i).map (·.1) = (workedOf s).take i
  | 0, _ => by rw [List.take_zero]; rfl
  | i + 1, h => by
    have hx : (workedOf s)[i]? = some (workedOf s)[i] := List.getElem?_eq_getElem (by omega)
    rw [planTo_succ hx, List.map_append, planTo_keys s n i (by omega), take_one hx]
    rfl
theorem getS_app_left {α : Type} : ∀ {t u : List (Str × α)} {k : Str}, k ∈ t.map (·.1) → getS (t ++ u) k = getS t k
  | [], _, _, h => by cases h
  | (a, x) :: r, u, k, h => by
    show (if a = k then some x else getS (r ++ u) k) = if a = k then some x else getS r k
    by_cases e : a = k
    · rw [if_pos e, if_pos e]
    · rw [if_neg e, if_neg e]
      rw [List.map_cons] at h
      exact getS_app_left ((List.mem_cons.mp h).resolve_left fun q => e q.symm)
theorem getS_app_right {α : Type} : ∀ {t u : List (Str × α)} {k : Str}, k ∉ t.map (·.1) → getS (t ++ u) k = getS u k
  | [], _, _, _ => rfl
  | (a, x) :: r, u, k, h => by
    rw [List.map_cons] at h
    show (if a = k then some x else getS (r ++ u) k) = getS u k
    rw [if_neg fun e => h (by rw [e]; exact List.mem_cons_self)]
    exact getS_app_right fun q => h (List.mem_cons_of_mem _ q)
theorem planTo_pre {s : Shop} {n i j : Nat} (hij : i ≤ j) (hj : j ≤ (workedOf s).length) {x : Str} (hx : x ∈ (workedOf s).take i) : getS (planTo s n j) x = getS (planTo s n i) x := by
  induction j with
  | zero =>
    have : i = 0 := by omega
    rw [this]
  | succ j ih =>
    by_cases e : i = j + 1
    · rw [e]
    · have hy : (workedOf s)[j]? = some (workedOf s)[j] := List.getElem?_eq_getElem (by omega)
      rw [planTo_succ hy, getS_app_left (by rw [planTo_keys s n j (by omega)]; exact (List.take_subset_take_left _ (by omega)) hx)]
      exact ih (by omega) (by omega)
def rowOf (s : Shop) (n : Nat) (x : Str) : List Int := (getS (leastPlan s n) x).getD []
theorem planTo_get {s : Shop} (nd : s.names.Nodup) {n i : Nat} {x : Str} (hx : (workedOf s)[i]? = some x) {j : Nat} (hij : i < j) (hj : j ≤ (workedOf s).length) : getS (planTo s n j) x = some (rowAt s n (planTo s n i) x) := by
  have hil := lt_of_get hx
  have hm : x ∈ (workedOf s).take (i + 1) := by rw [take_one hx]; exact List.mem_append_right _ (List.mem_singleton.mpr rfl)
  rw [planTo_pre (i := i + 1) hij hj hm, planTo_succ hx, getS_app_right (by rw [planTo_keys s n i (by omega)]; exact not_take (workedOf_nodup nd) hx)]
  show (if x = x then some _ else none) = _
  rw [if_pos rfl]
theorem rowOf_get {s : Shop} (nd : s.names.Nodup) {n i : Nat} {x : Str} (hx : (workedOf s)[i]? = some x) {j : Nat} (hij : i < j) (hj : j ≤ (workedOf s).length) : getS (planTo s n j) x = some (rowOf s n x) := by
  have h1 := planTo_get (n := n) nd hx hij hj
  have h2 : getS (leastPlan s n) x = some (rowAt s n (planTo s n i) x) := planTo_get nd hx (lt_of_get hx) (Nat.le_refl _)
  unfold rowOf
  rw [h1, h2]
  rfl
theorem plan_get {s : Shop} (nd : s.names.Nodup) {n : Nat} {x : Str} (hx : x ∈ s.names) : getS (leastPlan s n) x = some (rowOf s n x) := by
  obtain ⟨i, hi⟩ := List.getElem?_of_mem (workedOf_mem.mpr hx)
  exact rowOf_get nd hi (lt_of_get hi) (Nat.le_refl _)
/-- the users of a name have their rows by then -/
theorem need_ahead {s : Shop} (hA : ShopA s) {n i : Nat} {x : Str} (hx : (workedOf s)[i]? = some x) (d : Nat) : needF s (planTo s n i) x d = needF s (leastPlan s n) x d := needF_congr (fun v hv hm => by
  obtain ⟨p, hp, e⟩ := List.mem_map.mp hm
  have hvn : v.nm ∈ s.names := List.mem_map_of_mem (f := fun w : Ware => w.nm) hv
  obtain ⟨k, hk⟩ := List.getElem?_of_mem (workedOf_mem.mpr hvn)
  obtain ⟨j, hj, hj2⟩ := parts_behind hA hv hk hp
  rw [e] at hj2
  have hji := (List.getElem?_inj (lt_of_get hj2) (workedOf_nodup hA.ok.nd)).mp (hj2.trans hx.symm)
  subst hji
  rw [rowOf_get hA.ok.nd hk hj (Nat.le_of_lt (lt_of_get hx)), plan_get hA.ok.nd hvn]) d
/-- THE LEAST PLAN: each row is the least, by the rows of the plan -/
theorem rowOf_eq {s : Shop} (hA : ShopA s) {n : Nat} {w : Ware} (hw : w ∈ s.ws) : rowOf s n w.nm = leastLots (rowF n (hadF w)) (rowF n (needF s (leastPlan s n) w.nm)) w.gives w.floor := by
  have hwn : w.nm ∈ s.names := List.mem_map_of_mem (f := fun w : Ware => w.nm) hw
  obtain ⟨i, hi⟩ := List.getElem?_of_mem (workedOf_mem.mpr hwn)
  have h2 : getS (leastPlan s n) w.nm = some (rowAt s n (planTo s n i) w.nm) := planTo_get hA.ok.nd hi (lt_of_get hi) (Nat.le_refl _)
  have h3 : rowOf s n w.nm = rowAt s n (planTo s n i) w.nm := by unfold rowOf; rw [h2]; rfl
  rw [h3, rowAt_eq hA.ok.nd hw, rowF_congr fun d _ => need_ahead hA hi d]
theorem rowOf_len {s : Shop} (hA : ShopA s) {n : Nat} {w : Ware} (hw : w ∈ s.ws) : (rowOf s n w.nm).length = n := by
  rw [rowOf_eq hA hw, leastLots_len, rowF_len, rowF_len, Nat.min_self]
theorem rowOf_nn {s : Shop} (hA : ShopA s) {n : Nat} {w : Ware} (hw : w ∈ s.ws) : ∀ x ∈ rowOf s n w.nm, 0 ≤ x := by
  rw [rowOf_eq hA hw]
  exact llGo_nn _ _ _ _
structure PlanIn (s : Shop) (n : Nat) : Prop where
  a : ShopA s
  ws : ∀ w ∈ s.ws, WareG w
  hi : s.ws.length ≤ 12
  dn : DaysOf s n
  wl : s.wants.length ≤ 30
  w : ∀ v ∈ s.wants, (0 ≤ v.2.1 ∧ v.2.1 ≤ 900) ∧ 0 ≤ v.2.2 ∧ v.2.2 < 2 ^ 1000
theorem rowF_sum_add (n : Nat) (f g : Nat → Int) : (rowF n fun d => f d + g d).sum = (rowF n f).sum + (rowF n g).sum := by
  unfold rowF
  induction n with
  | zero => rfl
  | succ n ih =>
    rw [List.range_succ, List.map_append, List.map_append, List.map_append, List.sum_append, List.sum_append, List.sum_append, ih]
    simp
    omega
theorem rowF_sum_mul (n : Nat) (c : Int) (f : Nat → Int) : (rowF n fun d => c * f d).sum = c * (rowF n f).sum := by
  unfold rowF
  induction n with
  | zero => simp
  | succ n ih =>
    rw [List.range_succ, List.map_append, List.map_append, List.sum_append, List.sum_append, ih]
    simp [Int.mul_add]
theorem sum_nn {l : List Int} (h : ∀ x ∈ l, 0 ≤ x) : 0 ≤ l.sum := by
  induction l with
  | nil => simp
  | cons x r ih =>
    rw [List.sum_cons]
    have := h x List.mem_cons_self
    have := ih fun y hy => h y (List.mem_cons_of_mem _ hy)
    omega
theorem take_le_sum {l : List Int} (h : ∀ x ∈ l, 0 ≤ x) (k : Nat) : (l.take k).sum ≤ l.sum := by
  have e : l.sum = (l.take k).sum + (l.drop k).sum := by rw [← List.sum_append, List.take_append_drop]
  have := sum_nn fun x hx => h x (List.mem_of_mem_drop (i := k) (l := l) hx)
  omega
theorem hadF_nn {w : Ware} (h : WareG w) (n : Nat) : ∀ x ∈ rowF n (hadF w), 0 ≤ x := fun x hx => by
  obtain ⟨d, _, rfl⟩ := List.mem_map.mp hx
  unfold hadF comesOn
  have h1 := sum_nn (l := (w.com.filter fun p => decide (p.1 = (d : Int))).map fun p => p.2) fun x hx => by
    obtain ⟨p, hp, rfl⟩ := List.mem_map.mp hx
    exact (h.com p (List.mem_filter.mp hp).1).2.1
  have := h.stock.1
  split <;> omega
def q0 : Int := 2 ^ 1010
theorem PlanIn.n {s : Shop} {n : Nat} (h : PlanIn s n) : n ≤ 901 := by
  rcases h.dn.is with e | ⟨v, hv, e⟩
  · omega
  · have := (h.w v hv).1
    omega
/-- lots come ahead of the lag -/
def Early (s : Shop) (n : Nat) (w : Ware) (day : Nat) (lots : Int) : Prop := (rowOf s n w.nm)[day]? = some lots ∧ 0 < lots ∧ (day : Int) < w.lag
end N
namespace N
open PySem L2 VL
/-- the same wants by days -/
structure WantsLike (us vs : List Want) : Prop where
  on : ∀ nm d, wantOn us nm d = wantOn vs nm d
  all : ∀ nm, wantAll us nm = wantAll vs nm
section
variable {ws : List Ware} {us vs : List Want}
theorem WantsLike.symm (h : WantsLike us vs) : WantsLike vs us := ⟨fun a b => (h.on a b).symm, fun a => (h.all a).symm⟩
end
theorem days_ex (s : Shop) (h : ∀ v ∈ s.wants, 0 ≤ v.2.1) : ∃ n : Nat, DaysOf s n := by
  have key : ∀ vs : List Want, (∀ v ∈ vs, 0 ≤ v.2.1) → ∃ n : Nat, 1 ≤ n ∧ (∀ v ∈ vs, v.2.1 + 1 ≤ n) ∧ (n = 1 ∨ ∃ v ∈ vs, (n : Int) = v.2.1 + 1) := fun vs => by
    induction vs with
    | nil => intro _; exact ⟨1, Nat.le_refl _, fun v hv => (by cases hv), .inl rfl⟩
    | cons v r ih =>
      intro h
      obtain ⟨n, h1, h2, h3⟩ := ih fun u hu => h u (List.mem_cons_of_mem _ hu)
      have hv := h v List.mem_cons_self
      by_cases q : (n : Int) ≤ v.2.1 + 1
      · refine ⟨(v.2.1 + 1).toNat, by omega, fun u hu => ?_, .inr ⟨v, List.mem_cons_self, by omega⟩⟩
        rcases List.mem_cons.mp hu with rfl | hu
        · omega
        · have := h2 u hu
          omega
      · refine ⟨n, h1, fun u hu => ?_, ?_⟩
        · rcases List.mem_cons.mp hu with rfl | hu
          · omega
          · exact h2 u hu
        · rcases h3 with h3 | ⟨u, hu, e⟩
          · exact .inl h3
          · exact .inr ⟨u, List.mem_cons_of_mem _ hu, e⟩
  obtain ⟨n, h1, h2, h3⟩ := key s.wants h
  refine ⟨n, by omega, h2, ?_⟩
  rcases h3 with h3 | h3
  · exact .inl (by omega)
  · exact .inr h3
/-- wants that are like the others, drawn from them -/
structure SplitOk (us vs : List Want) : Prop where
  like : WantsLike us vs
  days : (∀ v ∈ us, ∃ u ∈ vs, v.2.1 ≤ u.2.1) ∧ ∀ v ∈ vs, ∃ u ∈ us, u.2.1 = v.2.1
theorem SplitOk.dn {ws : List Ware} {us vs : List Want} (h : SplitOk us vs) {n : Nat} (g : DaysOf ⟨ws, vs⟩ n) : DaysOf ⟨ws, us⟩ n := by
  refine ⟨g.one, fun v hv => ?_, ?_⟩
  · obtain ⟨u, hu, e⟩ := h.days.1 v hv
    have : u.2.1 + 1 ≤ n := g.up u hu
    omega
  · rcases g.is with e | ⟨v, hv, e⟩
    · exact .inl e
    · obtain ⟨u, hu, e2⟩ := h.days.2 v hv
      exact .inr ⟨u, hu, by rw [e2]; exact e⟩
end N
namespace N
open PySem L2 VL
theorem begun_get {lag : Int} (h0 : 0 ≤ lag) {row : List Int} {d : Nat} (hd : d < row.length) : (begunRow lag row)[d]? = some (if d + lag.toNat < row.length then row.getD (d + lag.toNat) 0 else 0) := by
  unfold begunRow
  by_cases h : d + lag.toNat < row.length
  · rw [if_pos h, List.getElem?_append_left (by rw [List.length_drop]; omega), List.getElem?_drop]
    rw [show lag.toNat + d = d + lag.toNat by omega, List.getElem?_eq_getElem h, List.getD_eq_getElem?_getD, List.getElem?_eq_getElem h]
    rfl
  · rw [if_neg h, List.getElem?_append_right (by rw [List.length_drop]; omega), List.getElem?_replicate, List.length_drop, if_pos (by omega)]
/-- a shop of drawn wares, and a plan of rows for it -/
structure PlanOk (s : Shop) (pl : List (Str × List Int)) (n : Nat) : Prop where
  g : ShopG s
  ac : Acyclic (partsOf s)
  dn : DaysOf s n
  hi : n ≤ 900
  pl : ∀ w ∈ s.ws, ∃ row, getS pl w.nm = some row ∧ row.length = n ∧ ∀ x ∈ row, 0 ≤ x ∧ x.natAbs.log2 < 4000
theorem amt_log {x k : Int} (h : 0 ≤ x ∧ x < 10 ^ 100) : x.natAbs.log2 < 4000 := by
  by_cases q : x = 0
  · rw [q]
    decide
  · rw [Nat.log2_lt (by omega)]
    have h3 : x.natAbs < 10 ^ 100 := by omega
    exact Nat.lt_of_lt_of_le h3 (by decide)
theorem rowF_succ_sum (n : Nat) (f : Nat → Int) : (rowF (n + 1) f).sum = (rowF n f).sum + f n := by
  unfold rowF
  rw [List.range_succ, List.map_append, List.sum_append]
  simp
theorem rowF_take {n i : Nat} {f : Nat → Int} (h : i ≤ n) : (rowF n f).take i = rowF i f := by
  unfold rowF
  rw [← List.map_take, List.take_range, Nat.min_eq_left h]
/-- rows of small lots for the wares, in their order -/
structure DrawnPlan (ws : List Ware) (pl : List (Str × List Int)) (n : Nat) (top : Int) : Prop where
  keys : pl.map (·.1) = ws.map (·.nm)
  rows : ∀ p ∈ pl, p.2.length = n ∧ ∀ x ∈ p.2, 0 ≤ x ∧ x ≤ 2 + top
theorem DrawnPlan.row {ws : List Ware} {pl : List (Str × List Int)} {n : Nat} {top : Int} (h : DrawnPlan ws pl n top) (nd : (ws.map (·.nm)).Nodup) {w : Ware} (hw : w ∈ ws) : ∃ row, getS pl w.nm = some row ∧ row.length = n ∧ ∀ x ∈ row, 0 ≤ x ∧ x ≤ 2 + top := by
  have hm : w.nm ∈ pl.map (·.1) := by rw [h.keys]; exact List.mem_map_of_mem (f := fun w : Ware => w.nm) hw
  obtain ⟨⟨k, row⟩, hp, e⟩ := List.mem_map.mp hm
  dsimp only at e
  subst e
  exact ⟨row, getS_of (by rw [h.keys]; exact nd) hp, h.rows _ hp⟩
theorem DrawnPlan.ok {s : Shop} {pl : List (Str × List Int)} {n : Nat} {top : Int} (h : DrawnPlan s.ws pl n top) (g : ShopG s) (ac : Acyclic (partsOf s)) (hn : DaysOf s n) (h9 : n ≤ 900) (ht : top ≤ 10 ^ 9) : PlanOk s pl n := ⟨g, ac, hn, h9, fun w hw => by
  obtain ⟨row, h1, h2, h3⟩ := h.row g.nd hw
  exact ⟨row, h1, h2, fun x hx => ⟨(h3 x hx).1, amt_log (k := 0) ⟨(h3 x hx).1, by have := (h3 x hx).2; omega⟩⟩⟩⟩
theorem PlanOk.row {s : Shop} {pl : List (Str × List Int)} {n : Nat} (h : PlanOk s pl n) {w : Ware} (hw : w ∈ s.ws) : ∃ row, getS pl w.nm = some row ∧ row.length = n ∧ ∀ x ∈ row, 0 ≤ x ∧ x.natAbs.log2 < 4000 := h.pl w hw
end N
namespace N
open PySem L2 VL
def rowP (pl : List (Str × List Int)) (nm : Str) : List Int := (getS pl nm).getD []
def EarlyAt (pl : List (Str × List Int)) (w : Ware) (d : Nat) : Prop := 0 < (rowP pl w.nm).getD d 0 ∧ (d : Int) < w.lag
def stockP (s : Shop) (pl : List (Str × List Int)) (w : Ware) (n : Nat) : List Int := soFar 0 (rowF n fun d => hadF w d + w.gives * (rowP pl w.nm).getD d 0 - needF s pl w.nm d)
def BelowAt (s : Shop) (pl : List (Str × List Int)) (n : Nat) (w : Ware) (d : Nat) : Prop := (stockP s pl w n).getD d 0 < w.floor
def Flt (s : Shop) (pl : List (Str × List Int)) (n : Nat) (w : Ware) (d : Nat) : Prop := EarlyAt pl w d ∨ BelowAt s pl n w d
/-- no day below the floor, and none with a lot too many -/
def LeastAt (s : Shop) (pl : List (Str × List Int)) (n : Nat) (w : Ware) : Prop := ∀ d, d < n → w.floor ≤ (stockP s pl w n).getD d 0 ∧ (0 < (rowP pl w.nm).getD d 0 → (stockP s pl w n).getD d 0 - w.gives < w.floor)
end N
namespace N
open PySem L2 VL
theorem rowF_getD_sum : ∀ (row : List Int) (k : Nat), k ≤ row.length → (rowF k fun e => row.getD e 0).sum = (row.take k).sum
  | row, 0, _ => by rw [List.take_zero]; rfl
  | row, k + 1, h => by
    have hk : row[k]? = some (row.getD k 0) := by rw [List.getD_eq_getElem?_getD, List.getElem?_eq_getElem (by omega)]; rfl
    rw [rowF_succ_sum, rowF_getD_sum row k (by omega), take_one hk, List.sum_append]
    simp
theorem stockP_left {s : Shop} {pl : List (Str × List Int)} {w : Ware} {n d : Nat} (hl : (rowP pl w.nm).length = n) (hd : d < n) : (stockP s pl w n).getD d 0 = leftAt (rowF n (hadF w)) (rowF n (needF s pl w.nm)) w.gives (rowP pl w.nm) d := by
  have e : (stockP s pl w n)[d]? = some (0 + ((rowF n fun d => hadF w d + w.gives * (rowP pl w.nm).getD d 0 - needF s pl w.nm d).take (d + 1)).sum) := soFar_get 0 _ d _ (rowF_get hd)
  rw [List.getD_eq_getElem?_getD, e]
  show 0 + _ = _
  rw [rowF_take (by omega)]
  unfold leftAt
  rw [rowF_take (by omega), rowF_take (by omega)]
  have e1 : (rowF (d + 1) fun d => hadF w d + w.gives * (rowP pl w.nm).getD d 0 - needF s pl w.nm d) = rowF (d + 1) fun d => (hadF w d + w.gives * (rowP pl w.nm).getD d 0) + (-1) * needF s pl w.nm d := rowF_congr fun d _ => by omega
  rw [e1, rowF_sum_add, rowF_sum_add, rowF_sum_mul, rowF_sum_mul, rowF_getD_sum _ _ (by omega), Int.mul_comm w.gives]
  omega
theorem rowP_least {s : Shop} (nd : s.names.Nodup) {n : Nat} {w : Ware} (hw : w ∈ s.ws) : rowP (leastPlan s n) w.nm = rowOf s n w.nm := by
  unfold rowP
  rw [plan_get nd (List.mem_map_of_mem (f := fun w : Ware => w.nm) hw)]
  rfl
theorem least_at {s : Shop} {n : Nat} (h : PlanIn s n) {w : Ware} (hw : w ∈ s.ws) : LeastAt s (leastPlan s n) n w := fun d hd => by
  have er := rowP_least (n := n) h.a.ok.nd hw
  have hlen := rowOf_len (n := n) h.a hw
  rw [stockP_left (by rw [er]; exact hlen) hd, er]
  have hx : (rowOf s n w.nm)[d]? = some ((rowOf s n w.nm).getD d 0) := by rw [List.getD_eq_getElem?_getD, List.getElem?_eq_getElem (by omega)]; rfl
  have e := rowOf_eq (n := n) h.a hw
  rw [e] at hx
  have hg : 0 < w.gives := by have := (h.ws w hw).gives.1; omega
  have := least_right hg hx (rowF_get hd) (rowF_get hd)
  rw [← e] at this
  exact ⟨this.2.1, this.2.2⟩
end N
namespace N
open PySem L2 VL
theorem take_mono {l : List Int} (h : ∀ x ∈ l, 0 ≤ x) {j k : Nat} (hjk : j ≤ k) : (l.take j).sum ≤ (l.take k).sum := by
  have := take_le_sum (l := l.take k) (fun x hx => h x (List.mem_of_mem_take hx)) j
  rw [List.take_take, Nat.min_eq_left hjk] at this
  exact this
theorem least_below {a b b' l : List Int} {g f : Int} {n : Nat} (hg : 0 < g) (ha : a.length = n) (hb : b.length = n) (hbb : ∀ i, i < n → (b.take (i + 1)).sum ≤ (b'.take (i + 1)).sum) (hl : ∀ x ∈ l, 0 ≤ x) (hk : ∀ i, i < n → f ≤ leftAt a b' g l i) :
    ∀ k, k ≤ n → ((leastLots a b g f).take k).sum ≤ (l.take k).sum
  | 0, _ => by rw [List.take_zero, List.take_zero]; exact Int.le_refl _
  | k + 1, h => by
    have ih := least_below hg ha hb hbb hl hk k (by omega)
    have ek : k < n := by omega
    have hak : a[k]? = some a[k] := List.getElem?_eq_getElem (by omega)
    have hbk : b[k]? = some b[k] := List.getElem?_eq_getElem (by omega)
    have ht := soFar_get 0 a k _ hak
    have hn := soFar_get 0 b k _ hbk
    have hx := zip_get ht hn
    have e1 : ((leastLots a b g f).take (k + 1)).sum = max (llAt g f 0 (((soFar 0 a).zip (soFar 0 b)).take k)) (-((0 + (a.take (k + 1)).sum - (0 + (b.take (k + 1)).sum) - f) / g)) := by
      unfold leastLots
      rw [llGo_take, take_one hx]
      have := llGo_sum g f 0 (((soFar 0 a).zip (soFar 0 b)).take k ++ [(0 + (a.take (k + 1)).sum, 0 + (b.take (k + 1)).sum)])
      rw [Int.zero_add] at this
      rw [this, llAt_app]
    have e2 : llAt g f 0 (((soFar 0 a).zip (soFar 0 b)).take k) = ((leastLots a b g f).take k).sum := by
      unfold leastLots
      rw [llGo_take]
      have := llGo_sum g f 0 (((soFar 0 a).zip (soFar 0 b)).take k)
      rw [Int.zero_add] at this
      exact this.symm
    have hm := take_mono hl (show k ≤ k + 1 by omega)
    have hkk := hk k ek
    have hbk' := hbb k ek
    unfold leftAt at hkk
    have h3 : -(l.take (k + 1)).sum ≤ (0 + (a.take (k + 1)).sum - (0 + (b.take (k + 1)).sum) - f) / g := by
      refine Int.le_ediv_of_mul_le hg ?_
      rw [Int.neg_mul]
      omega
    rw [e1, e2]
    omega
theorem sum_rep0 : ∀ m : Nat, (List.replicate m (0 : Int)).sum = 0
  | 0 => rfl
  | m + 1 => by rw [List.replicate_succ, List.sum_cons, sum_rep0 m]; rfl
/-- what is begun up to a day, in all -/
theorem begun_take {lag : Int} (h0 : 0 ≤ lag) {row : List Int} {k : Nat} (hk : k ≤ row.length) : (rowF k fun d => (begunRow lag row).getD d 0).sum = (row.take (lag.toNat + k)).sum - (row.take lag.toNat).sum := by
  rw [rowF_getD_sum _ _ (by rw [begunRow_len h0]; exact hk)]
  unfold begunRow
  have e : (row.take (lag.toNat + k)).sum = (row.take lag.toNat).sum + ((row.drop lag.toNat).take k).sum := by
    rw [List.take_add, List.sum_append]
  rw [e, List.take_append, List.sum_append, List.take_replicate, sum_rep0]
  omega
theorem begunOn_sum {pl : List (Str × List Int)} {v : Ware} (h0 : 0 ≤ v.lag) {k n : Nat} (hl : (rowP pl v.nm).length = n) (hk : k ≤ n) : (rowF k (begunOn pl v)).sum = ((rowP pl v.nm).take (v.lag.toNat + k)).sum - ((rowP pl v.nm).take v.lag.toNat).sum := begun_take (row := rowP pl v.nm) h0 (show k ≤ (rowP pl v.nm).length by rw [hl]; exact hk)
theorem no_early_sum {row : List Int} (h0 : ∀ x ∈ row, 0 ≤ x) {lag : Int} (he : ∀ d, d < row.length → (d : Int) < lag → ¬ 0 < row.getD d 0) : ∀ k : Nat, (k : Int) ≤ lag → (row.take k).sum = 0
  | 0, _ => by rw [List.take_zero]; rfl
  | k + 1, h => by
    by_cases hk : k < row.length
    · have hr : row[k]? = some (row.getD k 0) := by rw [List.getD_eq_getElem?_getD, List.getElem?_eq_getElem hk]; rfl
      have h1 := h0 _ (List.mem_of_getElem? hr)
      have h2 := he k hk (by omega)
      have h3 : row.getD k 0 = 0 := by omega
      rw [take_one hr, List.sum_append, no_early_sum h0 he k (by omega), h3]
      rfl
    · rw [List.take_of_length_le (by omega)]
      have := no_early_sum h0 he k (by omega)
      rwa [List.take_of_length_le (by omega)] at this
theorem takeOn_sum (pl : List (Str × List Int)) (nm : Str) (k : Nat) : ∀ vs : List Ware, (rowF k (takeOn pl vs nm)).sum = (vs.map fun v => partSum v.parts nm * (rowF k (begunOn pl v)).sum).sum
  | [] => by
    rw [show rowF k (takeOn pl [] nm) = rowF k (fun d => 0 * (0 : Int)) from rowF_congr fun d _ => by rfl, rowF_sum_mul]
    simp
  | v :: r => by
    have ih := takeOn_sum pl nm k r
    rw [show rowF k (takeOn pl (v :: r) nm) = rowF k fun d => partSum v.parts nm * begunOn pl v d + takeOn pl r nm d from rowF_congr fun d _ => by
      unfold takeOn
      rw [List.map_cons, List.sum_cons, takeParts_eq], rowF_sum_add, rowF_sum_mul, ih, List.map_cons, List.sum_cons]
theorem sum_le_map {α : Type} {f g : α → Int} : ∀ {l : List α}, (∀ x ∈ l, f x ≤ g x) → (l.map f).sum ≤ (l.map g).sum
  | [], _ => Int.le_refl _
  | x :: r, h => by
    rw [List.map_cons, List.map_cons, List.sum_cons, List.sum_cons]
    have h1 := h x List.mem_cons_self
    have h2 := sum_le_map fun y hy => h y (List.mem_cons_of_mem x hy)
    omega
/-- THE LEAST PLAN LIES BENEATH -/
theorem beneath {s : Shop} {n : Nat} (h : PlanIn s n) {pl : List (Str × List Int)} (hpl : ∀ w ∈ s.ws, (rowP pl w.nm).length = n ∧ ∀ x ∈ rowP pl w.nm, 0 ≤ x) (hk : ∀ w ∈ s.ws, ∀ d, d < n → ¬ Flt s pl n w d) :
    ∀ w ∈ s.ws, ∀ k, k ≤ n → ((rowOf s n w.nm).take k).sum ≤ ((rowP pl w.nm).take k).sum := by
  have nd := h.a.ok.nd
  have key : ∀ (i : Nat) (w : Ware), w ∈ s.ws → (workedOf s)[i]? = some w.nm → ∀ k, k ≤ n → ((rowOf s n w.nm).take k).sum ≤ ((rowP pl w.nm).take k).sum := fun i => by
    induction i using Nat.strongRecOn with
    | ind i ih =>
      intro w hw hi
      have hwg := h.ws w hw
      have hg : 0 < w.gives := by have := hwg.gives.1; omega
      rw [rowOf_eq h.a hw]
      refine least_below (b' := rowF n (needF s pl w.nm)) hg (rowF_len _ _) (rowF_len _ _) (fun j hj => ?_) (hpl w hw).2 (fun j hj => ?_)
      · rw [rowF_take (by omega), rowF_take (by omega)]
        have es : ∀ pl' : List (Str × List Int), (rowF (j + 1) (needF s pl' w.nm)).sum = (rowF (j + 1) (wantOn s.wants w.nm)).sum + (rowF (j + 1) (takeOn pl' s.ws w.nm)).sum := fun pl' => rowF_sum_add _ _ _
        rw [es, es, takeOn_sum, takeOn_sum]
        refine Int.add_le_add_left (sum_le_map fun v hv => ?_) _
        have hps := (partSum_le (h.ws v hv) w.nm).1
        by_cases e : w.nm ∈ v.parts.map (·.1)
        · refine Int.mul_le_mul_of_nonneg_left ?_ hps
          obtain ⟨p, hp, ep⟩ := List.mem_map.mp e
          have hvn : v.nm ∈ s.names := List.mem_map_of_mem (f := fun w : Ware => w.nm) hv
          obtain ⟨m, hm⟩ := List.getElem?_of_mem (workedOf_mem.mpr hvn)
          obtain ⟨m', hm1, hm2⟩ := parts_behind h.a hv hm hp
          rw [ep] at hm2
          have hmi := (List.getElem?_inj (lt_of_get hm2) (workedOf_nodup nd)).mp (hm2.trans hi.symm)
          subst hmi
          have hlag := (h.ws v hv).lag.1
          have er := rowP_least (n := n) nd hv
          rw [begunOn_sum hlag (by rw [er]; exact rowOf_len h.a hv) (show j + 1 ≤ n by omega), begunOn_sum hlag (hpl v hv).1 (show j + 1 ≤ n by omega), er]
          have h0 := no_early_sum (hpl v hv).2 (lag := v.lag) (fun d hd hl z => hk v hv d (by have := (hpl v hv).1; omega) (.inl ⟨z, hl⟩)) v.lag.toNat (by omega)
          have h1 := sum_nn (l := (rowOf s n v.nm).take v.lag.toNat) fun x hx => rowOf_nn h.a hv x (List.mem_of_mem_take hx)
          have h2 : ((rowOf s n v.nm).take (v.lag.toNat + (j + 1))).sum ≤ ((rowP pl v.nm).take (v.lag.toNat + (j + 1))).sum := by
            by_cases q : v.lag.toNat + (j + 1) ≤ n
            · exact ih m hm1 v hv hm _ q
            · rw [List.take_of_length_le (by rw [rowOf_len h.a hv]; omega), List.take_of_length_le (by rw [(hpl v hv).1]; omega)]
              have := ih m hm1 v hv hm n (Nat.le_refl _)
              rwa [List.take_of_length_le (by rw [rowOf_len h.a hv]; exact Nat.le_refl _), List.take_of_length_le (by rw [(hpl v hv).1]; exact Nat.le_refl _)] at this
          omega
        · rw [partSum_none fun p hp q => e (by rw [← q]; exact List.mem_map_of_mem (f := (·.1)) hp)]
          simp
      · rw [← stockP_left (hpl w hw).1 hj]
        have := hk w hw j hj
        unfold Flt BelowAt at this
        by_cases q : (stockP s pl w n).getD j 0 < w.floor
        · exact absurd (.inr q) this
        · omega
  intro w hw k hkn
  obtain ⟨i, hi⟩ := List.getElem?_of_mem (workedOf_mem.mpr (List.mem_map_of_mem (f := fun w : Ware => w.nm) hw : w.nm ∈ s.names))
  exact key i w hw hi k hkn
/-- where some plan keeps, a plan is told -/
theorem keeps_told {s : Shop} {n : Nat} (h : PlanIn s n) {pl : List (Str × List Int)} (hpl : ∀ w ∈ s.ws, (rowP pl w.nm).length = n ∧ ∀ x ∈ rowP pl w.nm, 0 ≤ x) (hk : ∀ w ∈ s.ws, ∀ d, d < n → ¬ Flt s pl n w d) : ∀ w ∈ s.ws, ∀ d x, ¬ Early s n w d x := fun w hw d x hx => by
  obtain ⟨h1, h2, h3⟩ := hx
  have hlen := rowOf_len (n := n) h.a hw
  have hd : d < n := by have := lt_of_get h1; omega
  have hb := beneath h hpl hk w hw (d + 1) (by omega)
  have h0 := no_early_sum (hpl w hw).2 (lag := w.lag) (fun e he hl z => hk w hw e (by have := (hpl w hw).1; omega) (.inl ⟨z, hl⟩)) (d + 1) (by omega)
  have h4 := sum_nn (l := (rowOf s n w.nm).take d) fun y hy => rowOf_nn h.a hw y (List.mem_of_mem_take hy)
  rw [h0, take_one h1, List.sum_append] at hb
  simp at hb
  omega
end N
namespace N
open PySem L2 VL
def shiftW (k : Int) (w : Want) : Want := (w.1, w.2.1 + k, w.2.2)
def putOff (s : Shop) (k : Int) : Shop := ⟨s.ws, s.wants.map (shiftW k)⟩
end N
namespace N
open PySem L2 VL
def Has (s : Shop) (n : Nat) : Prop := ∀ w ∈ s.ws, ∀ d x, ¬ Early s n w d x
theorem times_part {s : Shop} {f : Str → Int} (h : TimesTo s s.names f) {w : Ware} (hw : w ∈ s.ws) : w.lag ≤ f w.nm ∧ (∀ p ∈ w.parts, f p.1 ≤ f w.nm - w.lag) ∨ (∃ p ∈ w.parts, f p.1 < 0) := by
  obtain ⟨m, h1, h2⟩ := h w hw (List.mem_map_of_mem (f := fun w : Ware => w.nm) hw)
  rcases h1 with ⟨e, h1⟩ | ⟨h1, h3⟩
  · refine .inl ⟨by omega, fun p hp => ?_⟩
    rw [List.map_eq_nil_iff.mp e] at hp
    cases hp
  · by_cases q : 0 ≤ m
    · exact .inl ⟨by omega, fun p hp => by have := h3 _ (List.mem_map_of_mem (f := fun p : Str × Int => f p.1) hp); omega⟩
    · obtain ⟨p, hp, e⟩ := List.mem_map.mp h1
      exact .inr ⟨p, hp, by omega⟩
theorem times_nn {s : Shop} (hA : ShopA s) (hl : ∀ w ∈ s.ws, 0 ≤ w.lag) {f : Str → Int} (h : TimesTo s s.names f) : ∀ x ∈ s.names, 0 ≤ f x := by
  obtain ⟨rank, hr⟩ := hA.ac
  have key : ∀ (n : Nat) (x : Str), x ∈ s.names → rank x ≤ n → 0 ≤ f x := fun n => by
    induction n with
    | zero =>
      intro x hx hn
      obtain ⟨w, hw, rfl⟩ := ware_named hx
      have := hl w hw
      rcases times_part h hw with q | ⟨p, hp, q⟩
      · omega
      · have := hr w.nm (w.parts.map (·.1)) (List.mem_map.mpr ⟨w, hw, rfl⟩) p.1 (List.mem_map_of_mem (f := (·.1)) hp)
        omega
    | succ n ih =>
      intro x hx hn
      obtain ⟨w, hw, rfl⟩ := ware_named hx
      have := hl w hw
      rcases times_part h hw with q | ⟨p, hp, q⟩
      · omega
      · have := hr w.nm (w.parts.map (·.1)) (List.mem_map.mpr ⟨w, hw, rfl⟩) p.1 (List.mem_map_of_mem (f := (·.1)) hp)
        have := ih p.1 (hA.ok.sub w hw p hp) (by omega)
        omega
  exact fun x hx => key (rank x) x hx (Nat.le_refl _)
theorem times_parts {s : Shop} (hA : ShopA s) (hl : ∀ w ∈ s.ws, 0 ≤ w.lag) {f : Str → Int} (h : TimesTo s s.names f) {w : Ware} (hw : w ∈ s.ws) : w.lag ≤ f w.nm ∧ ∀ p ∈ w.parts, f p.1 ≤ f w.nm - w.lag := by
  rcases times_part h hw with q | ⟨p, hp, q⟩
  · exact q
  · have := times_nn hA hl h p.1 (hA.ok.sub w hw p hp)
    omega
def begP (P : Str → Nat → Int) (n : Nat) (v : Ware) (d : Nat) : Int := if d + v.lag.toNat < n then P v.nm (d + v.lag.toNat) else 0
def takeP (ws : List Ware) (P : Str → Nat → Int) (n : Nat) (nm : Str) (d : Nat) : Int := (ws.map fun v => partSum v.parts nm * begP P n v d).sum
def planF (s : Shop) (n : Nat) (P : Str → Nat → Int) : List (Str × List Int) := fnS s.names fun x => rowF n (P x)
theorem planF_row {s : Shop} {n : Nat} {P : Str → Nat → Int} {w : Ware} (hw : w ∈ s.ws) : rowP (planF s n P) w.nm = rowF n (P w.nm) := by
  unfold rowP planF
  rw [getS_fn (show w.nm ∈ s.names from List.mem_map_of_mem (f := fun w : Ware => w.nm) hw)]
  rfl
theorem begunOn_fn {pl : List (Str × List Int)} {v : Ware} {n : Nat} (h0 : 0 ≤ v.lag) (hl : (rowP pl v.nm).length = n) {d : Nat} (hd : d < n) : begunOn pl v d = if d + v.lag.toNat < n then (rowP pl v.nm).getD (d + v.lag.toNat) 0 else 0 := by
  have e := begun_get (row := rowP pl v.nm) h0 (d := d) (by omega)
  show (begunRow v.lag (rowP pl v.nm)).getD d 0 = _
  rw [List.getD_eq_getElem?_getD, e, hl]
  rfl
theorem rowF_getD {n : Nat} {f : Nat → Int} {d : Nat} (h : d < n) : (rowF n f).getD d 0 = f d := by
  rw [List.getD_eq_getElem?_getD, rowF_get h]
  rfl
theorem needF_fn {s : Shop} {pl : List (Str × List Int)} {n : Nat} (hl : ∀ v ∈ s.ws, 0 ≤ v.lag) (hr : ∀ v ∈ s.ws, (rowP pl v.nm).length = n) {P : Str → Nat → Int} (hP : ∀ v ∈ s.ws, ∀ d, d < n → P v.nm d = (rowP pl v.nm).getD d 0) {d : Nat} (hd : d < n) (nm : Str) : needF s pl nm d = wantOn s.wants nm d + takeP s.ws P n nm d := by
  unfold needF takeOn takeP
  congr 2
  refine List.map_congr_left fun v hv => ?_
  rw [takeParts_eq, begunOn_fn (hl v hv) (hr v hv) hd]
  congr 1
  unfold begP
  split
  · rw [hP v hv _ (by assumption)]
  · rfl
/-- a plan that keeps, as a function -/
def KeepsP (s : Shop) (n : Nat) (P : Str → Nat → Int) : Prop := ∀ w ∈ s.ws, ∀ d, d < n → 0 ≤ P w.nm d ∧ (0 < P w.nm d → w.lag ≤ d) ∧
  w.floor ≤ (rowF (d + 1) (hadF w)).sum - (rowF (d + 1) fun e => wantOn s.wants w.nm e + takeP s.ws P n w.nm e).sum + w.gives * (rowF (d + 1) (P w.nm)).sum
theorem rowF_le_congr {f g : Nat → Int} {n : Nat} (h : ∀ d, d < n → f d = g d) : (rowF n f).sum = (rowF n g).sum := by rw [rowF_congr h]
/-- the least plan that is told keeps -/
theorem keepsP_of {s : Shop} {n : Nat} (h : PlanIn s n) (hp : Has s n) : ∃ P, KeepsP s n P := by
  refine ⟨fun x d => (rowOf s n x).getD d 0, fun w hw d hd => ?_⟩
  have hl : ∀ v ∈ s.ws, 0 ≤ v.lag := fun v hv => (h.ws v hv).lag.1
  have er := rowP_least (n := n) h.a.ok.nd hw
  have hlen := rowOf_len (n := n) h.a hw
  have hx : (rowOf s n w.nm)[d]? = some ((rowOf s n w.nm).getD d 0) := by rw [List.getD_eq_getElem?_getD, List.getElem?_eq_getElem (by omega)]; rfl
  have hla := (least_at h hw d hd).1
  rw [stockP_left (by rw [er]; exact hlen) hd, er] at hla
  unfold leftAt at hla
  rw [rowF_take (by omega), rowF_take (by omega)] at hla
  refine ⟨rowOf_nn h.a hw _ (List.mem_of_getElem? hx), fun q => ?_, ?_⟩
  · by_cases e : w.lag ≤ d
    · exact e
    · exact absurd ⟨hx, q, by omega⟩ (hp w hw d _)
  · have e1 : (rowF (d + 1) (needF s (leastPlan s n) w.nm)).sum = (rowF (d + 1) fun e => wantOn s.wants w.nm e + takeP s.ws (fun x d => (rowOf s n x).getD d 0) n w.nm e).sum := rowF_le_congr fun e he => needF_fn hl (fun v hv => by rw [rowP_least h.a.ok.nd hv]; exact rowOf_len h.a hv) (fun v hv e _ => by rw [rowP_least h.a.ok.nd hv]) (by omega) w.nm
    have e2 : (rowF (d + 1) fun e => (rowOf s n w.nm).getD e 0).sum = ((rowOf s n w.nm).take (d + 1)).sum := rowF_getD_sum _ _ (by omega)
    show _ ≤ _ - _ + w.gives * (rowF (d + 1) fun e => (rowOf s n w.nm).getD e 0).sum
    rw [← e1, e2, Int.mul_comm]
    exact hla
/-- where some plan keeps, one is told -/
theorem keepsP_has {s : Shop} {n : Nat} (h : PlanIn s n) {P : Str → Nat → Int} (hk : KeepsP s n P) : Has s n := by
  have hl : ∀ v ∈ s.ws, 0 ≤ v.lag := fun v hv => (h.ws v hv).lag.1
  have hrow : ∀ v ∈ s.ws, rowP (planF s n P) v.nm = rowF n (P v.nm) := fun v hv => planF_row hv
  refine keeps_told h (pl := planF s n P) (fun w hw => ?_) (fun w hw d hd => ?_)
  · rw [hrow w hw]
    refine ⟨rowF_len _ _, fun x hx => ?_⟩
    obtain ⟨d, hd, rfl⟩ := List.mem_map.mp hx
    exact (hk w hw d (List.mem_range.mp hd)).1
  · obtain ⟨h1, h2, h3⟩ := hk w hw d hd
    rintro (z | z)
    · unfold EarlyAt at z
      rw [hrow w hw, rowF_getD hd] at z
      have := h2 z.1
      omega
    · unfold BelowAt at z
      rw [stockP_left (by rw [hrow w hw]; exact rowF_len _ _) hd, hrow w hw] at z
      unfold leftAt at z
      rw [rowF_take (by omega), rowF_take (by omega), rowF_take (by omega)] at z
      have e1 : (rowF (d + 1) (needF s (planF s n P) w.nm)).sum = (rowF (d + 1) fun e => wantOn s.wants w.nm e + takeP s.ws P n w.nm e).sum := rowF_le_congr fun e he => needF_fn hl (fun v hv => by rw [hrow v hv]; exact rowF_len _ _) (fun v hv e he => by rw [hrow v hv, rowF_getD he]) (by omega) w.nm
      rw [e1, Int.mul_comm] at z
      omega
theorem takeP_add (P X : Str → Nat → Int) (n : Nat) (nm : Str) (d : Nat) : ∀ ws : List Ware, takeP ws (fun x e => P x e + X x e) n nm d = takeP ws P n nm d + takeP ws X n nm d
  | [] => rfl
  | v :: r => by
    have ih := takeP_add P X n nm d r
    unfold takeP at ih ⊢
    rw [List.map_cons, List.map_cons, List.map_cons, List.sum_cons, List.sum_cons, List.sum_cons, ih]
    have : begP (fun x e => P x e + X x e) n v d = begP P n v d + begP X n v d := by
      unfold begP
      split
      · rfl
      · rfl
    rw [this, Int.mul_add]
    omega
theorem takeP_congr {P Q : Str → Nat → Int} {n m : Nat} {nm : Str} {d : Nat} {ws : List Ware} (h : ∀ v ∈ ws, nm ∈ v.parts.map (·.1) → begP P n v d = begP Q m v d) : takeP ws P n nm d = takeP ws Q m nm d := by
  unfold takeP
  congr 1
  refine List.map_congr_left fun v hv => ?_
  by_cases e : nm ∈ v.parts.map (·.1)
  · rw [h v hv e]
  · rw [partSum_none fun p hp q => e (by rw [← q]; exact List.mem_map_of_mem (f := (·.1)) hp)]
    simp
theorem chain_ex {s : Shop} (hA : ShopA s) (hg : ∀ w ∈ s.ws, WareG w) {f : Str → Int} (hf : TimesTo s s.names f) (n : Nat) {E : Str → Nat → Int} (h0 : ∀ x d, 0 ≤ E x d) (ht : ∀ x d, 0 < E x d → f x ≤ d) :
    ∃ X : Str → Nat → Int, (∀ x d, 0 ≤ X x d) ∧ (∀ w ∈ s.ws, ∀ d, 0 < X w.nm d → f w.nm ≤ d) ∧ ∀ w ∈ s.ws, ∀ d, E w.nm d + takeP s.ws X n w.nm d ≤ w.gives * X w.nm d := by
  have hl : ∀ w ∈ s.ws, 0 ≤ w.lag := fun w hw => (hg w hw).lag.1
  have key : ∀ i, i ≤ (workedOf s).length → ∃ X : Str → Nat → Int, (∀ x d, 0 ≤ X x d) ∧ (∀ x, x ∉ (workedOf s).take i → ∀ d, X x d = 0) ∧ (∀ w ∈ s.ws, ∀ d, 0 < X w.nm d → f w.nm ≤ d) ∧ ∀ w ∈ s.ws, w.nm ∈ (workedOf s).take i → ∀ d, E w.nm d + takeP s.ws X n w.nm d ≤ w.gives * X w.nm d := fun i => by
    induction i with
    | zero => exact fun _ => ⟨fun _ _ => 0, fun _ _ => Int.le_refl 0, fun _ _ _ => rfl, fun _ _ _ h => absurd h (Int.lt_irrefl 0), fun w _ h => (by rw [List.take_zero] at h; cases h)⟩
    | succ i ih =>
      intro h
      obtain ⟨X, x0, xz, xt, xk⟩ := ih (by omega)
      have hx : (workedOf s)[i]? = some (workedOf s)[i] := List.getElem?_eq_getElem (by omega)
      obtain ⟨w, hw, e⟩ := ware_named (workedOf_mem.mp (List.mem_of_getElem? hx))
      rw [← e] at hx
      have hgw := hg w hw
      have hg1 : 0 < w.gives := by have := hgw.gives.1; omega
      have hnew : w.nm ∉ (workedOf s).take i := not_take (workedOf_nodup hA.ok.nd) hx
      obtain ⟨need, hneed⟩ : ∃ need : Nat → Int, need = fun d => E w.nm d + takeP s.ws X n w.nm d := ⟨_, rfl⟩
      have users : ∀ v ∈ s.ws, w.nm ∈ v.parts.map (·.1) → f w.nm ≤ f v.nm - v.lag := fun v hv hm => by
        obtain ⟨p, hp, ep⟩ := List.mem_map.mp hm
        rw [← ep]
        exact (times_parts hA hl hf hv).2 p hp
      have need0 : ∀ d, 0 ≤ need d := fun d => by
        rw [hneed]
        have h1 := h0 w.nm d
        have h2 : 0 ≤ takeP s.ws X n w.nm d := sum_nn fun y hy => by
          obtain ⟨v, hv, rfl⟩ := List.mem_map.mp hy
          refine Int.mul_nonneg (partSum_le (hg v hv) w.nm).1 ?_
          unfold begP
          split
          · exact x0 _ _
          · exact Int.le_refl 0
        show 0 ≤ _ + _
        omega
      have needt : ∀ d, 0 < need d → f w.nm ≤ d := fun d hd => by
        by_cases q : f w.nm ≤ d
        · exact q
        · have e1 : E w.nm d = 0 := by
            have := h0 w.nm d
            by_cases z : 0 < E w.nm d
            · exact absurd (ht _ _ z) q
            · omega
          have e2 : takeP s.ws X n w.nm d = 0 := by
            unfold takeP
            have : (s.ws.map fun v => partSum v.parts w.nm * begP X n v d) = s.ws.map fun _ => (0 : Int) := List.map_congr_left fun v hv => by
              by_cases hm : w.nm ∈ v.parts.map (·.1)
              · have hu := users v hv hm
                have hlv := hl v hv
                have : begP X n v d = 0 := by
                  unfold begP
                  split
                  · have z0 := x0 v.nm (d + v.lag.toNat)
                    by_cases z : 0 < X v.nm (d + v.lag.toNat)
                    · have := xt v hv _ z
                      omega
                    · omega
                  · rfl
                rw [this, Int.mul_zero]
              · rw [partSum_none fun p hp q => hm (by rw [← q]; exact List.mem_map_of_mem (f := (·.1)) hp)]
                simp
            rw [this, List.map_const', List.sum_replicate_int]
            simp
          rw [hneed] at hd
          simp only [e1, e2] at hd
          omega
      have same : ∀ v ∈ s.ws, (v.nm ∈ (workedOf s).take i ∨ v.nm = w.nm) → ∀ (Y : Nat → Int) d, takeP s.ws (fun x => if x = w.nm then Y else X x) n v.nm d = takeP s.ws X n v.nm d := fun v hv hvi Y d => takeP_congr fun u hu hm => by
        obtain ⟨p, hp, ep⟩ := List.mem_map.mp hm
        have hun : u.nm ∈ s.names := List.mem_map_of_mem (f := fun w : Ware => w.nm) hu
        obtain ⟨k, hk⟩ := List.getElem?_of_mem (workedOf_mem.mpr hun)
        obtain ⟨j, hj, hj2⟩ := parts_behind hA hu hk hp
        rw [ep] at hj2
        have hji : j ≤ i := by
          rcases hvi with q | q
          · obtain ⟨m, hm⟩ := List.getElem?_of_mem q
            have hml := lt_of_get hm
            rw [List.length_take] at hml
            rw [List.getElem?_take, if_pos (by omega)] at hm
            have := (List.getElem?_inj (lt_of_get hj2) (workedOf_nodup hA.ok.nd)).mp (hj2.trans hm.symm)
            omega
          · rw [q] at hj2
            have := (List.getElem?_inj (lt_of_get hj2) (workedOf_nodup hA.ok.nd)).mp (hj2.trans hx.symm)
            omega
        have hne : u.nm ≠ w.nm := fun z => by
          rw [z] at hk
          have := (List.getElem?_inj (lt_of_get hk) (workedOf_nodup hA.ok.nd)).mp (hk.trans hx.symm)
          omega
        unfold begP
        dsimp only
        rw [if_neg hne]
      have cpos : ∀ d, need d ≤ w.gives * (-((-need d) / w.gives)) := fun d => by
        have h1 := Int.mul_ediv_self_le (x := -need d) (k := w.gives) (by omega)
        rw [Int.mul_neg]
        omega
      have c0 : ∀ d, 0 ≤ -((-need d) / w.gives) := fun d => by
        have h1 := need0 d
        have h2 : (-need d) / w.gives ≤ 0 / w.gives := Int.ediv_le_ediv hg1 (by omega)
        rw [Int.zero_ediv] at h2
        omega
      refine ⟨fun x => if x = w.nm then fun d => -((-need d) / w.gives) else X x, fun x d => ?_, fun x hxn d => ?_, fun v hv d hd => ?_, fun v hv hvl d => ?_⟩
      · dsimp only
        split
        · exact c0 d
        · exact x0 x d
      · rw [take_one hx] at hxn
        dsimp only
        rw [if_neg fun z => hxn (List.mem_append_right _ (by rw [z]; exact List.mem_singleton.mpr rfl))]
        exact xz x (fun z => hxn (List.mem_append_left _ z)) d
      · dsimp only at hd
        split at hd
        · rename_i e2
          rw [e2]
          refine needt d ?_
          have h1 := need0 d
          by_cases z : 0 < need d
          · exact z
          · have : need d = 0 := by omega
            dsimp only at hd
            rw [this] at hd
            simp at hd
        · exact xt v hv d hd
      · rw [take_one hx] at hvl
        by_cases e2 : v.nm = w.nm
        · have := ware_uniq hA.ok.nd hv hw e2
          subst this
          rw [same v hv (.inr rfl)]
          dsimp only
          rw [if_pos rfl]
          have := cpos d
          rw [hneed] at this ⊢
          exact this
        · have hvi : v.nm ∈ (workedOf s).take i := by
            rcases List.mem_append.mp hvl with q | q
            · exact q
            · exact absurd (List.mem_singleton.mp q) e2
          rw [same v hv (.inl hvi)]
          dsimp only
          rw [if_neg e2]
          exact xk v hv hvi d
  obtain ⟨X, x0, _, xt, xk⟩ := key _ (Nat.le_refl _)
  rw [List.take_length] at xk
  exact ⟨X, x0, xt, fun w hw => xk w hw (workedOf_mem.mpr (List.mem_map_of_mem (f := fun w : Ware => w.nm) hw))⟩
theorem rowF_nn {n : Nat} {f : Nat → Int} (h : ∀ d, d < n → 0 ≤ f d) : 0 ≤ (rowF n f).sum := sum_nn fun x hx => by
  obtain ⟨d, hd, rfl⟩ := List.mem_map.mp hx
  exact h d (List.mem_range.mp hd)
theorem rowF_mono {n m : Nat} {f : Nat → Int} (h : ∀ d, d < m → 0 ≤ f d) (hnm : n ≤ m) : (rowF n f).sum ≤ (rowF m f).sum := by
  have := take_le_sum (l := rowF m f) (fun x hx => by
    obtain ⟨d, hd, rfl⟩ := List.mem_map.mp hx
    exact h d (List.mem_range.mp hd)) n
  rwa [rowF_take hnm] at this
theorem rowF_stop {n : Nat} {f : Nat → Int} : ∀ {m : Nat}, n ≤ m → (∀ d, n ≤ d → d < m → f d = 0) → (rowF m f).sum = (rowF n f).sum
  | 0, h, _ => by
    have : n = 0 := by omega
    rw [this]
  | m + 1, h, hz => by
    by_cases e : n = m + 1
    · rw [e]
    · rw [rowF_succ_sum, rowF_stop (m := m) (by omega) fun d h1 h2 => hz d h1 (by omega), hz m (by omega) (by omega)]
      omega
theorem hadF_pos {w : Ware} (h : WareG w) (d : Nat) : 0 ≤ hadF w d := hadF_nn h (d + 1) _ (List.mem_map.mpr ⟨d, List.mem_range.mpr (by omega), rfl⟩)
/-- FURTHER WANTS, none ahead of its ware's time: a plan is told again -/
theorem more_plan {ws : List Ware} {us vs : List Want} {n0 n1 : Nat} (h0 : PlanIn ⟨ws, us⟩ n0) (h1 : PlanIn ⟨ws, vs⟩ n1) {f : Str → Int} (hf : TimesTo ⟨ws, us⟩ (Shop.mk ws us).names f) (hn : n0 ≤ n1) {E : Str → Nat → Int}
    (hE : ∀ x d, wantOn vs x d = wantOn us x d + E x d) (hE0 : ∀ x d, 0 ≤ E x d) (hEt : ∀ x d, 0 < E x d → f x ≤ d) (hp : Has ⟨ws, us⟩ n0) : Has ⟨ws, vs⟩ n1 := by
  obtain ⟨P, hP⟩ := keepsP_of h0 hp
  obtain ⟨X, x0, xt, xk⟩ := chain_ex h0.a h0.ws hf n1 hE0 hEt
  have hl : ∀ v ∈ ws, 0 ≤ v.lag := fun v hv => (h0.ws v hv).lag.1
  have hone := h0.dn.one
  have hQ : ∀ v ∈ ws, ∀ d, begP (fun x d => if d < n0 then P x d else 0) n1 v d = begP P n0 v d := fun v hv d => by
    unfold begP
    dsimp only
    by_cases q : d + v.lag.toNat < n0
    · rw [if_pos (by omega), if_pos q]
    · rw [if_neg q]
      split <;> rfl
  refine keepsP_has h1 (P := fun x d => (fun x d => if d < n0 then P x d else 0) x d + X x d) fun w hw d hd => ?_
  have hgw := h0.ws w hw
  have hg0 : 0 ≤ w.gives := by have := hgw.gives.1; omega
  have hb0 : (if d < n0 then P w.nm d else 0) = (if d < n0 then P w.nm d else 0) := rfl
  have hPd : 0 ≤ (if d < n0 then P w.nm d else 0) ∧ (0 < (if d < n0 then P w.nm d else 0) → w.lag ≤ d) := by
    by_cases q : d < n0
    · rw [if_pos q]
      exact ⟨(hP w hw d q).1, (hP w hw d q).2.1⟩
    · rw [if_neg q]
      exact ⟨Int.le_refl 0, fun z => absurd z (Int.lt_irrefl 0)⟩
  have hXd := x0 w.nm d
  refine ⟨?_, fun z => ?_, ?_⟩
  · show 0 ≤ (if d < n0 then P w.nm d else 0) + X w.nm d
    omega
  · have z : 0 < (if d < n0 then P w.nm d else 0) + X w.nm d := z
    by_cases q : 0 < X w.nm d
    · have := xt w hw d q
      have := (times_parts h0.a hl hf hw).1
      omega
    · exact hPd.2 (by omega)
  · -- what is left
    have e1 : (rowF (d + 1) fun e => wantOn vs w.nm e + takeP ws (fun x d => (fun x d => if d < n0 then P x d else 0) x d + X x d) n1 w.nm e).sum =
        (rowF (d + 1) fun e => wantOn us w.nm e + takeP ws P n0 w.nm e).sum + (rowF (d + 1) fun e => E w.nm e + takeP ws X n1 w.nm e).sum := by
      rw [← rowF_sum_add]
      refine rowF_le_congr fun e _ => ?_
      rw [takeP_add, hE, takeP_congr (P := fun x d => if d < n0 then P x d else 0) (Q := P) (m := n0) fun v hv _ => hQ v hv e]
      omega
    have e2 : (rowF (d + 1) fun e => (fun x d => if d < n0 then P x d else 0) w.nm e + X w.nm e).sum = (rowF (d + 1) fun e => if e < n0 then P w.nm e else 0).sum + (rowF (d + 1) (X w.nm)).sum := rowF_sum_add _ _ _
    have e3 : (rowF (d + 1) fun e => E w.nm e + takeP ws X n1 w.nm e).sum ≤ w.gives * (rowF (d + 1) (X w.nm)).sum := by
      have := rowF_nn (n := d + 1) (f := fun e => w.gives * X w.nm e + (-1) * (E w.nm e + takeP ws X n1 w.nm e)) fun e _ => by
        have := xk w hw e
        have e9 : takeP (Shop.mk ws us).ws X n1 w.nm e = takeP ws X n1 w.nm e := rfl
        omega
      rw [rowF_sum_add, rowF_sum_mul, rowF_sum_mul] at this
      omega
    show w.floor ≤ (rowF (d + 1) (hadF w)).sum - (rowF (d + 1) fun e => wantOn vs w.nm e + takeP ws (fun x d => (fun x d => if d < n0 then P x d else 0) x d + X x d) n1 w.nm e).sum + w.gives * (rowF (d + 1) fun e => (fun x d => if d < n0 then P x d else 0) w.nm e + X w.nm e).sum
    rw [e1, e2, Int.mul_add]
    by_cases q : d < n0
    · have h3 := (hP w hw d q).2.2
      have e4 : (rowF (d + 1) fun e => if e < n0 then P w.nm e else 0).sum = (rowF (d + 1) (P w.nm)).sum := rowF_le_congr fun e he => if_pos (by omega)
      have h3' : w.floor ≤ (rowF (d + 1) (hadF w)).sum - (rowF (d + 1) fun e => wantOn us w.nm e + takeP ws P n0 w.nm e).sum + w.gives * (rowF (d + 1) (P w.nm)).sum := h3
      rw [e4]
      omega
    · have hz : n0 - 1 + 1 = n0 := by omega
      have h3 := (hP w hw (n0 - 1) (by omega)).2.2
      rw [hz] at h3
      have h3' : w.floor ≤ (rowF n0 (hadF w)).sum - (rowF n0 fun e => wantOn us w.nm e + takeP ws P n0 w.nm e).sum + w.gives * (rowF n0 (P w.nm)).sum := h3
      have e4 : (rowF (d + 1) fun e => if e < n0 then P w.nm e else 0).sum = (rowF n0 fun e => if e < n0 then P w.nm e else 0).sum := rowF_stop (by omega) fun e h1 _ => if_neg (by omega)
      have e5 : (rowF n0 fun e => if e < n0 then P w.nm e else 0).sum = (rowF n0 (P w.nm)).sum := rowF_le_congr fun e he => if_pos he
      have e6 : (rowF (d + 1) fun e => wantOn us w.nm e + takeP ws P n0 w.nm e).sum = (rowF n0 fun e => wantOn us w.nm e + takeP ws P n0 w.nm e).sum := rowF_stop (by omega) fun e h1 _ => by
        have k1 : wantOn us w.nm e = 0 := by
          unfold wantOn
          rw [List.filter_eq_nil_iff.mpr fun v hv => by
            have := h0.dn.up v hv
            simp only [decide_eq_true_eq]
            rintro ⟨_, z⟩
            omega]
          rfl
        have k2 : takeP ws P n0 w.nm e = 0 := by
          unfold takeP
          have : (ws.map fun v => partSum v.parts w.nm * begP P n0 v e) = ws.map fun _ => (0 : Int) := List.map_congr_left fun v _ => by
            unfold begP
            rw [if_neg (by omega), Int.mul_zero]
          rw [this, List.map_const', List.sum_replicate_int]
          simp
        rw [k1, k2]
        rfl
      have e7 := rowF_mono (n := n0) (m := d + 1) (f := hadF w) (fun e _ => hadF_pos hgw e) (by omega)
      rw [e4, e5, e6]
      omega
structure LateIn (s : Shop) (T : Nat) : Prop where
  a : ShopA s
  ws : ∀ w ∈ s.ws, WareG w
  hi : s.ws.length ≤ 12
  wl : s.wants.length ≤ 30
  w : ∀ v ∈ s.wants, v.1 ∈ s.names ∧ (0 ≤ v.2.1 ∧ v.2.1 ≤ 400) ∧ 0 ≤ v.2.2 ∧ v.2.2 < 2 ^ 1000
  t : ∃ f, TimesTo s s.names f ∧ ∀ x ∈ s.names, f x ≤ T
  T : T ≤ 500
theorem shopA_like {ws : List Ware} {us vs : List Want} (h : ShopA ⟨ws, us⟩) (hl : vs.length ≤ 1000) : ShopA ⟨ws, vs⟩ := ⟨⟨h.ok.nd, h.ok.sub, h.ok.n, h.ok.p, h.ok.c, hl⟩, h.ac⟩
theorem LateIn.none {s : Shop} {T : Nat} (h : LateIn s T) : PlanIn ⟨s.ws, []⟩ 1 := ⟨shopA_like h.a (by simp), h.ws, h.hi, ⟨Int.le_refl 1, fun v hv => (by cases hv), .inl rfl⟩, by simp, fun v hv => (by cases hv)⟩
theorem LateIn.days {s : Shop} {T : Nat} (h : LateIn s T) {k : Int} (hk0 : 0 ≤ k) : ∃ n : Nat, DaysOf (putOff s k) n := days_ex _ fun v hv => by
  obtain ⟨u, hu, rfl⟩ := List.mem_map.mp hv
  obtain ⟨_, h1, h2⟩ := h.w u hu
  show 0 ≤ u.2.1 + k
  omega
theorem days_amt {s : Shop} {nm : Str} {day a b : Int} {n : Nat} (h : DaysOf ⟨s.ws, s.wants ++ [(nm, day, a)]⟩ n) : DaysOf ⟨s.ws, s.wants ++ [(nm, day, b)]⟩ n := by
  refine ⟨h.one, fun v hv => ?_, ?_⟩
  · rcases List.mem_append.mp hv with hv | hv
    · exact h.up v (List.mem_append_left _ hv)
    · cases List.mem_singleton.mp hv
      exact h.up (nm, day, a) (List.mem_append_right _ (List.mem_singleton.mpr rfl))
  · rcases h.is with e | ⟨v, hv, e⟩
    · exact .inl e
    · rcases List.mem_append.mp hv with hv | hv
      · exact .inr ⟨v, List.mem_append_left _ hv, e⟩
      · cases List.mem_singleton.mp hv
        exact .inr ⟨(nm, day, b), List.mem_append_right _ (List.mem_singleton.mpr rfl), e⟩
structure MostIn (s : Shop) (n n1 : Nat) (nm : Str) (day : Int) : Prop where
  p : PlanIn s n
  wl : s.wants.length ≤ 29
  m : s.ws.length ≤ 6
  mem : nm ∈ s.names
  dy : 0 ≤ day ∧ day ≤ 900
  dn : DaysOf ⟨s.ws, s.wants ++ [(nm, day, 0)]⟩ n1
abbrev HasW (s : Shop) (n1 : Nat) (nm : Str) (day a : Int) : Prop := Has ⟨s.ws, s.wants ++ [(nm, day, a)]⟩ n1
theorem MostIn.more {s : Shop} {n n1 : Nat} {nm : Str} {day a : Int} (h : MostIn s n n1 nm day) (h0 : 0 ≤ a) (h1 : a < 2 ^ 1000) : PlanIn ⟨s.ws, s.wants ++ [(nm, day, a)]⟩ n1 := by
  have hl : (s.wants ++ [(nm, day, a)]).length ≤ 30 := by rw [List.length_append]; have := h.wl; show _ + 1 ≤ 30; omega
  refine ⟨shopA_like h.p.a (by omega), h.p.ws, h.p.hi, days_amt h.dn, hl, fun v hv => ?_⟩
  rcases List.mem_append.mp hv with hv | hv
  · exact h.p.w v hv
  · cases List.mem_singleton.mp hv
    exact ⟨h.dy, h0, h1⟩
theorem MostIn.le {s : Shop} {n n1 : Nat} {nm : Str} {day : Int} (h : MostIn s n n1 nm day) : n ≤ n1 := by
  rcases h.p.dn.is with e | ⟨v, hv, e⟩
  · have := h.dn.one
    omega
  · have := h.dn.up v (List.mem_append_left _ hv)
    omega
/-- the day is not ahead of the time, or nothing is wanted: a plan again -/
theorem MostIn.any {s : Shop} {n n1 : Nat} {nm : Str} {day a : Int} (h : MostIn s n n1 nm day) (hp : Has s n) {f : Str → Int} (hf : TimesTo s s.names f) (h0 : 0 ≤ a) (h1 : a < 2 ^ 1000) (ht : f nm ≤ day ∨ a = 0) : HasW s n1 nm day a :=
  more_plan (ws := s.ws) (us := s.wants) (vs := s.wants ++ [(nm, day, a)]) h.p (h.more h0 h1) (f := f) hf h.le (E := fun x d => if nm = x ∧ day = (d : Int) then a else 0) (fun x d => wantOn_snoc _ _ _ _) (fun x d => by split <;> omega) (fun x d hx => by
    split at hx
    · rename_i e
      rcases ht with ht | ht
      · rw [← e.1]
        omega
      · omega
    · omega) hp
end N
namespace N
open PySem L2 VL TL
theorem app_list (a b : Str) : (a ++ b).cps.toList = a.cps.toList ++ b.cps.toList := by
  rw [PySem.Str.cps_append, Array.toList_append]
end N
namespace N
open PySem L2 VL TL
structure WordsIn (W : List Str) : Prop where
  ne : W ≠ []
  len : W.length ≤ 10
  ok : ∀ w ∈ W, w.length ≤ 100 ∧ ∀ c ∈ w.cps.toList, c ≠ 32 ∧ c ≠ 10
def lineW (W : List Str) : Str := Txt.join " " W
def txtW (wss : List (List Str)) : Str := Txt.join "\n" (wss.map lineW)
theorem lineW_split {W : List Str} (h : WordsIn W) : Txt.split (lineW W) " " = W :=
  split_join (s := 32) (S := []) (by rfl) (by decide +kernel) h.ne (fun w hw hm => ((h.ok w hw).2 32 hm).1 rfl)
theorem lineW_len {W : List Str} (h : WordsIn W) : (lineW W).length ≤ 1010 := by
  have a := join_len " " W
  have b := words_sum (ws := W) (M := 100) fun w hw => (h.ok w hw).1
  have e : (" " : Str).length = 1 := rfl
  rw [e] at a
  have := h.len
  show (Txt.join " " W).length ≤ 1010
  omega
theorem lineW_10 {W : List Str} (h : WordsIn W) : 10 ∉ (lineW W).cps.toList := fun hm => by
  unfold lineW at hm
  rw [join_eq] at hm
  rcases join_mem hm with h1 | ⟨w, hw, hc⟩
  · have : (" " : Str).cps.toList = [32] := rfl
    rw [this] at h1
    simp at h1
  · exact ((h.ok w hw).2 10 hc).2 rfl
theorem txtW_split {wss : List (List Str)} (hne : wss ≠ []) (h : ∀ W ∈ wss, WordsIn W) : Txt.split (txtW wss) "\n" = wss.map lineW :=
  split_join (s := 10) (S := []) (by rfl) (by decide +kernel) (fun e => hne (List.map_eq_nil_iff.mp e)) (fun w hw hm => by
    obtain ⟨W, hW, rfl⟩ := List.mem_map.mp hw
    exact lineW_10 (h W hW) hm)
theorem txtW_len {wss : List (List Str)} (h : ∀ W ∈ wss, WordsIn W) : (txtW wss).length ≤ wss.length * 1011 := by
  have a := join_len "\n" (wss.map lineW)
  have b := words_sum (ws := wss.map lineW) (M := 1010) fun w hw => by
    obtain ⟨W, hW, rfl⟩ := List.mem_map.mp hw
    exact lineW_len (h W hW)
  have e : ("\n" : Str).length = 1 := rfl
  rw [e] at a
  rw [List.length_map] at a b
  show (Txt.join "\n" (wss.map lineW)).length ≤ _
  omega
theorem txtW_rows (rs : List RowV) : txtW (rs.map RowV.words) = textOf rs := by
  unfold txtW textOf
  rw [List.map_map]
  rfl
theorem words_in {r : RowV} (h : r.ok) : WordsIn r.words := ⟨words_ne r, by have := (words_plain h).1; omega, fun w hw => ⟨by have := ((words_plain h).2 w hw).1; omega, ((words_plain h).2 w hw).2⟩⟩
theorem dig_fold : ∀ (cs : List Nat) (a : Nat), (∀ c ∈ cs, c ≤ 57) → cs.foldl (fun acc c => acc * 10 + (c - 48)) a < (a + 1) * 10 ^ cs.length
  | [], a, _ => by simp
  | c :: r, a, h => by
    have hc := h c List.mem_cons_self
    have ih := dig_fold r (a * 10 + (c - 48)) fun x hx => h x (List.mem_cons_of_mem _ hx)
    have e : (c :: r).foldl (fun acc c => acc * 10 + (c - 48)) a = r.foldl (fun acc c => acc * 10 + (c - 48)) (a * 10 + (c - 48)) := rfl
    rw [e, List.length_cons]
    refine Nat.lt_of_lt_of_le ih ?_
    have e2 : (a + 1) * 10 ^ (r.length + 1) = (a * 10 + 10) * 10 ^ r.length := by
      rw [Nat.pow_succ, Nat.mul_comm (10 ^ r.length) 10, ← Nat.mul_assoc, Nat.add_mul]
    rw [e2]
    exact Nat.mul_le_mul_right _ (by omega)
theorem numV_ok {z : Str} (h : numB z = true) : NumOk (numV z) := by
  obtain ⟨h1, h2, h3, _⟩ := numB_iff.mp h
  have hl := slen z
  have hd : ∀ c ∈ z.cps.toList, 48 ≤ c ∧ c ≤ 57 := fun c hc => fig_iff.mp (List.all_eq_true.mp h3 c hc)
  have e := PySem.intText_digits hd (fun q => by rw [q] at hl; simp at hl; omega) (show z.length ≤ 4300 by omega)
  have ev : numV z = ((NumText.digitsVal z.cps.toList : Nat) : Int) := by
    unfold numV
    rw [e]
    rfl
  rw [ev]
  have hb := dig_fold z.cps.toList 0 fun c hc => (hd c hc).2
  have hb2 : NumText.digitsVal z.cps.toList < (0 + 1) * 10 ^ z.cps.toList.length := hb
  have hb3 : (10 : Nat) ^ z.cps.toList.length ≤ 10 ^ 60 := Nat.pow_le_pow_right (by decide) (by omega)
  refine ⟨Int.natCast_nonneg _, ?_⟩
  have hb4 : NumText.digitsVal z.cps.toList < 10 ^ 60 := by omega
  have : ((NumText.digitsVal z.cps.toList : Nat) : Int) < ((10 ^ 60 : Nat) : Int) := Int.ofNat_lt.mpr hb4
  exact this
theorem name_ok {z : Str} (h : nameS z = true) : NameOk z := by
  have h : (decide (1 ≤ z.length) && (decide (z.length ≤ 8) && z.cps.toList.all abcB)) = true := h
  rw [Bool.and_eq_true, Bool.and_eq_true] at h
  have l := slen z
  refine ⟨?_, ?_, fun c hc => ?_⟩
  · have := of_decide_eq_true h.1
    omega
  · have := of_decide_eq_true h.2.1
    omega
  · have := List.all_eq_true.mp h.2.2 c hc
    unfold abcB at this
    rw [Bool.and_eq_true] at this
    exact ⟨of_decide_eq_true this.1, of_decide_eq_true this.2⟩
theorem row_of {W : List Str} {ds : List D} (h : parseRow W = some ds) : ∃ r : RowV, r.ok ∧ r.ds = ds := by
  obtain ⟨y, r, n, m, rfl, hf, hr, hn, hm, rfl⟩ := parse_row h
  unfold formOf at hf
  split at hf
  · rename_i e
    subst e
    cases hf
    match r, hr with
    | [a, b, c, d, e], _ =>
      have k1 := hn a (by simp)
      have k2 := hm b (by simp)
      have k3 := hm c (by simp)
      have k4 := hm d (by simp)
      have k5 := hm e (by simp)
      exact ⟨.ware a (numV b) (numV c) (numV d) (numV e), ⟨name_ok k1, numV_ok k2, numV_ok k3, numV_ok k4, numV_ok k5⟩, rfl⟩
  · split at hf
    · rename_i e
      subst e
      cases hf
      match r, hr with
      | [a, b, c], _ =>
        have k1 := hn a (by simp)
        have k2 := hm b (by simp)
        have k3 := hm c (by simp)
        exact ⟨.coming a (numV b) (numV c), ⟨name_ok k1, numV_ok k2, numV_ok k3⟩, rfl⟩
    · split at hf
      · rename_i e
        subst e
        cases hf
        match r, hr with
        | [a, b, c], _ =>
          have k1 := hn a (by simp)
          have k2 := hn b (by simp)
          have k3 := hm c (by simp)
          exact ⟨.part a b (numV c), ⟨name_ok k1, name_ok k2, numV_ok k3⟩, rfl⟩
      · split at hf
        · rename_i e
          subst e
          cases hf
          match r, hr with
          | [a, b, c], _ =>
            have k1 := hn a (by simp)
            have k2 := hm b (by simp)
            have k3 := hm c (by simp)
            exact ⟨.want a (numV b) (numV c), ⟨name_ok k1, numV_ok k2, numV_ok k3⟩, rfl⟩
        · cases hf
/-- all rows are told, as rs -/
def Parsed (wss : List (List Str)) (rs : List RowV) : Prop := wss.map parseRow = rs.map (fun r => some r.ds) ∧ ∀ r ∈ rs, r.ok
def GoodRs (rs : List RowV) : Prop := (∀ r ∈ rs, r.nm ∈ headsV rs) ∧ shopB (shopD (shopOf rs)) = true
theorem parsed_rows {rs : List RowV} (h : ∀ r ∈ rs, r.ok) : Parsed (rs.map RowV.words) rs := ⟨by
  rw [List.map_map]
  exact List.map_congr_left fun r hr => parse_words (h r hr), h⟩
theorem ds_inj {r q : RowV} (h : r.ds = q.ds) : r = q := by
  cases r <;> cases q <;> simp [RowV.ds] at h <;> first | (obtain ⟨a, b, c, d, e⟩ := h; subst_vars; rfl) | (obtain ⟨a, b, c⟩ := h; subst_vars; rfl) | (exact absurd h.1 (by decide +kernel))
theorem parsed_uniq {wss : List (List Str)} : ∀ {rs qs : List RowV}, Parsed wss rs → Parsed wss qs → rs = qs := by
  intro rs qs h g
  have e : rs.map (fun r => some r.ds) = qs.map (fun r => some r.ds) := h.1.symm.trans g.1
  have key : ∀ {rs qs : List RowV}, rs.map (fun r => some r.ds) = qs.map (fun r => some r.ds) → rs = qs := by
    intro rs
    induction rs with
    | nil => intro qs e; cases qs with | nil => rfl | cons _ _ => cases e
    | cons r t ih =>
      intro qs e
      cases qs with
      | nil => cases e
      | cons q u =>
        rw [List.map_cons, List.map_cons] at e
        obtain ⟨e1, e2⟩ := List.cons.inj e
        rw [ds_inj (Option.some.inj e1), ih e2]
  exact key e
theorem parsed_none {wss : List (List Str)} {rs : List RowV} (h : Parsed wss rs) : ∀ W ∈ wss, parseRow W ≠ none := fun W hW e => by
  have : parseRow W ∈ wss.map parseRow := List.mem_map_of_mem hW
  rw [h.1, e] at this
  obtain ⟨r, _, hr⟩ := List.mem_map.mp this
  cases hr
theorem parsed_snoc {wss : List (List Str)} {rs : List RowV} {i : Nat} {W : List Str} {r : RowV} (h : Parsed (wss.take i) rs) (hW : wss[i]? = some W) (hr : parseRow W = some r.ds) (ho : r.ok) : Parsed (wss.take (i + 1)) (rs ++ [r]) := ⟨by
  rw [take_one hW, List.map_append, h.1, List.map_append]
  show _ ++ [parseRow W] = _
  rw [hr]
  rfl, fun q hq => by
  rcases List.mem_append.mp hq with hq | hq
  · exact h.2 q hq
  · rw [List.mem_singleton.mp hq]
    exact ho⟩
end N
namespace N
open PySem L2 VL TL
def linesD (g : List RowV) : D := .lst (g.map lineD)
/-- groups behind pointers -/
structure Grp (L : List (Addr × List RowV)) (gs : List (Addr × D)) : Prop where
  nd : (L.map (·.1)).Nodup
  mem : ∀ q ∈ L, (q.1, linesD q.2) ∈ gs
theorem Grp.keys {L : List (Addr × List RowV)} {gs : List (Addr × D)} (h : Grp L gs) {a : Addr} (ha : a ∉ gs.map (·.1)) : a ∉ L.map (·.1) := fun z => by
  obtain ⟨q, hq, e⟩ := List.mem_map.mp z
  refine ha ?_
  rw [← e]
  exact List.mem_map_of_mem (f := fun q : Addr × D => q.1) (h.mem q hq)
theorem nodup_idx {α : Type} {l : List α} (nd : l.Nodup) {i j : Nat} {x : α} (hi : l[i]? = some x) (hj : l[j]? = some x) : i = j := by
  obtain ⟨h1, e1⟩ := List.getElem?_eq_some_iff.mp hi
  obtain ⟨h2, e2⟩ := List.getElem?_eq_some_iff.mp hj
  exact (List.getElem_inj nd).mp (e1.trans e2.symm)
theorem Grp.snoc {L : List (Addr × List RowV)} {gs : List (Addr × D)} (h : Grp L gs) {a : Addr} {g : List RowV} (ha : a ∉ gs.map (·.1)) : Grp (L ++ [(a, g)]) ((a, linesD g) :: gs) := by
  refine ⟨?_, fun q hq => ?_⟩
  · rw [List.map_append]
    refine List.nodup_append.mpr ⟨h.nd, by simp, fun x hx y hy e => ?_⟩
    rw [e, List.mem_singleton.mp hy] at hx
    exact h.keys ha hx
  · rcases List.mem_append.mp hq with hq | hq
    · exact List.mem_cons_of_mem _ (h.mem q hq)
    · rw [List.mem_singleton.mp hq]
      exact List.mem_cons_self
theorem Grp.put {L : List (Addr × List RowV)} {gs : List (Addr × D)} (h : Grp L gs) {a : Addr} {g : List RowV} (ha : a ∉ gs.map (·.1)) (k : Nat) : Grp (L.set k (a, g)) ((a, linesD g) :: gs) := by
  refine ⟨?_, fun q hq => ?_⟩
  · rw [List.map_set]
    refine List.pairwise_iff_getElem.mpr fun i j hi hj hij e => ?_
    have hn := h.keys ha
    have nd := h.nd
    rw [List.length_set] at hi hj
    rw [List.getElem_set, List.getElem_set] at e
    split at e
    · split at e
      · omega
      · exact hn (by have := List.getElem_mem hj; rw [← e] at this; exact this)
    · split at e
      · exact hn (by have := List.getElem_mem hi; rw [e] at this; exact this)
      · exact absurd ((List.getElem_inj nd).mp e) (by omega)
  · rcases List.mem_or_eq_of_mem_set hq with hq | rfl
    · exact List.mem_cons_of_mem _ (h.mem q hq)
    · exact List.mem_cons_self
theorem Grp.set {L : List (Addr × List RowV)} {gs : List (Addr × D)} (h : Grp L gs) {k : Nat} {a : Addr} {g : List RowV} (g' : List RowV) (hk : L[k]? = some (a, g)) : Grp (L.set k (a, g')) (setP gs a (linesD g')) := by
  have ek : (L.set k (a, g')).map (·.1) = L.map (·.1) := by
    rw [List.map_set]
    refine List.ext_getElem? fun i => ?_
    by_cases e : k = i
    · subst e
      rw [List.getElem?_set_self (by rw [List.length_map]; exact lt_of_get hk), List.getElem?_map, hk]
      rfl
    · rw [List.getElem?_set_ne e]
  refine ⟨by rw [ek]; exact h.nd, fun q hq => ?_⟩
  obtain ⟨i, hi⟩ := List.getElem?_of_mem hq
  by_cases e : k = i
  · subst e
    rw [List.getElem?_set_self (lt_of_get hk)] at hi
    cases hi
    exact setP_self (h.mem _ (List.mem_of_getElem? hk))
  · rw [List.getElem?_set_ne e] at hi
    refine setP_ne (h.mem q (List.mem_of_getElem? hi)) fun z => e ?_
    exact nodup_idx h.nd (i := k) (j := i) (x := a) (by rw [List.getElem?_map, hk]; rfl) (by rw [List.getElem?_map, hi, ← z]; rfl)
theorem Grp.sub {L M : List (Addr × List RowV)} {gs : List (Addr × D)} (h : Grp L gs) (s : M.Sublist L) : Grp M gs := ⟨(s.map _).nodup h.nd, fun q hq => h.mem q (s.subset hq)⟩
def ptrsD (L : List (Addr × List RowV)) : List D := L.map fun q => .ptr q.1
/-- the groups of a shop: with those of the first i wares -/
def gTo (s : Shop) (i : Nat) (wants : List RowV) : List (List RowV) := (s.ws.take i).map wareRow :: wants :: (s.ws.take i).flatMap fun w => [w.com.map (comRow w), w.parts.map (partRow w)]
def gAll (s : Shop) : List (List RowV) := s.ws.map wareRow :: s.wants.map wantRow :: s.ws.flatMap fun w => [w.com.map (comRow w), w.parts.map (partRow w)]
theorem flat_pairs : ∀ ws : List Ware, (ws.flatMap fun w => [w.com.map (comRow w), w.parts.map (partRow w)]).flatten = ws.flatMap others
  | [] => rfl
  | w :: r => by
    have ih := flat_pairs r
    show ([w.com.map (comRow w), w.parts.map (partRow w)] ++ (r.flatMap fun w => [w.com.map (comRow w), w.parts.map (partRow w)])).flatten = others w ++ r.flatMap others
    rw [List.flatten_append, ih]
    show (w.com.map (comRow w) ++ (w.parts.map (partRow w) ++ [])) ++ _ = _
    rw [List.append_nil]
    rfl
theorem gAll_flat (s : Shop) : (gAll s).flatten = s.ws.map wareRow ++ (s.wants.map wantRow ++ s.ws.flatMap others) := by
  show s.ws.map wareRow ++ (s.wants.map wantRow ++ (s.ws.flatMap fun w => [w.com.map (comRow w), w.parts.map (partRow w)]).flatten) = _
  rw [flat_pairs]
theorem gAll_perm (s : Shop) : (gAll s).flatten.Perm (rowsOf s) := by
  rw [gAll_flat]
  exact (List.Perm.append_left _ List.perm_append_comm).trans (rows2_perm s)
theorem gAll_alike (s : Shop) : Alike (gAll s).flatten (rowsOf s) := by
  have h := rows2_alike s
  have sw : ∀ {β : Type} (f : RowV → Option β), ((s.wants.map wantRow).filterMap f = [] ∨ (s.ws.flatMap others).filterMap f = []) → (gAll s).flatten.filterMap f = (rows2 s).filterMap f := fun f hf => by
    rw [gAll_flat]
    unfold rows2
    simp only [List.filterMap_append]
    rcases hf with e | e
    · rw [e, List.nil_append, List.append_nil]
    · rw [e, List.nil_append, List.append_nil]
  have wn : ∀ {β : Type} (f : RowV → Option β), (∀ v, f (wantRow v) = none) → (s.wants.map wantRow).filterMap f = [] := fun f hf => fm_none fun x hx => by
    obtain ⟨v, _, rfl⟩ := List.mem_map.mp hx
    exact hf v
  exact ⟨fun nm => (sw _ (.inl (wn _ fun _ => rfl))).trans (h.com nm), fun nm => (sw _ (.inl (wn _ fun _ => rfl))).trans (h.part nm), (sw _ (.inr (fm_none fun x hx => by
    obtain ⟨w, _, hx⟩ := List.mem_flatMap.mp hx
    rcases List.mem_append.mp hx with hx | hx
    · obtain ⟨p, _, rfl⟩ := List.mem_map.mp hx
      rfl
    · obtain ⟨p, _, rfl⟩ := List.mem_map.mp hx
      rfl))).trans h.want, (sw _ (.inl (wn _ fun _ => rfl))).trans h.core⟩
structure Mix {β : Type} (f : RowV → Option β) (tgt : List β) (M : List RowV) (G : List (List RowV)) : Prop where
  eq : M.filterMap f ++ G.flatten.filterMap f = tgt
  pw : G.Pairwise fun g h => g.filterMap f = [] ∨ h.filterMap f = []
theorem flat_filter : ∀ G : List (List RowV), (G.filter fun g => !g.isEmpty).flatten = G.flatten
  | [] => rfl
  | [] :: r => flat_filter r
  | (x :: t) :: r => by
    show ((x :: t) :: (r.filter fun g => !g.isEmpty)).flatten = _
    rw [List.flatten_cons, flat_filter r, List.flatten_cons]
theorem Mix.filter {β : Type} {f : RowV → Option β} {tgt : List β} {M : List RowV} {G : List (List RowV)} (h : Mix f tgt M G) : Mix f tgt M (G.filter fun g => !g.isEmpty) := ⟨by rw [flat_filter]; exact h.eq, h.pw.filter _⟩
/-- what is kept while rows are put into one another -/
structure Mixed (s : Shop) (M : List RowV) (G : List (List RowV)) : Prop where
  com : ∀ nm, Mix (RowV.com? nm) (comsV nm (rowsOf s)) M G
  part : ∀ nm, Mix (RowV.part? nm) (partsV nm (rowsOf s)) M G
  want : Mix RowV.want? ((rowsOf s).filterMap RowV.want?) M G
  core : Mix RowV.core? ((rowsOf s).filterMap RowV.core?) M G
  perm : (M ++ G.flatten).Perm (rowsOf s)
theorem Mixed.filter {s : Shop} {M : List RowV} {G : List (List RowV)} (h : Mixed s M G) : Mixed s M (G.filter fun g => !g.isEmpty) := ⟨fun nm => (h.com nm).filter, fun nm => (h.part nm).filter, h.want.filter, h.core.filter, by rw [flat_filter]; exact h.perm⟩
theorem Mixed.done {s : Shop} {M : List RowV} (h : Mixed s M []) : Alike M (rowsOf s) ∧ M.Perm (rowsOf s) := by
  have e : ∀ {β : Type} {f : RowV → Option β} {tgt : List β}, Mix f tgt M [] → M.filterMap f = tgt := fun {β f tgt} hm => by
    have := hm.eq
    rw [List.flatten_nil, List.filterMap_nil, List.append_nil] at this
    exact this
  refine ⟨⟨fun nm => e (h.com nm), fun nm => e (h.part nm), e h.want, e h.core⟩, ?_⟩
  have := h.perm
  rw [List.flatten_nil, List.append_nil] at this
  exact this
end N
namespace N
open PySem L2 VL TL
theorem sfx_a {zs : List Str} (h : Sfx zs) : ∀ z ∈ zs, z ≠ "a" := fun z hz e => by
  obtain ⟨i, hi⟩ := List.getElem?_of_mem hz
  have h1 := h.t i z hi
  rw [e] at h1
  have e2 : ("a" : Str).cps.toList.getLast? = some 97 := rfl
  rw [e2] at h1
  have h3 : 97 ∉ sfxL := by decide
  exact h3 (List.mem_of_getElem? h1.symm)
def linesW (wss : List (List Str)) : D := .lst ((wss.map lineW).map D.str)
theorem pn_of {y : Str} {r : List Str} {n m : Nat} (hf : formOf y = some (n, m)) (hno : ¬ (r.length = n + m ∧ (∀ w ∈ r.take n, nameS w = true) ∧ ∀ w ∈ r.drop n, numB w = true)) : parseRow (y :: r) = none := by
  cases e : parseRow (y :: r) with
  | none => rfl
  | some ds =>
    obtain ⟨y', r', n', m', e1, e2, e3, e4, e5, _⟩ := parse_row e
    obtain ⟨rfl, rfl⟩ := List.cons.inj e1
    rw [hf] at e2
    cases e2
    exact absurd ⟨e3, e4, e5⟩ hno
theorem pn_head {z : Str} {r : List Str} (h : formOf z = none) : parseRow (z :: r) = none := by
  unfold parseRow
  dsimp only
  rw [h]
/-- a good row's words -/
structure GoodW (y : Str) (r : List Str) (n m : Nat) : Prop where
  f : formOf y = some (n, m)
  l : r.length = n + m
  n1 : 1 ≤ n
  n2 : n ≤ 2
  m1 : 1 ≤ m
  m4 : m ≤ 4
  ok : ∀ w ∈ y :: r, w.length ≤ 60 ∧ ∀ c ∈ w.cps.toList, c ≠ 32 ∧ c ≠ 10
theorem good_words {r : RowV} (h : r.ok) : ∃ y t n m, r.words = y :: t ∧ GoodW y t n m ∧ t.length ≤ 5 := by
  obtain ⟨y, t, n, m, e1, e2, e3, _, _, _⟩ := parse_row (parse_words h)
  obtain ⟨_, n1, n2, m1, m4⟩ := form_mem e2
  obtain ⟨h6, hp⟩ := words_plain h
  rw [e1] at hp h6
  rw [List.length_cons] at h6
  exact ⟨y, t, n, m, e1, ⟨e2, e3, n1, n2, m1, m4, fun w hw => hp w hw⟩, by omega⟩
/-- words that a row may not have, within a text -/
structure BadW (W : List Str) : Prop where
  i : WordsIn W
  n : parseRow W = none
def plainS (z : Str) : Bool := decide (z.length ≤ 100) && z.cps.toList.all fun c => decide (c ≠ 32) && decide (c ≠ 10)
theorem plainS_ok {z : Str} (h : plainS z = true) : z.length ≤ 100 ∧ ∀ c ∈ z.cps.toList, c ≠ 32 ∧ c ≠ 10 := by
  unfold plainS at h
  rw [Bool.and_eq_true, List.all_eq_true] at h
  refine ⟨of_decide_eq_true h.1, fun c hc => ?_⟩
  have := h.2 c hc
  rw [Bool.and_eq_true] at this
  exact ⟨of_decide_eq_true this.1, of_decide_eq_true this.2⟩
section
variable {y : Str} {r : List Str} {n m : Nat}
theorem GoodW.hun (h : GoodW y r n m) : ∀ w ∈ y :: r, w.length ≤ 100 ∧ ∀ c ∈ w.cps.toList, c ≠ 32 ∧ c ≠ 10 := fun w hw => ⟨by have := (h.ok w hw).1; omega, (h.ok w hw).2⟩
theorem GoodW.len (h : GoodW y r n m) : r.length ≤ 6 := by have := h.l; have := h.n2; have := h.m4; omega
/-- another word -/
theorem bad0 (h : GoodW y r n m) {z : Str} (hz : formOf z = none) (hp : plainS z = true) : BadW (z :: r) := ⟨⟨by simp, by rw [List.length_cons]; have := h.len; omega, fun w hw => by
  rcases List.mem_cons.mp hw with rfl | hw
  · exact plainS_ok hp
  · exact h.hun w (List.mem_cons_of_mem _ hw)⟩, pn_head hz⟩
/-- another name -/
theorem bad1 (h : GoodW y r n m) {z : Str} (hz : nameS z = false) (hp : plainS z = true) : BadW ((y :: r).set 1 z) := by
  have hl := h.l
  have h1 := h.n1
  have h2 := h.m1
  cases r with
  | nil => simp at hl; omega
  | cons x t =>
    show BadW (y :: z :: t)
    refine ⟨⟨by simp, ?_, fun w hw => ?_⟩, pn_of h.f fun q => ?_⟩
    · have := h.len
      rw [List.length_cons] at this
      rw [List.length_cons, List.length_cons]
      omega
    · rcases List.mem_cons.mp hw with rfl | hw
      · exact h.hun w List.mem_cons_self
      rcases List.mem_cons.mp hw with rfl | hw
      · exact plainS_ok hp
      · exact h.hun w (List.mem_cons_of_mem _ (List.mem_cons_of_mem _ hw))
    · have := q.2.1 z (by
        obtain ⟨k, hk⟩ : ∃ k, n = k + 1 := ⟨n - 1, by omega⟩
        rw [hk, List.take_succ_cons]
        exact List.mem_cons_self)
      rw [hz] at this
      cases this
/-- another last number -/
theorem bad2 (h : GoodW y r n m) {z : Str} (hz : numB z = false) (hp : z.length ≤ 100 ∧ ∀ c ∈ z.cps.toList, c ≠ 32 ∧ c ≠ 10) : BadW ((y :: r).set r.length z) := by
  have hl := h.l
  have h1 := h.n1
  have h2 := h.m1
  obtain ⟨k, hk⟩ : ∃ k, r.length = k + 1 := ⟨r.length - 1, by omega⟩
  have e : (y :: r).set r.length z = y :: r.set k z := by rw [hk]; rfl
  rw [e]
  refine ⟨⟨by simp, ?_, fun w hw => ?_⟩, pn_of h.f fun q => ?_⟩
  · have := h.len
    rw [List.length_cons, List.length_set]
    omega
  · rcases List.mem_cons.mp hw with rfl | hw
    · exact h.hun w List.mem_cons_self
    rcases List.mem_or_eq_of_mem_set hw with hw | rfl
    · exact h.hun w (List.mem_cons_of_mem _ hw)
    · exact hp
  · have := q.2.2 z (by
      refine List.mem_of_getElem? (i := m - 1) ?_
      rw [List.getElem?_drop, show n + (m - 1) = k by omega, List.getElem?_set_self (by omega)])
    rw [hz] at this
    cases this
/-- more words or fewer -/
theorem bad3 (h : GoodW y r n m) {z : Str} (hp : plainS z = true) : BadW (y :: r ++ [z]) := by
  have hl := h.l
  refine ⟨⟨by simp, ?_, fun w hw => ?_⟩, pn_of (r := r ++ [z]) h.f fun q => ?_⟩
  · have := h.len
    rw [List.length_append, List.length_cons]
    show _ + 1 + 1 ≤ 10
    omega
  · rcases List.mem_append.mp hw with hw | hw
    · exact h.hun w hw
    · rw [List.mem_singleton.mp hw]
      exact plainS_ok hp
  · have := q.1
    rw [List.length_append] at this
    simp at this
    omega
theorem bad4 (h : GoodW y r n m) : BadW (y :: r).dropLast := by
  have hl := h.l
  have h1 := h.n1
  have hne : r ≠ [] := fun e => by rw [e] at hl; simp at hl; omega
  rw [List.dropLast_cons_of_ne_nil hne]
  refine ⟨⟨by simp, ?_, fun w hw => ?_⟩, pn_of h.f fun q => ?_⟩
  · have := h.len
    rw [List.length_cons, List.length_dropLast]
    omega
  · rcases List.mem_cons.mp hw with rfl | hw
    · exact h.hun w List.mem_cons_self
    · exact h.hun w (List.mem_cons_of_mem _ ((List.dropLast_sublist r).subset hw))
  · have := q.1
    rw [List.length_dropLast] at this
    omega
theorem form_tab {z : Str} (h : 9 ∈ z.cps.toList) : formOf z = none := by
  unfold formOf
  rw [if_neg fun e => by rw [e] at h; exact absurd h (by decide +kernel), if_neg fun e => by rw [e] at h; exact absurd h (by decide +kernel), if_neg fun e => by rw [e] at h; exact absurd h (by decide +kernel), if_neg fun e => by rw [e] at h; exact absurd h (by decide +kernel)]
theorem form_len {z : Str} {n m : Nat} (h : formOf z = some (n, m)) : z.length ≤ 6 := by
  unfold formOf at h
  split at h
  · rename_i e; rw [e]; decide
  · split at h
    · rename_i e; rw [e]; decide
    · split at h
      · rename_i e; rw [e]; decide
      · split at h
        · rename_i e; rw [e]; decide
        · cases h
theorem bad5 (h : GoodW y r n m) {x : Str} {t : List Str} (hr : r = x :: t) : BadW (Txt.join "\t" [y, x] :: t) := by
  have e : Txt.join "\t" [y, x] = y ++ "\t" ++ x := by rw [join_eq]; rfl
  have ht : ("\t" : Str).cps.toList = [9] := rfl
  have hy := h.ok y List.mem_cons_self
  have hx := h.ok x (by rw [hr]; simp)
  have hyl := form_len h.f
  have hm : ∀ c, c ∈ (y ++ "\t" ++ x).cps.toList ↔ c ∈ y.cps.toList ∨ c = 9 ∨ c ∈ x.cps.toList := fun c => by
    rw [app_list, app_list, ht, List.mem_append, List.mem_append, List.mem_singleton]
    constructor
    · rintro ((q | q) | q)
      · exact .inl q
      · exact .inr (.inl q)
      · exact .inr (.inr q)
    · rintro (q | q | q)
      · exact .inl (.inl q)
      · exact .inl (.inr q)
      · exact .inr q
  rw [e]
  refine ⟨⟨by simp, ?_, fun w hw => ?_⟩, pn_head (form_tab ((hm 9).mpr (.inr (.inl rfl))))⟩
  · have := h.len
    rw [hr, List.length_cons] at this
    rw [List.length_cons]
    omega
  · rcases List.mem_cons.mp hw with rfl | hw
    · refine ⟨?_, fun c hc => ?_⟩
      · rw [PySem.Str.length_append, PySem.Str.length_append]
        have e1 : ("\t" : Str).length = 1 := rfl
        omega
      · rcases (hm c).mp hc with q | q | q
        · exact hy.2 c q
        · rw [q]; decide
        · exact hx.2 c q
    · exact h.hun w (by rw [hr]; exact List.mem_cons_of_mem _ (List.mem_cons_of_mem _ hw))
theorem bad6 (h : GoodW y r n m) {k : Nat} (hk : k ≤ r.length + 1) : BadW ((y :: r).take k ++ ([""] : List Str) ++ (y :: r).drop k) := by
  have hl := h.l
  have hlen := h.len
  refine ⟨⟨by simp, ?_, fun w hw => ?_⟩, ?_⟩
  · rw [List.length_append, List.length_append, List.length_take, List.length_drop, List.length_cons]
    show min k (r.length + 1) + 1 + (r.length + 1 - k) ≤ 10
    omega
  · rcases List.mem_append.mp hw with hw | hw
    · rcases List.mem_append.mp hw with hw | hw
      · exact h.hun w (List.mem_of_mem_take hw)
      · rw [List.mem_singleton.mp hw]
        exact plainS_ok (by decide +kernel)
    · exact h.hun w (List.mem_of_mem_drop hw)
  · cases k with
    | zero => exact pn_head (z := "") (r := y :: r) (by decide +kernel)
    | succ k =>
      have e : (y :: r).take (k + 1) ++ ([""] : List Str) ++ (y :: r).drop (k + 1) = y :: (r.take k ++ ([""] : List Str) ++ r.drop k) := rfl
      rw [e]
      refine pn_of h.f fun q => ?_
      have := q.1
      rw [List.length_append, List.length_append, List.length_take, List.length_drop] at this
      simp at this
      omega
end
theorem mid_bad {rs : List RowV} (hok : ∀ r ∈ rs, r.ok) {A C : List (List Str)} {W : List Str} (hA : ∀ X ∈ A, X ∈ rs.map RowV.words) (hC : ∀ X ∈ C, X ∈ rs.map RowV.words) (hl : A.length + C.length ≤ 300) (hB : BadW W) :
    (A ++ [W] ++ C) ≠ [] ∧ (A ++ [W] ++ C).length ≤ 301 ∧ (∀ X ∈ A ++ [W] ++ C, WordsIn X) ∧ ∃ X ∈ A ++ [W] ++ C, parseRow X = none := by
  have hin : ∀ X ∈ rs.map RowV.words, WordsIn X := fun X hX => by
    obtain ⟨r, hr, rfl⟩ := List.mem_map.mp hX
    exact words_in (hok r hr)
  refine ⟨by simp, ?_, fun X hX => ?_, W, by simp, hB.n⟩
  · rw [List.length_append, List.length_append]
    show A.length + 1 + C.length ≤ 301
    omega
  · rcases List.mem_append.mp hX with hX | hX
    · rcases List.mem_append.mp hX with hX | hX
      · exact hin X (hA X hX)
      · rw [List.mem_singleton.mp hX]
        exact hB.i
    · exact hin X (hC X hX)
theorem lines_mid (f : List Str → Str) (A C : List (List Str)) (W : List Str) : ((A ++ [W] ++ C).map f).map D.str = ((A.map f).map D.str ++ [D.str (f W)]) ++ (C.map f).map D.str := by
  rw [List.map_append, List.map_append, List.map_append, List.map_append]
  rfl
theorem odd_lines : ∀ z ∈ (["", " ", "shop"] : List Str), ∃ W, BadW W ∧ z = lineW W := fun z hz => by
  simp only [List.mem_cons, List.not_mem_nil, or_false] at hz
  have mk : ∀ W : List Str, W ≠ [] → W.length ≤ 10 → (W.all plainS = true) → parseRow W = none → BadW W := fun W h1 h2 h3 h4 => ⟨⟨h1, h2, fun w hw => plainS_ok (List.all_eq_true.mp h3 w hw)⟩, h4⟩
  rcases hz with rfl | rfl | rfl
  · exact ⟨[""], mk _ (by simp) (by decide) (by decide +kernel) (pn_head (by decide +kernel)), by decide +kernel⟩
  · exact ⟨["", ""], mk _ (by simp) (by decide) (by decide +kernel) (pn_head (by decide +kernel)), by decide +kernel⟩
  · exact ⟨["shop"], mk _ (by simp) (by decide) (by decide +kernel) (pn_head (by decide +kernel)), by decide +kernel⟩
theorem pickS {P : Str → Prop} {l : List Str} {k : Int} (h0 : 0 ≤ k) (h1 : k < l.length) (h : ∀ z ∈ l, P z) : ∃ z, atI (l.map D.str) k = some (.str z) ∧ P z := by
  obtain ⟨j, z, _, hj, e⟩ := atI_lt D.str h0 h1
  exact ⟨z, e, h z (List.mem_of_getElem? hj)⟩
theorem ixN_last {n : Nat} (h : 0 < n) : ixN n (-1) = some (n - 1) := by
  unfold ixN
  rw [if_neg (by decide), if_pos (by omega)]
  congr 1
  omega
theorem fig_61 {z : Str} (h : z.cps.toList = List.replicate 61 49) : numB z = false ∧ (z.length ≤ 100 ∧ ∀ c ∈ z.cps.toList, c ≠ 32 ∧ c ≠ 10) := by
  have hl : z.length = 61 := by rw [slen, h, List.length_replicate]
  refine ⟨?_, by omega, fun c hc => ?_⟩
  · cases e : numB z with
    | false => rfl
    | true =>
      have := (numB_iff.mp e).2.1
      omega
  · rw [h] at hc
    rw [List.eq_of_mem_replicate hc]
    decide
theorem num_char {z : Str} {c : Nat} (h : c ∈ z.cps.toList) (hc : figB c = false) : numB z = false := by
  cases e : numB z with
  | false => rfl
  | true =>
    have := List.all_eq_true.mp (numB_iff.mp e).2.2.1 c h
    rw [hc] at this
    cases this
end N
namespace N
open PySem L2 VL TL
theorem shopOf_D (Q : List RowV) : shopD (shopOf Q) = .tup [.tup ((shopOf Q).ws.map wareD), .tup ((shopOf Q).wants.map wantD)] := rfl
theorem shopOf_names (Q : List RowV) : (shopOf Q).names = headsV Q := by
  show ((Q.filterMap (RowV.ware? Q)).map (·.nm)) = _
  rw [ware_core, List.map_map, head_core]
  rfl
theorem ware_in {Q : List RowV} {nm : Str} {a b c d : Int} (h : RowV.ware nm a b c d ∈ Q) : (⟨nm, a, b, c, d, comsV nm Q, partsV nm Q⟩ : Ware) ∈ (shopOf Q).ws := List.mem_filterMap.mpr ⟨_, h, rfl⟩
theorem not_by_ware {Q : List RowV} {w : Ware} (h : w ∈ (shopOf Q).ws) (hb : wareB (wareD w) = false) : ¬ GoodRs Q := fun g => by
  have := g.2
  rw [shopOf_D, badS_wares (allB_mem (List.mem_map_of_mem h) hb)] at this
  cases this
theorem not_by_want {Q : List RowV} {v : Want} (h : v ∈ (shopOf Q).wants) (hb : wantB (wantD v) = false) : ¬ GoodRs Q := fun g => by
  have := g.2
  rw [shopOf_D, badS_wants (allB_mem (List.mem_map_of_mem h) hb)] at this
  cases this
theorem not_by_nm {Q : List RowV} {r : RowV} (h : r ∈ Q) (hn : r.nm ∉ headsV Q) : ¬ GoodRs Q := fun g => hn (g.1 r h)
theorem coms_app (nm : Str) (P Q : List RowV) : comsV nm (P ++ Q) = comsV nm P ++ comsV nm Q := List.filterMap_append ..
theorem parts_app (nm : Str) (P Q : List RowV) : partsV nm (P ++ Q) = partsV nm P ++ partsV nm Q := List.filterMap_append ..
theorem heads_app (P Q : List RowV) : headsV (P ++ Q) = headsV P ++ headsV Q := List.filterMap_append ..
/-- a good shop's rows in some order, name a ware's -/
structure RowsIn (s : Shop) (rs : List RowV) (name : Str) : Prop where
  g : ShopG s
  al : Alike rs (rowsOf s)
  pm : rs.Perm (rowsOf s)
  nm : name ∈ s.names
  na : ∀ z ∈ s.names, z ≠ "a"
section
variable {s : Shop} {rs : List RowV} {name : Str}
theorem RowsIn.heads (h : RowsIn s rs name) : headsV rs = s.names := by rw [h.al.heads, heads_rowsOf]
theorem RowsIn.row (h : RowsIn s rs name) : ∃ a b c d, RowV.ware name a b c d ∈ rs := by
  obtain ⟨w, hw, rfl⟩ := List.mem_map.mp h.nm
  refine ⟨w.lag, w.gives, w.floor, w.stock, h.pm.mem_iff.mpr ?_⟩
  exact List.mem_append_left _ (List.mem_flatMap.mpr ⟨w, hw, List.mem_cons_self⟩)
theorem RowsIn.ok (h : RowsIn s rs name) : ∀ r ∈ rs, r.ok := fun r hr => rows_ok h.g r (h.pm.mem_iff.mp hr)
theorem RowsIn.len (h : RowsIn s rs name) : rs.length ≤ 248 := by rw [h.pm.length_eq]; exact rows_len h.g
theorem RowsIn.ne (h : RowsIn s rs name) : rs ≠ [] := fun e => rows_ne h.g (by
  have := h.pm
  rw [e] at this
  exact List.Perm.nil_eq this |>.symm)
theorem RowsIn.nok (h : RowsIn s rs name) : NameOk name := h.g.n.nm _ h.nm
/-- the ware of the name, with further rows -/
theorem RowsIn.more (h : RowsIn s rs name) (es : List RowV) : ∃ a b c d, (⟨name, a, b, c, d, comsV name (rs ++ es), partsV name (rs ++ es)⟩ : Ware) ∈ (shopOf (rs ++ es)).ws := by
  obtain ⟨a, b, c, d, hr⟩ := h.row
  exact ⟨a, b, c, d, ware_in (List.mem_append_left _ hr)⟩
theorem no_lag {a : Int} (ha : 31 ≤ a) : ¬ GoodRs (rs ++ [.ware "aa" a 1 0 0]) := not_by_ware (ware_in (List.mem_append_right _ (List.mem_singleton.mpr rfl))) (bad_lag (by
  show (isWhole (.int a) 0 && decide (a ≤ 30)) = false
  rw [decide_eq_false (by omega), Bool.and_false]))
theorem no_gives : ¬ GoodRs (rs ++ [.ware "aa" 0 0 5 5]) := not_by_ware (ware_in (List.mem_append_right _ (List.mem_singleton.mpr rfl))) (bad_gives (show isWhole (.int 0) 1 = false from by decide))
theorem no_coming (h : RowsIn s rs name) {k : Int} (hk : 401 ≤ k) : ¬ GoodRs (rs ++ [.coming name k 1]) := by
  obtain ⟨a, b, c, d, hw⟩ := h.more [.coming name k 1]
  refine not_by_ware hw (bad_com (allB_mem (d := pairD (k, 1)) (List.mem_map_of_mem (f := pairD) ?_) ?_))
  · rw [coms_app]
    refine List.mem_append_right _ (List.mem_filterMap.mpr ⟨_, List.mem_singleton.mpr rfl, ?_⟩)
    exact if_pos rfl
  · show ((decide (0 ≤ k) && decide (k ≤ 400)) && _) = false
    rw [decide_eq_false (show ¬ k ≤ 400 by omega), Bool.and_false]
    rfl
theorem no_want {nm : Str} {k : Int} (hk : 401 ≤ k) : ¬ GoodRs (rs ++ [.want nm k 1]) := by
  refine not_by_want (v := (nm, k, 1)) (List.mem_filterMap.mpr ⟨_, List.mem_append_right _ (List.mem_singleton.mpr rfl), rfl⟩) ?_
  show (nameB (.str nm) && ((decide (0 ≤ k) && decide (k ≤ 400)) && _)) = false
  rw [decide_eq_false (show ¬ k ≤ 400 by omega), Bool.and_false]
  simp
theorem no_name (h : RowsIn s rs name) {r : RowV} (hr : r.nm = "a") (hh : RowV.head? r = none) : ¬ GoodRs (rs ++ [r]) := by
  refine not_by_nm (r := r) (List.mem_append_right _ (List.mem_singleton.mpr rfl)) fun hm => ?_
  rw [heads_app, show headsV [r] = [] from List.filterMap_cons_none hh, List.append_nil, h.heads, hr] at hm
  exact h.na _ hm rfl
theorem no_part (h : RowsIn s rs name) : ¬ GoodRs (rs ++ [.part name "a" 1]) := fun g => by
  obtain ⟨a, b, c, d, hw⟩ := h.more [.part name "a" 1]
  have g2 := g.2
  rw [shopOf_D, badS_part ?_] at g2
  · cases g2
  · have e : (dsOf (.tup ((shopOf (rs ++ [.part name "a" 1])).ws.map wareD))).map headS = headsV (rs ++ [.part name "a" 1]) := by
      rw [← shopOf_names]
      exact heads_wares _
    rw [e]
    cases q : ((dsOf (.tup ((shopOf (rs ++ [.part name "a" 1])).ws.map wareD))).all fun w => inB (headsV (rs ++ [.part name "a" 1])) (partsD w)) with
    | false => rfl
    | true =>
      have := List.all_eq_true.mp q _ (List.mem_map_of_mem (f := wareD) hw)
      rw [inB_not (d := partD ("a", 1)) ?_ ?_] at this
      · cases this
      · show _ ∈ (partsV name (rs ++ [.part name "a" 1])).map partD
        refine List.mem_map_of_mem ?_
        rw [parts_app]
        exact List.mem_append_right _ (List.mem_filterMap.mpr ⟨_, List.mem_singleton.mpr rfl, if_pos rfl⟩)
      · show ("a" : Str) ∉ headsV (rs ++ [.part name "a" 1])
        rw [heads_app, show headsV [RowV.part name "a" 1] = [] from rfl, List.append_nil, h.heads]
        exact fun hm => h.na _ hm rfl
theorem no_amount (h : RowsIn s rs name) : ¬ GoodRs (rs ++ [.part name name 0]) := by
  obtain ⟨a, b, c, d, hw⟩ := h.more [.part name name 0]
  refine not_by_ware hw (bad_parts (allB_mem (d := partD (name, 0)) (List.mem_map_of_mem (f := partD) ?_) ?_))
  · rw [parts_app]
    exact List.mem_append_right _ (List.mem_filterMap.mpr ⟨_, List.mem_singleton.mpr rfl, if_pos rfl⟩)
  · show (nameB (.str name) && isWhole (.int 0) 1) = false
    rw [show isWhole (.int 0) 1 = false from by decide, Bool.and_false]
theorem no_twice (h : RowsIn s rs name) : ¬ GoodRs (rs ++ [.ware name 0 1 0 0]) := fun g => by
  have g2 := g.2
  rw [shopOf_D, badS_unlike ?_] at g2
  · cases g2
  · show decide (((shopOf (rs ++ [.ware name 0 1 0 0])).ws.map wareD).map headS).Nodup = false
    rw [heads_wares, show (shopOf (rs ++ [.ware name 0 1 0 0])).ws.map (·.nm) = headsV (rs ++ [.ware name 0 1 0 0]) from shopOf_names _, heads_app, h.heads]
    refine decide_eq_false fun nd => ?_
    exact (List.nodup_append.mp nd).2.2 name h.nm name (List.mem_singleton.mpr rfl) rfl
theorem no_wares {es : List RowV} (he : 12 < (headsV es).length) : ¬ GoodRs (rs ++ es) := fun g => by
  have g2 := g.2
  rw [shopOf_D, badS_wares (allB_long ?_)] at g2
  · cases g2
  · rw [List.length_map]
    have e : (shopOf (rs ++ es)).ws.length = (shopOf (rs ++ es)).names.length := (List.length_map ..).symm
    rw [e, shopOf_names, heads_app, List.length_append]
    omega
theorem no_comings (h : RowsIn s rs name) {es : List RowV} (he : 12 < (comsV name es).length) : ¬ GoodRs (rs ++ es) := by
  obtain ⟨a, b, c, d, hw⟩ := h.more es
  refine not_by_ware hw (bad_com (allB_long ?_))
  rw [List.length_map, coms_app, List.length_append]
  omega
theorem no_wants {es : List RowV} (he : 20 < (es.filterMap RowV.want?).length) : ¬ GoodRs (rs ++ es) := fun g => by
  have g2 := g.2
  rw [shopOf_D, badS_wants (allB_long ?_)] at g2
  · cases g2
  · rw [List.length_map]
    show (20 : Int) < (((rs ++ es).filterMap RowV.want?).length : Nat)
    rw [List.filterMap_append, List.length_append]
    omega
theorem no_parts (h : RowsIn s rs name) : ¬ GoodRs (rs ++ [.part name name 1, .part name name 2]) := by
  obtain ⟨a, b, c, d, hw⟩ := h.more [.part name name 1, .part name name 2]
  refine not_by_ware hw (bad_unlike ?_)
  rw [unlikeB_parts]
  refine decide_eq_false fun nd => ?_
  have e : partsV name [.part name name 1, .part name name 2] = [(name, 1), (name, 2)] := by
    unfold partsV
    rw [List.filterMap_cons_some (show RowV.part? name (.part name name 1) = some (name, 1) from if_pos rfl), List.filterMap_cons_some (show RowV.part? name (.part name name 2) = some (name, 2) from if_pos rfl)]
    rfl
  rw [parts_app, e, List.map_append] at nd
  have := (List.nodup_append.mp nd).2.1
  simp at this
end
theorem one_ok : NumOk 1 := ⟨by decide, by decide⟩
theorem zero_ok : NumOk 0 := ⟨by decide, by decide⟩
theorem small_ok {k : Int} (h0 : 0 ≤ k) (h1 : k ≤ 10000) : NumOk k := ⟨h0, by omega⟩
theorem numT_one : numT 1 = "1" := by decide +kernel
theorem numT_nought : numT 0 = "0" := by decide +kernel
theorem aa_ok : NameOk "aa" := name_ok (by decide +kernel)
theorem a_ok : NameOk "a" := name_ok (by decide +kernel)
end N
namespace N
open PySem L2 VL
theorem cmp_tup {n : Nat} {ds : List D} (h : ∀ d ∈ ds, D.cmpN n d = true) : D.cmpN (n + 1) (.tup ds) = true := List.all_eq_true.mpr h
theorem cmp_map {α : Type} {f : α → D} {n : Nat} {l : List α} (h : ∀ x ∈ l, D.cmpN n (f x) = true) : D.cmpN (n + 1) (.tup (l.map f)) = true := cmp_tup fun d hd => by
  obtain ⟨x, hx, rfl⟩ := List.mem_map.mp hd
  exact h x hx
theorem cmp_str {z : Str} (n : Nat) (h : PyData.strOk z = true) : D.cmpN n (.str z) = true := by cases n <;> exact h
theorem cmp_int (i : Int) (n : Nat) : D.cmpN n (.int i) = true := by cases n <;> rfl
theorem cmp_want {w : Want} {n : Nat} (h : PyData.strOk w.1 = true) : D.cmpN (n + 1) (wantD w) = true := cmp_tup fun d hd => by
  rcases List.mem_cons.mp hd with rfl | hd
  · exact cmp_str n h
  rcases List.mem_cons.mp hd with rfl | hd
  · exact cmp_int _ n
  cases List.mem_singleton.mp hd
  exact cmp_int _ n
theorem cmp_ware {w : Ware} {n : Nat} (h : PyData.strOk w.nm = true) (hp : ∀ p ∈ w.parts, PyData.strOk p.1 = true) : D.cmpN (n + 3) (wareD w) = true := cmp_tup fun d hd => by
  rcases List.mem_cons.mp hd with rfl | hd
  · exact cmp_str _ h
  rcases List.mem_cons.mp hd with rfl | hd
  · exact cmp_int _ _
  rcases List.mem_cons.mp hd with rfl | hd
  · exact cmp_int _ _
  rcases List.mem_cons.mp hd with rfl | hd
  · exact cmp_int _ _
  rcases List.mem_cons.mp hd with rfl | hd
  · exact cmp_int _ _
  rcases List.mem_cons.mp hd with rfl | hd
  · exact cmp_map fun p _ => cmp_tup fun d hd => by
      rcases List.mem_cons.mp hd with rfl | hd
      · exact cmp_int _ _
      cases List.mem_singleton.mp hd
      exact cmp_int _ _
  cases List.mem_singleton.mp hd
  exact cmp_map fun p hp' => cmp_tup fun d hd => by
    rcases List.mem_cons.mp hd with rfl | hd
    · exact cmp_str _ (hp p hp')
    cases List.mem_singleton.mp hd
    exact cmp_int _ _
theorem cmp_shop {s : Shop} (hw : ∀ w ∈ s.ws, PyData.strOk w.nm = true ∧ ∀ p ∈ w.parts, PyData.strOk p.1 = true) (hv : ∀ v ∈ s.wants, PyData.strOk v.1 = true) : D.cmpN 60 (shopD s) = true := cmp_tup fun d hd => by
  rcases List.mem_cons.mp hd with rfl | hd
  · exact cmp_map (n := 58) fun w h => cmp_ware (hw w h).1 (hw w h).2
  cases List.mem_singleton.mp hd
  exact cmp_map (n := 58) fun v h => cmp_want (hv v h)
theorem ShopG.cmpW {s : Shop} (h : ShopG s) : ∀ w ∈ s.ws, PyData.strOk w.nm = true ∧ ∀ p ∈ w.parts, PyData.strOk p.1 = true := fun w hw => ⟨(h.ws w hw).nm.str, fun p hp => h.strs _ (h.sub w hw p hp)⟩
end N
namespace N
open PySem L2 VL
def topS (i : Nat) : Stmt := PySem.Challenge.pw_needplan_k53_refused_texts.main.body.getD i (.Pass ⟨0, 0, 0, 0⟩)
abbrev Gd (K : PySem.W.Frag) : Gs := ⟨GoodSt1, none⟩
abbrev spLawN (K : PySem.W.Frag) := spLaw K (Gd K)
local macro_rules | `(tactic| walk_at "uX") => `(tactic| (with_reducible refine vsl_tup ?_))
local macro_rules | `(tactic| walk_at "uX") => `(tactic| ((with_reducible refine' vsl_list ?h ?_); (case h => exact rfl)))
local macro_rules | `(tactic| walk_at "uX") => `(tactic| (with_reducible refine vu_I ?_))
local macro_rules | `(tactic| walk_at "uX") => `(tactic| (with_reducible refine vp_some ?_))
local macro_rules | `(tactic| walk_at "uX") => `(tactic| (with_reducible refine vp_none ?_))
local macro_rules | `(tactic| walk_at "uX") => `(tactic| (with_reducible refine vgs_nil ?_))
local macro_rules | `(tactic| walk_at "uX") => `(tactic| (with_reducible refine vgs_cons ?_))
local macro_rules | `(tactic| walk_at "uX") => `(tactic| ((with_reducible refine' ex_keys ?h1 ?h2 ?_); (case h1 => exact rfl); (case h2 => exact rfl)))
local macro_rules | `(tactic| walk_at "uX") => `(tactic| ((with_reducible refine' ex_plains ?h1 ?h2 ?_); (case h1 => exact rfl); (case h2 => exact rfl)))
local macro_rules | `(tactic| walk_at "uX") => `(tactic| (with_reducible refine ex_io ?_))
local macro_rules | `(tactic| walk_at "uX") => `(tactic| (with_reducible refine ex_int ?_))
local macro_rules | `(tactic| walk_at "uX") => `(tactic| (with_reducible refine ex_bl ?_))
local macro_rules | `(tactic| walk_at "uX") => `(tactic| (with_reducible refine fz_m ?_))
local macro_rules | `(tactic| walk_at "uX") => `(tactic| (with_reducible refine fz_o ?_))
local macro_rules | `(tactic| walk_at "uX") => `(tactic| (with_reducible refine fz_p ?_))
local macro_rules | `(tactic| walk_at "uS") => `(tactic| (with_reducible refine vs_retN ?_))
local macro_rules | `(tactic| walk_at "uS") => `(tactic| (with_reducible refine vs_cont ?_))
local macro_rules | `(tactic| walk_at "uS") => `(tactic| (with_reducible refine vs_break ?_))
local macro_rules | `(tactic| walk_at "uS") => `(tactic| (with_reducible refine vs_next ?_))
local macro_rules | `(tactic| walk_at "uS") => `(tactic| ((with_reducible refine' vs_aug ?h ?_); (case h => exact rfl)))
local macro_rules | `(tactic| walk_at "uS") => `(tactic| (with_reducible refine vs_expr ?_))
local macro_rules | `(tactic| walk_at "uS") => `(tactic| (with_reducible refine vs_ret ?_))
local macro_rules | `(tactic| walk_at "uS") => `(tactic| (with_reducible refine vs_asg ?_))
local macro_rules | `(tactic| walk_at "uS") => `(tactic| ((with_reducible refine' vs_dclear ?h ?_); (case h => exact rfl)))
local macro_rules | `(tactic| walk_at "uS") => `(tactic| ((with_reducible refine' vs_reverse ?h ?_); (case h => exact rfl)))
local macro_rules | `(tactic| walk_at "uS") => `(tactic| ((with_reducible refine' vs_insPop ?h ?_); (case h => exact rfl)))
local macro_rules | `(tactic| walk_at "uS") => `(tactic| ((with_reducible refine' vs_append ?h ?_); (case h => exact rfl)))
local macro_rules | `(tactic| walk_at "uG") => `(tactic| ((with_reducible refine vg_lst ?h ?_); (case h => exact rfl)))
local macro_rules | `(tactic| walk_at "uG") => `(tactic| ((with_reducible refine vg_tup ?h ?_); (case h => exact rfl)))
local macro_rules | `(tactic| walk_at "uG") => `(tactic| ((with_reducible refine vg_o ?h ?_); (case h => exact Nat.le_of_ble_eq_true rfl)))
local macro_rules | `(tactic| walk_at "uG") => `(tactic| ((with_reducible refine vg_p ?h ?_); (case h => exact Nat.le_of_ble_eq_true rfl)))
local macro_rules | `(tactic| walk_at "uE") => `(tactic| (with_reducible refine ve_dnotin ?_))
local macro_rules | `(tactic| walk_at "uE") => `(tactic| (with_reducible refine ve_din ?_))
local macro_rules | `(tactic| walk_at "uE") => `(tactic| (with_reducible refine ve_dget ?_))
local macro_rules | `(tactic| walk_at "uE") => `(tactic| (with_reducible refine vq_dget1 ?_))
local macro_rules | `(tactic| walk_at "uE") => `(tactic| (with_reducible refine vq_dnotin ?_))
local macro_rules | `(tactic| walk_at "uE") => `(tactic| (with_reducible refine vq_din ?_))
local macro_rules | `(tactic| walk_at "uE") => `(tactic| (with_reducible refine vq_dget ?_))
local macro_rules | `(tactic| walk_at "uE") => `(tactic| (with_reducible refine ve_ty ?_))
local macro_rules | `(tactic| walk_at "uE") => `(tactic| (with_reducible refine ve_if ?_))
local macro_rules | `(tactic| walk_at "uE") => `(tactic| (with_reducible refine ve_notV ?_))
local macro_rules | `(tactic| walk_at "uE") => `(tactic| (with_reducible refine ve_orV ?_))
local macro_rules | `(tactic| walk_at "uE") => `(tactic| (with_reducible refine ve_andV ?_))
local macro_rules | `(tactic| walk_at "uE") => `(tactic| (with_reducible refine ve_slice ?_))
local macro_rules | `(tactic| walk_at "uE") => `(tactic| (with_reducible refine ve_dnewT ?_))
local macro_rules | `(tactic| walk_at "uE") => `(tactic| (with_reducible refine ve_dnew ?_))
local macro_rules | `(tactic| walk_at "uE") => `(tactic| (with_reducible refine ve_lst ?_))
local macro_rules | `(tactic| walk_at "uE") => `(tactic| (with_reducible refine ve_tupKq ?_))
local macro_rules | `(tactic| walk_at "uE") => `(tactic| (with_reducible refine ve_tup ?_))
local macro_rules | `(tactic| walk_at "uE") => `(tactic| (with_reducible refine ve_cb ?_))
local macro_rules | `(tactic| walk_at "uE") => `(tactic| (with_reducible refine ve_un ?_))
local macro_rules | `(tactic| walk_at "uE") => `(tactic| (with_reducible refine ve_op ?_))
local macro_rules | `(tactic| walk_at "uE") => `(tactic| (with_reducible refine ve_non ?_))
local macro_rules | `(tactic| walk_at "uE") => `(tactic| (with_reducible refine ve_bl ?_))
local macro_rules | `(tactic| walk_at "uE") => `(tactic| (with_reducible refine ve_str ?_))
local macro_rules | `(tactic| walk_at "uE") => `(tactic| (with_reducible refine ve_int ?_))
local macro_rules | `(tactic| walk_at "uE") => `(tactic| (with_reducible refine ve_ref ?_))
local macro_rules | `(tactic| walk_at "uE") => `(tactic| ((with_reducible refine' ve_varm ?h ?_); (case h => exact rfl)))
local macro_rules | `(tactic| walk_at "uE") => `(tactic| ((with_reducible refine' ve_var ?h ?_); (case h => exact rfl)))
local macro_rules | `(tactic| walk_at "uA") => `(tactic| (with_reducible refine va_nil ?_))
local macro_rules | `(tactic| walk_at "uA") => `(tactic| (with_reducible refine va_cons ?_))
local macro_rules | `(tactic| walk_at "uT") => `(tactic| (with_reducible refine vt_yes ?_))
local macro_rules | `(tactic| walk_at "uT") => `(tactic| (with_reducible refine vt_not ?_))
local macro_rules | `(tactic| walk_at "uT") => `(tactic| (with_reducible refine vt_or ?_))
local macro_rules | `(tactic| walk_at "uT") => `(tactic| (with_reducible refine vt_and ?_))
local macro_rules | `(tactic| walk_at "uT") => `(tactic| (with_reducible refine vt_test ?_))
local macro_rules | `(tactic| walk_at "uT") => `(tactic| (with_reducible refine vt_B ?_))
local macro_rules | `(tactic| walk_at "uO") => `(tactic| (with_reducible refine vo_modq ?_ ?hmod))
local macro_rules | `(tactic| walk_at "uO") => `(tactic| ((with_reducible refine vo_modq ?_ ?h); (case h => first | decide | omega)))
local macro_rules | `(tactic| walk_at "uO") => `(tactic| (with_reducible refine vo_divq ?_ ?hdiv))
local macro_rules | `(tactic| walk_at "uO") => `(tactic| ((with_reducible refine vo_divq ?_ ?h); (case h => exact ⟨by first | decide | omega, by decide⟩)))
local macro_rules | `(tactic| walk_at "uO") => `(tactic| (with_reducible refine vo_mulq ?_ ?hmul))
local macro_rules | `(tactic| walk_at "uO") => `(tactic| ((with_reducible refine vo_mulq ?_ ?h); (case h => first | exact .inl (.inr ⟨by decide, by decide⟩) | exact .inl (.inl ⟨by decide, by decide⟩) | exact .inl (.inl ⟨by omega, by omega⟩) | exact .inl (.inr ⟨by omega, by omega⟩))))
local macro_rules | `(tactic| walk_at "uO") => `(tactic| ((with_reducible refine vo_pow ?h ?_); (case h => exact ⟨by decide, by decide, by decide⟩)))
local macro_rules | `(tactic| walk_at "uO") => `(tactic| (with_reducible refine vo_notN ?_))
local macro_rules | `(tactic| walk_at "uO") => `(tactic| (with_reducible refine vo_isN ?_))
local macro_rules | `(tactic| walk_at "uO") => `(tactic| (with_reducible refine vo_ne_bl ?_))
local macro_rules | `(tactic| walk_at "uO") => `(tactic| (with_reducible refine vo_eq_bl ?_))
local macro_rules | `(tactic| walk_at "uO") => `(tactic| (with_reducible refine vo_ne_str ?_))
local macro_rules | `(tactic| walk_at "uO") => `(tactic| (with_reducible refine vo_eq_str ?_))
local macro_rules | `(tactic| walk_at "uO") => `(tactic| (with_reducible refine vo_ne_int ?_))
local macro_rules | `(tactic| walk_at "uO") => `(tactic| (with_reducible refine vo_eq_int ?_))
local macro_rules | `(tactic| walk_at "uO") => `(tactic| (with_reducible refine vo_ip ?_))
local macro_rules | `(tactic| walk_at "uO") => `(tactic| (with_reducible refine vo_B0 ?_))
local macro_rules | `(tactic| walk_at "uO") => `(tactic| (with_reducible refine vo_I0 ?_))
local macro_rules | `(tactic| walk_at "uC") => `(tactic| ((with_reducible refine' vc_isi ?h1 ?h2 ?_); (case h1 => exact rfl); (case h2 => exact rfl)))
local macro_rules | `(tactic| walk_at "uC") => `(tactic| (with_reducible refine vc_intB ?_))
local macro_rules | `(tactic| walk_at "uC") => `(tactic| (with_reducible refine vc_abs ?_))
local macro_rules | `(tactic| walk_at "uC") => `(tactic| (with_reducible refine vc_min2 ?_))
local macro_rules | `(tactic| walk_at "uC") => `(tactic| (with_reducible refine vc_max2 ?_))
local macro_rules | `(tactic| walk_at "uC") => `(tactic| ((with_reducible refine' vc_tupL ?h ?_); (case h => exact rfl)))
local macro_rules | `(tactic| walk_at "uC") => `(tactic| (with_reducible refine vc_listT ?_))
local macro_rules | `(tactic| walk_at "uC") => `(tactic| ((with_reducible refine' vc_listL ?h ?_); (case h => exact rfl)))
local macro_rules | `(tactic| walk_at "uC") => `(tactic| (with_reducible refine vc_lenT ?_))
local macro_rules | `(tactic| walk_at "uC") => `(tactic| ((with_reducible refine' vc_lenL ?h ?_); (case h => exact rfl)))
local macro_rules | `(tactic| walk_at "u") => `(tactic| walk_at "uX")
local macro_rules | `(tactic| walk_at "u") => `(tactic| ((with_reducible refine is_G ?_); walk_at "uG"))
local macro_rules | `(tactic| walk_at "u") => `(tactic| ((with_reducible refine is_T ?_); walk_at "uT"))
local macro_rules | `(tactic| walk_at "u") => `(tactic| ((with_reducible refine is_C ?_); walk_at "uC"))
local macro_rules | `(tactic| walk_at "u") => `(tactic| ((with_reducible refine is_S ?_); walk_at "uS"))
local macro_rules | `(tactic| walk_at "u") => `(tactic| ((with_reducible refine is_O ?_); walk_at "uO"))
local macro_rules | `(tactic| walk_at "u") => `(tactic| ((with_reducible refine is_A ?_); walk_at "uA"))
local macro_rules | `(tactic| walk_at "u") => `(tactic| ((with_reducible refine is_E ?_); walk_at "uE"))
local macro_rules | `(tactic| walk_at "c") => `(tactic| (with_reducible refine ve_call lets_none ?_))
local macro_rules | `(tactic| walk_at "co") => `(tactic| (with_reducible refine ve_callO lets_none ?_))
local macro_rules | `(tactic| walk_at "v") => `(tactic| first | walk_at "u" | (with_reducible refine vs_seq ?_))
local macro_rules | `(tactic| walk_at "cm") => `(tactic| (with_reducible refine ve_callM lets_none ?_))
local macro_rules | `(tactic| walk_at "cmo") => `(tactic| (with_reducible refine ve_callMO lets_none ?_))
structure Glb (K : PySem.W.Frag) (mg : Str → Option Value) (w : World) : Prop where
  one : True
  ns : ∀ (x : Str) (v : Value), PySem.W.nsIn K mainGlobals x = some (some v) → mg x = some v
  b_ValueError : mg "ValueError" = none
  b_all : mg "all" = none
  b_bool : mg "bool" = none
  b_enumerate : mg "enumerate" = none
  b_int : mg "int" = none
  b_isinstance : mg "isinstance" = none
  b_len : mg "len" = none
  b_list : mg "list" = none
  b_range : mg "range" = none
  b_set : mg "set" = none
  b_str : mg "str" = none
  b_tuple : mg "tuple" = none
  c_FIGURES : ∃ u, mg "FIGURES" = some u ∧ RelV (.str "0123456789") u
  c_LETTERS : ∃ u, mg "LETTERS" = some u ∧ RelV (.str "abcdefghijklmnopqrstuvwxyz") u
  c_MOST : ∃ u, mg "MOST" = some u ∧ RelV (.int 60) u
  c_MOST_COMING : ∃ u, mg "MOST_COMING" = some u ∧ RelV (.int 12) u
  c_MOST_DAY : ∃ u, mg "MOST_DAY" = some u ∧ RelV (.int 400) u
  c_MOST_LAG : ∃ u, mg "MOST_LAG" = some u ∧ RelV (.int 30) u
  c_MOST_LETTERS : ∃ u, mg "MOST_LETTERS" = some u ∧ RelV (.int 8) u
  c_MOST_PARTS : ∃ u, mg "MOST_PARTS" = some u ∧ RelV (.int 6) u
  c_MOST_WANTS : ∃ u, mg "MOST_WANTS" = some u ∧ RelV (.int 20) u
  c_MOST_WARES : ∃ u, mg "MOST_WARES" = some u ∧ RelV (.int 12) u
  d_is_coming : ∃ f : Addr, Is K "is_coming" f
  d_is_part : ∃ f : Addr, Is K "is_part" f
  d_is_want : ∃ f : Addr, Is K "is_want" f
  d_is_ware : ∃ f : Addr, Is K "is_ware" f
  x_NeedError : Xc K mg "NeedError"
  x_NoBuy : Xc K mg "NoBuy"
  x_NoDay : Xc K mg "NoDay"
  x_NoName : Xc K mg "NoName"
  x_NoPlan : Xc K mg "NoPlan"
  x_NoShop : Xc K mg "NoShop"
  x_NoText : Xc K mg "NoText"
  x_Ring : Xc K mg "Ring"
  f_exm_NoText_NeedError : ∀ kNoText kNeedError : Addr, Is K "NoText" kNoText → Is K "NeedError" kNeedError → PySem.W.exmOne K (.ref kNoText) (.ref kNeedError) = some true
  f_exm_NoShop_NeedError : ∀ kNoShop kNeedError : Addr, Is K "NoShop" kNoShop → Is K "NeedError" kNeedError → PySem.W.exmOne K (.ref kNoShop) (.ref kNeedError) = some true
  f_kit_NoText_NoText : ∀ kNoText : Addr, Is K "NoText" kNoText → PySem.W.kitOne K (.ref kNoText) (.ref kNoText) = some true
  f_kit_NoText_NoShop : ∀ kNoText kNoShop : Addr, Is K "NoText" kNoText → Is K "NoShop" kNoShop → PySem.W.kitOne K (.ref kNoText) (.ref kNoShop) = some false
  f_kit_NoShop_NoText : ∀ kNoShop kNoText : Addr, Is K "NoShop" kNoShop → Is K "NoText" kNoText → PySem.W.kitOne K (.ref kNoShop) (.ref kNoText) = some false
  f_kit_NoShop_NoShop : ∀ kNoShop : Addr, Is K "NoShop" kNoShop → PySem.W.kitOne K (.ref kNoShop) (.ref kNoShop) = some true
  f_kit_NoText_ValueError : ∀ kNoText : Addr, Is K "NoText" kNoText → PySem.W.kitOne K (.ref kNoText) (.type "ValueError") = some true
  f_kit_NoShop_ValueError : ∀ kNoShop : Addr, Is K "NoShop" kNoShop → PySem.W.kitOne K (.ref kNoShop) (.type "ValueError") = some true
  f_kit_NoText_Ring : ∀ kNoText kRing : Addr, Is K "NoText" kNoText → Is K "Ring" kRing → PySem.W.kitOne K (.ref kNoText) (.ref kRing) = some false
  f_kit_NoText_NoName : ∀ kNoText kNoName : Addr, Is K "NoText" kNoText → Is K "NoName" kNoName → PySem.W.kitOne K (.ref kNoText) (.ref kNoName) = some false
  f_kit_NoText_NoDay : ∀ kNoText kNoDay : Addr, Is K "NoText" kNoText → Is K "NoDay" kNoDay → PySem.W.kitOne K (.ref kNoText) (.ref kNoDay) = some false
  f_kit_NoText_NoBuy : ∀ kNoText kNoBuy : Addr, Is K "NoText" kNoText → Is K "NoBuy" kNoBuy → PySem.W.kitOne K (.ref kNoText) (.ref kNoBuy) = some false
  f_kit_NoText_NoPlan : ∀ kNoText kNoPlan : Addr, Is K "NoText" kNoText → Is K "NoPlan" kNoPlan → PySem.W.kitOne K (.ref kNoText) (.ref kNoPlan) = some false
  f_kit_NoShop_Ring : ∀ kNoShop kRing : Addr, Is K "NoShop" kNoShop → Is K "Ring" kRing → PySem.W.kitOne K (.ref kNoShop) (.ref kRing) = some false
  f_kit_NoShop_NoName : ∀ kNoShop kNoName : Addr, Is K "NoShop" kNoShop → Is K "NoName" kNoName → PySem.W.kitOne K (.ref kNoShop) (.ref kNoName) = some false
  f_kit_NoShop_NoDay : ∀ kNoShop kNoDay : Addr, Is K "NoShop" kNoShop → Is K "NoDay" kNoDay → PySem.W.kitOne K (.ref kNoShop) (.ref kNoDay) = some false
  f_kit_NoShop_NoBuy : ∀ kNoShop kNoBuy : Addr, Is K "NoShop" kNoShop → Is K "NoBuy" kNoBuy → PySem.W.kitOne K (.ref kNoShop) (.ref kNoBuy) = some false
  f_kit_NoShop_NoPlan : ∀ kNoShop kNoPlan : Addr, Is K "NoShop" kNoShop → Is K "NoPlan" kNoPlan → PySem.W.kitOne K (.ref kNoShop) (.ref kNoPlan) = some false
  t_FORMS : KDs K w mg "FORMS" [("ware", [.int 1, .int 4]), ("coming", [.int 1, .int 2]), ("part", [.int 2, .int 1]), ("want", [.int 1, .int 2])]
abbrev s__law_drawn : Stmt := topS 38
abbrev N__law_drawn : List Str := ["script", "seed", "cell"]
theorem sc__law_drawn : FnScope N__law_drawn ["script"] (defScope s__law_drawn) := ⟨rfl, rfl, rfl, by decide +kernel, rfl, by decide +kernel, by decide +kernel⟩
section
variable {P : Program} {w : World} {K : PySem.W.Frag} {mg : Str → Option Value} {base : Heap}
abbrev sp__law_drawn (K : PySem.W.Frag) : Sp := SpA K (Gd K) true (fun ns : List Int => [.ro (ns.map D.int)]) (fun ns => ns.length ≤ 63) (fun _ d => ∃ l : List Int, d = .lst (l.map D.int) ∧ GoodSt1 l) noRs
theorem c__law_drawn (Dn : Dfn K mg "_law_drawn" s__law_drawn ["script"]) (Z : Glb K mg w)  : Cal P w K mg base 1 "_law_drawn" (sp__law_drawn K) [] := by
  obtain ⟨f, fd, F, hm, hb⟩ := Dn.ex
  refine ⟨f, fd, ["script"], [], ?_, hm, F.kp, hb, .nil⟩
  refine F.ok sc__law_drawn (fun vs H Q E h => spA_len (fun _ => rfl) h) (fun cdv A outer s H vs Q E hr h => ?_)
  refine ⟨_, (pss_cons (ps_set (i := 1) sc__law_drawn.nd rfl (.inl rfl) pe_int)
    (pss_cons (ps_for PassesOwn.never rfl (pi_list (pv 0)) (pg_name (i := 2) sc__law_drawn.nd rfl (.inl rfl))
    (pss_one (ps_set (i := 1) sc__law_drawn.nd rfl (.inl rfl) (pe_op op_mod (pe_op op_add (pe_op op_add (pe_op (op_mul.or op_mulW) (pv 1) pe_int) (pe_op op_mod (pv 2) (pe_op op_pow pe_int pe_int))) pe_int) (pe_op op_sub (pe_op op_pow pe_int pe_int) pe_int)))))
    (pss_cons (ps_if ((pw_and (pt_cmpR op_gt (pe_callB call_len_seq (by rfl) Z.b_len PySem.boot_len (pa_cons (pv 0) pa_nil)) pe_int (nomark _)) (pw_and1 (pt_cmpR op_eq (pe_op op_mod (pe_ix ix_list (pv 0) pe_int (fun _ _ => rfl)) pe_int) pe_int (nomark _))))).pt
    (pss_one (ps_ret (pe_op op_cat (pe_op op_cat (pe_lst (pa_cons (pe_op op_fdivW (pe_ix ix_list (pv 0) pe_int (fun _ _ => rfl)) pe_int) pa_nil)) (pe_slice sl_list (pv 0) (po_some pe_int) (po_some pe_int))) (pe_lst (pa_cons (pv 1) pa_nil)))))
    pss_nil)
    (pss_one (ps_ret (pe_lst (pa_cons (pv 1) pa_nil))))))), ?_⟩
  try dsimp only [cxOf, Cx.nox, Cx.wish]
  refine run_def (N := N__law_drawn) (fun _ => Nat.le_of_ble_eq_true rfl) (env0 := fun ns => [.p (.ro (ns.map D.int)), .u, .u]) (fun _ => rfl) (fun B ns hp L => ?_) h
  repeat walk_at "v"
  refine vs_for (vi_l ?_)
  repeat walk_at "v"
  refine ⟨_, rfl, fun i e => ∃ s x, e = [.p (.ro (ns.map D.int)), .p (.int s), x], ⟨_, _, rfl⟩, ?_, ?_⟩
  · rintro i d e hi ⟨s, x, rfl⟩
    obtain ⟨n, hn, rfl⟩ := map_get hi
    repeat walk_at "v"
    exact ⟨_, _, rfl⟩
  · rintro e ⟨s, x, rfl⟩
    repeat walk_at "v"
    refine vs_if ?_
    repeat walk_at "v"
    refine ⟨fun hb => ?_, fun hb => ?_⟩
    · obtain ⟨n, r, rfl⟩ := cons_of_ne (l := ns) (fun z => by subst z; simp at hb)
      repeat walk_at "v"
      refine vo_ixL rfl (atI_nat (j := 0) rfl) ?_
      repeat walk_at "v"
      refine ⟨fun _ => ?_, fun _ => ?_⟩
      · repeat walk_at "v"
        refine vo_ixL rfl (atI_nat (j := 0) rfl) ?_
        repeat walk_at "v"
        rw [cutD_ints]
        have hlen : (List.take (HT.sIx (n :: r).length (n :: r).length (some 63) - HT.sIx (n :: r).length 0 (some 1)) (List.drop (HT.sIx (n :: r).length 0 (some 1)) (n :: r))).length ≤ 63 := by
          rw [List.length_take, List.length_drop]
          omega
        refine vo_cat rfl rfl (by rw [List.length_map]; show 1 + _ ≤ 100000; omega) ?_
        repeat walk_at "v"
        refine vo_cat rfl rfl (by rw [List.length_append, List.length_map]; show 1 + _ + 1 ≤ 100000; omega) ?_
        refine ⟨[n / 2] ++ List.take (HT.sIx (n :: r).length (n :: r).length (some 63) - HT.sIx (n :: r).length 0 (some 1)) (List.drop (HT.sIx (n :: r).length 0 (some 1)) (n :: r)) ++ [s], by rw [List.map_append, List.map_append]; rfl, by simp, ?_⟩
        rw [List.length_append, List.length_append]
        show 1 + _ + 1 ≤ 100
        omega
      · repeat walk_at "v"
        exact ⟨[s], rfl, by simp, by simp⟩
    · refine and_f rfl ?_
      repeat walk_at "v"
      exact ⟨[s], rfl, by simp, by simp⟩
end
abbrev s__law_next : Stmt := topS 37
abbrev N__law_next : List Str := ["state", "many", "digit"]
theorem sc__law_next : FnScope N__law_next ["state", "many"] (defScope s__law_next) := ⟨rfl, rfl, rfl, by decide +kernel, rfl, by decide +kernel, by decide +kernel⟩
section
variable {P : Program} {w : World} {K : PySem.W.Frag} {mg : Str → Option Value} {base : Heap}
abbrev sp__law_next (K : PySem.W.Frag) : Sp := SpA K (Gd K) false (fun m : Int => [.st, .int m]) (fun m => 0 < m ∧ m ≤ 10 ^ 50) (fun m d => ∃ k, d = .int k ∧ 0 ≤ k ∧ k < m) noRs
theorem c__law_next (Dn : Dfn K mg "_law_next" s__law_next ["state", "many"]) (Z : Glb K mg w)  : Cal P w K mg base 1 "_law_next" (sp__law_next K) [] := by
  obtain ⟨f, fd, F, hm, hb⟩ := Dn.ex
  refine ⟨f, fd, ["state", "many"], [], ?_, hm, F.kp, hb, .nil⟩
  refine F.ok sc__law_next (fun vs H Q E h => spA_len (fun _ => rfl) h) (fun cdv A outer s H vs Q E hr h => ?_)
  refine ⟨_, (pss_cons (ps_if (pt_cmpR op_gt (pe_callB call_len_seq (by rfl) Z.b_len PySem.boot_len (pa_cons (pv 0) pa_nil)) pe_int (nomark _))
    (pss_cons (ps_set (i := 2) sc__law_next.nd rfl (.inl rfl) (pe_op op_mod (pe_ix ix_list (pv 0) pe_int (fun _ _ => rfl)) (pv 1)))
      (pss_cons (ps_asg (pe_op op_fdivW (pe_ix ix_list (pv 0) pe_int (fun _ _ => rfl)) (pv 1)) (pg_sub (pv 0) pe_int set_list))
      (pss_cons (ps_if (pt_cmpR op_in_seq (pe_ix ix_list (pv 0) pe_int (fun _ _ => rfl)) (pe_tup (pa_cons pe_int (pa_cons (pe_un un_neg pe_int) pa_nil))) (by rfl))
      (pss_one (ps_expr (pe_bm PySem.F.plainAttrs_list PySem.F.slot_list_pop PySem.F.type_list_pop mt_popAt (pv 0) (pa_cons pe_int pa_nil))))
      pss_nil)
      (pss_one (ps_ret (pv 2))))))
    pss_nil)
    (pss_cons (ps_asg (pe_op op_mod (pe_op op_add (pe_op (op_mul.or op_mulW) (pe_ix ix_list (pv 0) pe_int (fun _ _ => rfl)) pe_int) pe_int) (pe_op op_sub (pe_op op_pow pe_int pe_int) pe_int)) (pg_sub (pv 0) pe_int set_list))
    (pss_one (ps_ret (pe_op op_mod (pe_op op_fdivW (pe_ix ix_list (pv 0) pe_int (fun _ _ => rfl)) pe_int) (pv 1)))))), ?_⟩
  try dsimp only [cxOf, Cx.nox, Cx.wish]
  obtain ⟨R, m, ⟨s, _⟩, ha, ⟨hm, hm2⟩, q, _⟩ := h
  have hlog : m.natAbs.log2 < 9000 := by
    rw [Nat.log2_lt (by omega)]
    exact Nat.lt_of_le_of_lt (show m.natAbs ≤ 10 ^ 50 by omega) (by decide)
  cases ha with
  | cons h1 t =>
  cases t with
  | cons h2 t =>
  cases t
  cases h2
  obtain ⟨a, φ, rfl, hR⟩ := st_at h1
  obtain ⟨ns, hH, hg1, hg2⟩ := s a _ hR
  obtain ⟨x, r, rfl⟩ : ∃ x r, ns = x :: r := by
    cases ns with
    | nil => exact absurd rfl hg1
    | cons x r => exact ⟨x, r, rfl⟩
  have hL : SqL K H a ((x :: r).map V.int) := .inl (.inl hH)
  have at0 : ∀ (y : Int), atI ((y :: r).map V.int) 0 = some (.int y) := fun y => atI_nat (j := 0) rfl
  have ix0 : ∀ (y : Int), ixN ((y :: r).map V.int).length 0 = some 0 := fun y => by simp [ixN]
  have sq0 : seqIndex? 0 ((x / m :: r).map V.int).length = some 0 := by
    rw [seqIndex_of (by decide) (by simp <;> omega)]
    rfl
  have fin : ∀ (k : Int) (H' : Hp), 0 ≤ k → k < m → VL.Step K (Gd K) R H R H' → Q (.int k) H' := fun k H' k0 k1 st => q _ R H' (.int k) st (.int k) (fun z => by cases z) ⟨k, rfl, k0, k1⟩
  refine ⟨.ref a, rfl, a, _, rfl, .inl hL, _, _, rfl, rfl, _, rfl, ite2 (fun hc => ?_) (fun hc => ?_)⟩
  · have hc1 : (1 : Int) < (((x :: r).map V.int).length : Int) := of_decide_eq_true hc
    have hr1 : r ≠ [] := fun z => by
      subst z
      exact absurd hc1 (by show ¬ (1 : Int) < 1; decide)
    have g1 : GoodSt1 (x / m :: r) := ⟨by simp, by simpa using hg2⟩
    have g2 : GoodSt1 r := ⟨hr1, by simp at hg2; omega⟩
    have st1 := step_st s hR g1
    refine ⟨.ref a, rfl, a, _, 0, .int x, rfl, rfl, hL, at0 x, .int m, rfl, _, _, rfl, rfl, hm, ?_⟩
    refine ⟨.ref a, rfl, a, _, 0, .int x, rfl, rfl, hL, at0 x, .int m, rfl, _, _, rfl, rfl, ⟨hm, hlog⟩, .ref a, rfl, a, _, 0, 0, rfl, rfl, hH, ix0 x, ?_⟩
    have hH1 : (upd H a (.lst ((x / m :: r).map V.int))) a = some (.lst ((x / m :: r).map V.int)) := upd_same
    have hL1 : SqL K (upd H a (.lst ((x / m :: r).map V.int))) a ((x / m :: r).map V.int) := .inl (.inl hH1)
    refine ⟨.ref a, rfl, a, _, 0, .int (x / m), rfl, rfl, hL1, at0 _, _, rfl, by show 2 ≤ sizeLine; decide, fun T hT => ?_⟩
    have naT : a ≠ T := ne_of_none hH1 hT
    have st2 := st1.trans (step_new (o := .tup [.int 0, .int (-1)]) st1.sub hT)
    have hH2 : (upd (upd H a (.lst ((x / m :: r).map V.int))) T (.tup [.int 0, .int (-1)])) a = some (.lst ((x / m :: r).map V.int)) := by
      rw [upd_ne naT]
      exact hH1
    refine ⟨T, _, rfl, .inr (.inl (.inl upd_same)), rfl, rfl, _, rfl, ite2 (fun _ => ?_) (fun _ => ?_)⟩
    · refine ⟨.ref a, rfl, .inl ⟨rfl, _, .inl (.inl hH2)⟩, a, _, 0, 0, .int (x / m), rfl, rfl, hH2, by decide, by decide, sq0, rfl, ?_⟩
      refine ⟨_, rfl, fin _ _ (Int.emod_nonneg _ (by omega)) (Int.emod_lt_of_pos _ hm) ?_⟩
      exact st2.trans (step_st st2.sub hR g2)
    · exact ⟨_, rfl, fin _ _ (Int.emod_nonneg _ (by omega)) (Int.emod_lt_of_pos _ hm) st2⟩
  · refine ⟨.ref a, rfl, a, _, 0, .int x, rfl, rfl, hL, at0 x, ?_⟩
    refine .inl ⟨_, _, rfl, rfl, .inr ⟨by decide, by decide⟩, _, _, rfl, rfl, _, _, rfl, rfl, ⟨by decide, by decide, by decide⟩, _, _, rfl, rfl, _, _, rfl, rfl, (by show (0 : Int) < 2 ^ (61 : Int).toNat - 1; decide), .ref a, rfl, a, _, 0, 0, rfl, rfl, hH, ix0 x, ?_⟩
    have g3 : GoodSt1 ((x * 1181783497276652981 + 12345678910987) % (2 ^ (61 : Int).toNat - 1) :: r) := ⟨by simp, by simpa using hg2⟩
    have st3 := step_st s hR g3
    refine ⟨.ref a, rfl, a, _, 0, .int ((x * 1181783497276652981 + 12345678910987) % (2 ^ (61 : Int).toNat - 1)), rfl, rfl, .inl (.inl upd_same), at0 _, _, _, rfl, rfl, ⟨by decide, by decide⟩, .int m, rfl, _, _, rfl, rfl, hm, fin _ _ (Int.emod_nonneg _ (by omega)) (Int.emod_lt_of_pos _ hm) st3⟩
end
abbrev s__law_names : Stmt := topS 40
abbrev N__law_names : List Str := ["state", "many", "letters", "k"]
theorem sc__law_names : FnScope N__law_names ["state", "many"] (defScope s__law_names) := ⟨rfl, rfl, rfl, by decide +kernel, rfl, by decide +kernel, by decide +kernel⟩
section
variable {P : Program} {w : World} {K : PySem.W.Frag} {mg : Str → Option Value} {base : Heap}
abbrev sp__law_names (K : PySem.W.Frag) : Sp := SpA K (Gd K) true (fun m : Int => [.st, .int m]) (fun m => 1 ≤ m ∧ m ≤ 12) (fun m d => ∃ zs : List Str, d = strsD zs ∧ (zs.length : Int) = m ∧ Sfx zs) noRs
theorem c__law_names (Dn : Dfn K mg "_law_names" s__law_names ["state", "many"]) (Z : Glb K mg w) (C__law_next : Cal P w K mg base 1 "_law_next" (sp__law_next K) []) : Cal P w K mg base 2 "_law_names" (sp__law_names K) [] := by
  obtain ⟨f, fd, F, hm, hb⟩ := Dn.ex
  refine ⟨f, fd, ["state", "many"], [], ?_, hm, F.kp, hb, .nil⟩
  refine F.ok sc__law_names (fun vs H Q E h => spA_len (fun _ => rfl) h) (fun cdv A outer s H vs Q E hr h => ?_)
  refine ⟨_, (pss_cons (ps_set (i := 2) sc__law_names.nd rfl (.inr rfl) pe_str)
    (pss_one (ps_ret (pe_lc (own := [("k", 3)]) rfl sc__law_names.nd (pi_range1 (by rfl) Z.b_range (pa_cons (pv 1) pa_nil)) (blkOk_by (N := N__law_names) (sc := defScope s__law_names) (by decide +kernel)) (fun _ _ _ _ _ => (pg_name (i := 3) sc__law_names.nd rfl (.inl rfl))) (fun _ _ _ _ _ => pts_nil) (fun _ _ _ _ _ => (pe_op op_add_str (pe_op op_repS (pe_ix ix_str (pv 2) (pe_c C__law_next hr (by first | decide | omega) (by rfl) (pa_cons (pv 0) (pa_cons pe_int pa_nil))) (fun _ _ => rfl)) (pe_c C__law_next hr (by first | decide | omega) (by rfl) (pa_cons (pv 0) (pa_cons pe_int pa_nil)))) (pe_ix ix_str pe_str (pv 3) (fun _ _ => rfl)))))))), ?_⟩
  try dsimp only [cxOf, Cx.nox, Cx.wish]
  refine run_def (N := N__law_names) (fun _ => Nat.le_of_ble_eq_true rfl) (env0 := fun m : Int => [.p .st, .p (.int m), .u, .u]) (fun _ => rfl) (fun B m hp L => ?_) h
  repeat walk_at "v"
  refine ve_lc (hu1 rfl) (only_name (by decide)) (vi_range1 ?_)
  repeat walk_at "v"
  refine ⟨_, rfl, ⟨by omega, by omega⟩, by rw [rangeD_len]; omega, fun j acc => ∃ zs : List Str, acc = zs.map D.str ∧ zs.length = j ∧ Sfx zs, ⟨[], rfl, rfl, .nil⟩, ?_, ?_⟩
  · rintro q j d acc hj ⟨zs, rfl, hl, hs⟩
    obtain ⟨hj2, rfl⟩ := rangeD_get hj
    have hj12 : j < 12 := by omega
    rw [show (0 : Int) + ((j : Nat) : Int) = ((j : Nat) : Int) by omega]
    obtain ⟨c, hc1, hc2, hc3⟩ := sfx_at hj12
    repeat walk_at "v"
    refine ⟨.set .refl (by decide), ?_⟩
    repeat walk_at "v"
    refine and_t rfl ?_
    repeat walk_at "v"
    walk_at "c"
    repeat walk_at "v"
    refine ⟨_, rfl, ⟨by first | decide | omega, by first | decide | omega⟩, fun _ h => h, ?_⟩
    rintro _ ⟨a, rfl, a0, a1⟩
    repeat walk_at "v"
    refine vo_ixS (by decide) (abc_at a0 (by omega)) ?_
    repeat walk_at "v"
    walk_at "c"
    repeat walk_at "v"
    refine ⟨_, rfl, ⟨by first | decide | omega, by first | decide | omega⟩, fun _ h => h, ?_⟩
    rintro _ ⟨n, rfl, n0, n1⟩
    repeat walk_at "v"
    refine vo_repS (by omega) (by omega) fun y hy => ?_
    have hyl : y.length ≤ 7 := by rw [str_len, hy, List.length_replicate]; omega
    repeat walk_at "v"
    refine vo_ixS (by decide) hc1 ?_
    repeat walk_at "v"
    refine vo_add_str (by show _ + 1 ≤ 100000; omega) ?_
    refine fz_p ⟨_, rfl, zs ++ [_], by rw [List.map_append]; rfl, by rw [List.length_append, hl]; rfl, hs.snoc hy (by omega) (by omega) (by rw [hl]; exact hc2) hc3⟩
  · rintro acc ⟨zs, rfl, hl, hs⟩
    rw [rangeD_len] at hl
    exact ⟨zs, rfl, by omega, hs⟩
end
abbrev s__law_amount : Stmt := topS 39
abbrev N__law_amount : List Str := ["state", "number"]
theorem sc__law_amount : FnScope N__law_amount ["state"] (defScope s__law_amount) := ⟨rfl, rfl, rfl, by decide +kernel, rfl, by decide +kernel, by decide +kernel⟩
section
variable {P : Program} {w : World} {K : PySem.W.Frag} {mg : Str → Option Value} {base : Heap}
abbrev sp__law_amount (K : PySem.W.Frag) : Sp := SpA K (Gd K) false (fun _ : Unit => [.st]) (fun _ => True) (fun _ d => ∃ n, d = .int n ∧ 0 ≤ n ∧ n < 10 ^ 41) noRs
theorem c__law_amount (Dn : Dfn K mg "_law_amount" s__law_amount ["state"]) (Z : Glb K mg w) (C__law_next : Cal P w K mg base 1 "_law_next" (sp__law_next K) []) : Cal P w K mg base 2 "_law_amount" (sp__law_amount K) [] := by
  obtain ⟨f, fd, F, hm, hb⟩ := Dn.ex
  refine ⟨f, fd, ["state"], [], ?_, hm, F.kp, hb, .nil⟩
  refine F.ok sc__law_amount (fun vs H Q E h => spA_len (fun _ => rfl) h) (fun cdv A outer s H vs Q E hr h => ?_)
  refine ⟨_, (pss_cons (ps_set (i := 1) sc__law_amount.nd rfl (.inl rfl) (pe_c C__law_next hr (by first | decide | omega) (by rfl) (pa_cons (pv 0) (pa_cons pe_int pa_nil))))
    (pss_cons (ps_if (pt_cmpR op_eq (pe_c C__law_next hr (by first | decide | omega) (by rfl) (pa_cons (pv 0) (pa_cons pe_int pa_nil))) pe_int (nomark _))
    (pss_one (ps_ret (pe_op op_add (pe_op (op_mul.or op_mulW) (pv 1) (pe_op op_pow pe_int pe_int)) (pe_c C__law_next hr (by first | decide | omega) (by rfl) (pa_cons (pv 0) (pa_cons pe_int pa_nil))))))
    pss_nil)
    (pss_one (ps_ret (pv 1))))), ?_⟩
  try dsimp only [cxOf, Cx.nox, Cx.wish]
  refine run_def (N := N__law_amount) (fun _ => Nat.le_of_ble_eq_true rfl) (env0 := fun _ => [.p .st, .u]) (fun _ => rfl) (fun B _ _ L => ?_) h
  repeat walk_at "v"
  walk_at "c"
  repeat walk_at "v"
  refine ⟨_, rfl, ⟨by first | decide | omega, by first | decide | omega⟩, fun _ h => h, ?_⟩
  rintro _ ⟨n, rfl, n0, n1⟩
  repeat walk_at "v"
  refine vs_if ?_
  repeat walk_at "v"
  walk_at "c"
  repeat walk_at "v"
  refine ⟨_, rfl, ⟨by first | decide | omega, by first | decide | omega⟩, fun _ h => h, ?_⟩
  rintro _ ⟨k, rfl, k0, k1⟩
  repeat walk_at "v"
  have e1 : (10 : Int) ^ (20 : Int).toNat = 10 ^ 20 := rfl
  refine ⟨fun _ => ?_, fun _ => ?_⟩
  · repeat walk_at "v"
    repeat walk_at "v"
    walk_at "c"
    repeat walk_at "v"
    refine ⟨_, rfl, ⟨by first | decide | omega, by first | decide | omega⟩, fun _ h => h, ?_⟩
    rintro _ ⟨m, rfl, m0, m1⟩
    repeat walk_at "v"
    rw [e1]
    exact ⟨rfl, _, rfl, by omega, by omega⟩
  · repeat walk_at "v"
    exact ⟨rfl, n, rfl, n0, by omega⟩
end
abbrev s__law_parts : Stmt := topS 41
abbrev N__law_parts : List Str := ["state", "names", "parts", "name"]
theorem sc__law_parts : FnScope N__law_parts ["state", "names"] (defScope s__law_parts) := ⟨rfl, rfl, rfl, by decide +kernel, rfl, by decide +kernel, by decide +kernel⟩
section
variable {P : Program} {w : World} {K : PySem.W.Frag} {mg : Str → Option Value} {base : Heap}
abbrev sp__law_parts (K : PySem.W.Frag) : Sp := SpA K (Gd K) false (fun zs : List Str => [.st, strsD zs]) (fun zs => zs.length ≤ 12 ∧ zs.Nodup) (fun zs d => ∃ ps : List (Str × Int), d = .tup (ps.map partD) ∧ ps.length ≤ 6 ∧ (ps.map (·.1)).Nodup ∧ (∀ p ∈ ps, p.1 ∈ zs) ∧ ∀ p ∈ ps, 1 ≤ p.2 ∧ p.2 ≤ 4) noRs
theorem c__law_parts (Dn : Dfn K mg "_law_parts" s__law_parts ["state", "names"]) (Z : Glb K mg w) (C__law_next : Cal P w K mg base 1 "_law_next" (sp__law_next K) []) : Cal P w K mg base 2 "_law_parts" (sp__law_parts K) [] := by
  obtain ⟨f, fd, F, hm, hb⟩ := Dn.ex
  refine ⟨f, fd, ["state", "names"], [], ?_, hm, F.kp, hb, .nil⟩
  refine F.ok sc__law_parts (fun vs H Q E h => spA_len (fun _ => rfl) h) (fun cdv A outer s H vs Q E hr h => ?_)
  refine ⟨_, (pss_cons (ps_set (i := 2) sc__law_parts.nd rfl (.inl rfl) (pe_lst pa_nil))
    (pss_cons (ps_for PassesOwn.never rfl (pi_list (pv 1)) (pg_name (i := 3) sc__law_parts.nd rfl (.inl rfl))
    (pss_one (ps_if (pt_cmpR op_eq (pe_c C__law_next hr (by first | decide | omega) (by rfl) (pa_cons (pv 0) (pa_cons pe_int pa_nil))) pe_int (nomark _))
      (pss_one (ps_expr (pe_bm PySem.F.plainAttrs_list PySem.F.slot_list_append PySem.F.type_list_append mt_append (pv 2) (pa_cons (pe_tup (pa_cons (pv 3) (pa_cons (pe_op op_add pe_int (pe_c C__law_next hr (by first | decide | omega) (by rfl) (pa_cons (pv 0) (pa_cons pe_int pa_nil)))) pa_nil))) pa_nil))))
      pss_nil)))
    (pss_cons (ps_if (pt_cmpR op_eq (pe_c C__law_next hr (by first | decide | omega) (by rfl) (pa_cons (pv 0) (pa_cons pe_int pa_nil))) pe_int (nomark _))
    (pss_one (ps_expr (pe_bm0 PySem.F.plainAttrs_list PySem.F.slot_list_reverse PySem.F.type_list_reverse mt_reverse (pv 2))))
    pss_nil)
    (pss_one (ps_ret (pe_callTy call_tuple_of (by rfl) Z.b_tuple (by decide +kernel) (pa_cons (pe_slice sl_list (pv 2) po_none (po_some pe_int)) pa_nil))))))), ?_⟩
  try dsimp only [cxOf, Cx.nox, Cx.wish]
  refine run_def (N := N__law_parts) (fun _ => Nat.le_of_ble_eq_true rfl) (env0 := fun zs : List Str => [.p .st, .p (strsD zs), .u, .u]) (fun _ => rfl) (fun B zs hp L => ?_) h
  obtain ⟨hl, nd⟩ := hp
  repeat walk_at "v"
  refine vs_for (vi_l ?_)
  repeat walk_at "v"
  refine ⟨_, rfl, fun i e => ∃ (ps : List (Str × Int)) (x : Slot), e = [.p .st, .p (strsD zs), .mu (.lst (ps.map partD)), x] ∧ (ps.map (·.1)).Sublist (zs.take i) ∧ ∀ p ∈ ps, 1 ≤ p.2 ∧ p.2 ≤ 4, ⟨[], .u, rfl, List.nil_sublist _, fun p hp => by cases hp⟩, ?_, ?_⟩
  · rintro i d e hi ⟨ps, x, rfl, hs, hb⟩
    obtain ⟨z, hz, rfl⟩ := map_get hi
    have hpl : ps.length ≤ 12 := by
      have := hs.length_le
      rw [List.length_map, List.length_take] at this
      omega
    repeat walk_at "v"
    refine vs_if ?_
    repeat walk_at "v"
    walk_at "c"
    repeat walk_at "v"
    refine ⟨_, rfl, ⟨by first | decide | omega, by first | decide | omega⟩, fun _ h => h, ?_⟩
    rintro _ ⟨k, rfl, k0, k1⟩
    repeat walk_at "v"
    refine ⟨fun _ => ?_, fun _ => ?_⟩
    · repeat walk_at "v"
      walk_at "c"
      repeat walk_at "v"
      refine ⟨_, rfl, ⟨by first | decide | omega, by first | decide | omega⟩, fun _ h => h, ?_⟩
      rintro _ ⟨a, rfl, a0, a1⟩
      repeat walk_at "v"
      refine ⟨_, rfl, by rw [List.length_map]; omega, ?_⟩
      refine ⟨ps ++ [(z, 1 + a)], _, by rw [List.map_append]; rfl, ?_, fun p hp => ?_⟩
      · rw [take_one hz, List.map_append]
        exact List.Sublist.append hs (.refl _)
      · rcases List.mem_append.mp hp with q | q
        · exact hb p q
        · cases List.mem_singleton.mp q
          exact ⟨by show 1 ≤ 1 + a; omega, by show 1 + a ≤ 4; omega⟩
    · repeat walk_at "v"
      refine ⟨ps, _, rfl, ?_, hb⟩
      rw [take_one hz]
      exact hs.trans (List.sublist_append_left _ _)
  · rintro e ⟨ps, x, rfl, hs, hb⟩
    rw [List.length_map, List.take_length] at hs
    have hpl : ps.length ≤ 12 := by
      have := hs.length_le
      rw [List.length_map] at this
      omega
    repeat walk_at "v"
    refine vs_cut (fun e => ∃ (qs : List (Str × Int)), e = [.p .st, .p (strsD zs), .mu (.lst (qs.map partD)), x] ∧ qs.Perm ps) (vs_if ?_) ?_
    · repeat walk_at "v"
      walk_at "c"
      repeat walk_at "v"
      refine ⟨_, rfl, ⟨by first | decide | omega, by first | decide | omega⟩, fun _ h => h, ?_⟩
      rintro _ ⟨k, rfl, k0, k1⟩
      repeat walk_at "v"
      refine ⟨fun _ => ?_, fun _ => ?_⟩
      · repeat walk_at "v"
        exact ⟨ps.reverse, by rw [List.map_reverse]; rfl, List.reverse_perm _⟩
      · repeat walk_at "v"
        exact ⟨ps, rfl, .refl _⟩
    · rintro e ⟨qs, rfl, hq⟩
      repeat walk_at "v"
      rw [cutD_take partD qs (by decide)]
      have sub : (qs.take (6 : Int).toNat).Sublist qs := List.take_sublist _ _
      have nq : (qs.map (·.1)).Nodup := ((hq.map (·.1)).nodup_iff).mpr (hs.nodup nd)
      refine ⟨rfl, qs.take (6 : Int).toNat, rfl, by rw [List.length_take]; show min 6 _ ≤ 6; omega, (sub.map _).nodup nq, fun p hp => hs.subset (List.mem_map_of_mem (f := (·.1)) (hq.mem_iff.mp (sub.subset hp))), fun p hp => hb p (hq.mem_iff.mp (sub.subset hp))⟩
end
abbrev s__law_shop : Stmt := topS 42
abbrev N__law_shop : List Str := ["state", "top", "names", "wares", "k", "name", "lag", "gives", "floor", "stock", "coming", "wants", "shift", "place"]
theorem sc__law_shop : FnScope N__law_shop ["state", "top"] (defScope s__law_shop) := ⟨rfl, rfl, rfl, by decide +kernel, rfl, by decide +kernel, by decide +kernel⟩
section
variable {P : Program} {w : World} {K : PySem.W.Frag} {mg : Str → Option Value} {base : Heap}
abbrev sp__law_shop_na (K : PySem.W.Frag) : Sp := SpA K (Gd K) false (fun m : Int => [.st, .int m]) (fun m => 1 ≤ m ∧ m ≤ 12) (fun m d => ∃ s : Shop, d = shopD s ∧ ShopG s ∧ Acyclic (partsOf s) ∧ (s.ws.length : Int) ≤ m ∧ s.wants.length ≤ 5 ∧ ∀ z ∈ s.names, z ≠ "a") noRs
theorem c__law_shop_na (Dn : Dfn K mg "_law_shop" s__law_shop ["state", "top"]) (Z : Glb K mg w) (C__law_next : Cal P w K mg base 1 "_law_next" (sp__law_next K) []) (C__law_amount : Cal P w K mg base 2 "_law_amount" (sp__law_amount K) []) (C__law_parts : Cal P w K mg base 2 "_law_parts" (sp__law_parts K) []) (C__law_names : Cal P w K mg base 2 "_law_names" (sp__law_names K) []) : Cal P w K mg base 3 "_law_shop" (sp__law_shop_na K) [] := by
  obtain ⟨f, fd, F, hm, hb⟩ := Dn.ex
  refine ⟨f, fd, ["state", "top"], [], ?_, hm, F.kp, hb, .nil⟩
  refine F.ok sc__law_shop (fun vs H Q E h => spA_len (fun _ => rfl) h) (fun cdv A outer s H vs Q E hr h => ?_)
  refine ⟨_, (pss_cons (ps_set (i := 2) sc__law_shop.nd rfl (.inl rfl) (pe_c C__law_names hr (by first | decide | omega) (by rfl) (pa_cons (pv 0) (pa_cons (pe_op op_add pe_int (pe_c C__law_next hr (by first | decide | omega) (by rfl) (pa_cons (pv 0) (pa_cons (pv 1) pa_nil)))) pa_nil))))
    (pss_cons (ps_set (i := 3) sc__law_shop.nd rfl (.inl rfl) (pe_lst pa_nil))
    (pss_cons (ps_for PassesOwn.never rfl (pi_enum (by rfl) Z.b_enumerate (pa_cons (pv 2) pa_nil)) (pg_tup rfl (pgs_cons (pg_name (i := 4) sc__law_shop.nd rfl (.inl rfl)) (pgs_cons (pg_name (i := 5) sc__law_shop.nd rfl (.inl rfl)) pgs_nil)))
    (pss_cons (ps_set (i := 6) sc__law_shop.nd rfl (.inl rfl) (pe_c C__law_next hr (by first | decide | omega) (by rfl) (pa_cons (pv 0) (pa_cons pe_int pa_nil))))
      (pss_cons (ps_set (i := 7) sc__law_shop.nd rfl (.inl rfl) (pe_op op_add pe_int (pe_c C__law_next hr (by first | decide | omega) (by rfl) (pa_cons (pv 0) (pa_cons pe_int pa_nil)))))
      (pss_cons (ps_set (i := 8) sc__law_shop.nd rfl (.inl rfl) (pe_ix ix_list (pe_lst (pa_cons pe_int (pa_cons pe_int (pa_cons (pe_c C__law_next hr (by first | decide | omega) (by rfl) (pa_cons (pv 0) (pa_cons pe_int pa_nil))) pa_nil)))) (pe_c C__law_next hr (by first | decide | omega) (by rfl) (pa_cons (pv 0) (pa_cons pe_int pa_nil))) (fun _ _ => rfl)))
      (pss_cons (ps_set (i := 9) sc__law_shop.nd rfl (.inl rfl) (pe_ix ix_list (pe_lst (pa_cons (pv 8) (pa_cons (pe_op op_add (pv 8) (pe_c C__law_amount hr (by first | decide | omega) (by rfl) (pa_cons (pv 0) pa_nil))) (pa_cons (pe_c C__law_amount hr (by first | decide | omega) (by rfl) (pa_cons (pv 0) pa_nil)) pa_nil)))) (pe_c C__law_next hr (by first | decide | omega) (by rfl) (pa_cons (pv 0) (pa_cons pe_int pa_nil))) (fun _ _ => rfl)))
      (pss_cons (ps_set (i := 10) sc__law_shop.nd rfl (.inl rfl) (pe_callTy call_tuple_of (by rfl) Z.b_tuple (by decide +kernel) (pa_cons (pe_lc (own := [("place", 13)]) rfl sc__law_shop.nd (pi_range1 (by rfl) Z.b_range (pa_cons (pe_c C__law_next hr (by first | decide | omega) (by rfl) (pa_cons (pv 0) (pa_cons pe_int pa_nil))) pa_nil)) (blkOk_by (N := N__law_shop) (sc := defScope s__law_shop) (by decide +kernel)) (fun _ _ _ _ _ => (pg_name (i := 13) sc__law_shop.nd rfl (.inl rfl))) (fun _ _ _ _ _ => pts_nil) (fun _ _ _ _ _ => (pe_tup (pa_cons (pe_c C__law_next hr (by first | decide | omega) (by rfl) (pa_cons (pv 0) (pa_cons pe_int pa_nil))) (pa_cons (pe_c C__law_amount hr (by first | decide | omega) (by rfl) (pa_cons (pv 0) pa_nil)) pa_nil))))) pa_nil)))
      (pss_one (ps_expr (pe_bm PySem.F.plainAttrs_list PySem.F.slot_list_append PySem.F.type_list_append mt_append (pv 3) (pa_cons (pe_tup (pa_cons (pv 5) (pa_cons (pv 6) (pa_cons (pv 7) (pa_cons (pv 8) (pa_cons (pv 9) (pa_cons (pv 10) (pa_cons (pe_c C__law_parts hr (by first | decide | omega) (by rfl) (pa_cons (pv 0) (pa_cons (pe_slice sl_list (pv 2) (po_some (pe_op op_add (pv 4) pe_int)) po_none) pa_nil))) pa_nil)))))))) pa_nil))))))))))
    (pss_cons (ps_set (i := 11) sc__law_shop.nd rfl (.inl rfl) (pe_lst pa_nil))
    (pss_cons (ps_for PassesOwn.never rfl (pi_range1 (by rfl) Z.b_range (pa_cons (pe_c C__law_next hr (by first | decide | omega) (by rfl) (pa_cons (pv 0) (pa_cons pe_int pa_nil))) pa_nil)) (pg_name (i := 4) sc__law_shop.nd rfl (.inl rfl))
    (pss_one (ps_expr (pe_bm PySem.F.plainAttrs_list PySem.F.slot_list_append PySem.F.type_list_append mt_append (pv 11) (pa_cons (pe_tup (pa_cons (pe_ix ix_list (pv 2) (pe_c C__law_next hr (by first | decide | omega) (by rfl) (pa_cons (pv 0) (pa_cons (pe_callB call_len_seq (by rfl) Z.b_len PySem.boot_len (pa_cons (pv 2) pa_nil)) pa_nil))) (fun _ _ => rfl)) (pa_cons (pe_c C__law_next hr (by first | decide | omega) (by rfl) (pa_cons (pv 0) (pa_cons pe_int pa_nil))) (pa_cons (pe_c C__law_amount hr (by first | decide | omega) (by rfl) (pa_cons (pv 0) pa_nil)) pa_nil)))) pa_nil)))))
    (pss_cons (ps_set (i := 12) sc__law_shop.nd rfl (.inl rfl) (pe_c C__law_next hr (by first | decide | omega) (by rfl) (pa_cons (pv 0) (pa_cons (pe_callB call_len_seq (by rfl) Z.b_len PySem.boot_len (pa_cons (pv 2) pa_nil)) pa_nil))))
    (pss_one (ps_ret (pe_tup (pa_cons (pe_callTy call_tuple_of (by rfl) Z.b_tuple (by decide +kernel) (pa_cons (pe_op op_cat (pe_slice sl_list (pv 3) (po_some (pv 12)) po_none) (pe_slice sl_list (pv 3) po_none (po_some (pv 12)))) pa_nil)) (pa_cons (pe_callTy call_tuple_of (by rfl) Z.b_tuple (by decide +kernel) (pa_cons (pv 11) pa_nil)) pa_nil))))))))))), ?_⟩
  try dsimp only [cxOf, Cx.nox, Cx.wish]
  refine run_def (N := N__law_shop) (fun _ => Nat.le_of_ble_eq_true rfl) (env0 := fun m : Int => [.p .st, .p (.int m), .u, .u, .u, .u, .u, .u, .u, .u, .u, .u, .u, .u]) (fun _ => rfl) (fun B m hp L => ?_) h
  refine vs_seq ?_
  refine vs_asg ?_
  walk_at "c"
  repeat walk_at "v"
  walk_at "c"
  repeat walk_at "v"
  refine ⟨_, rfl, ⟨by first | decide | omega, by first | decide | omega⟩, fun _ h => h, ?_⟩
  rintro _ ⟨n, rfl, n0, n1⟩
  repeat walk_at "v"
  refine ⟨_, rfl, ⟨by omega, by omega⟩, fun _ h => h, ?_⟩
  rintro _ ⟨zs, rfl, hzl, hs⟩
  have hnd := hs.nodup (by omega)
  repeat walk_at "v"
  refine vs_for (vi_enum ?_)
  repeat walk_at "v"
  refine ⟨_, _, rfl, rfl, fun i e => ∃ (ws : List Ware) (x4 x5 x6 x7 x8 x9 x10 : Slot), e = [.p .st, .p (.int m), .p (strsD zs), .mu (.lst (ws.map wareD)), x4, x5, x6, x7, x8, x9, x10, .u, .u, .u] ∧ Chained zs ws i, ⟨[], .u, .u, .u, .u, .u, .u, .u, rfl, .nil⟩, ?_, ?_⟩
  · rintro i d e hi ⟨ws, x4, x5, x6, x7, x8, x9, x10, rfl, hc⟩
    obtain ⟨d, hd, rfl⟩ := enumD_get hi
    obtain ⟨z, hz, rfl⟩ := map_get hd
    have hiz := lt_of_get hz
    have hzok := hs.ok z (List.mem_of_getElem? hz)
    repeat walk_at "v"
    walk_at "c"
    repeat walk_at "v"
    refine ⟨_, rfl, ⟨by first | decide | omega, by first | decide | omega⟩, fun _ h => h, ?_⟩
    rintro _ ⟨lag, rfl, lag0, lag1⟩
    repeat walk_at "v"
    walk_at "c"
    repeat walk_at "v"
    refine ⟨_, rfl, ⟨by first | decide | omega, by first | decide | omega⟩, fun _ h => h, ?_⟩
    rintro _ ⟨g, rfl, g0, g1⟩
    repeat walk_at "v"
    walk_at "c"
    repeat walk_at "v"
    refine ⟨_, rfl, ⟨by first | decide | omega, by first | decide | omega⟩, fun _ h => h, ?_⟩
    rintro _ ⟨f, rfl, f0, f1⟩
    repeat walk_at "v"
    walk_at "c"
    repeat walk_at "v"
    refine ⟨_, rfl, ⟨by first | decide | omega, by first | decide | omega⟩, fun _ h => h, ?_⟩
    rintro _ ⟨q, rfl, q0, q1⟩
    repeat walk_at "v"
    obtain ⟨fl, hfl, hfl2⟩ := pickL (P := fun v => 0 ≤ v ∧ v ≤ 6) (l := [0, 0, f]) (k := q) q0 (by show q < (3 : Int); omega) (by
      intro x hx
      simp only [List.mem_cons, List.not_mem_nil, or_false] at hx
      omega)
    refine vo_ixL rfl hfl ?_
    repeat walk_at "v"
    walk_at "c"
    repeat walk_at "v"
    refine ⟨(), rfl, trivial, fun _ h => h, ?_⟩
    rintro _ ⟨a1, rfl, a10, a11⟩
    repeat walk_at "v"
    walk_at "c"
    repeat walk_at "v"
    refine ⟨(), rfl, trivial, fun _ h => h, ?_⟩
    rintro _ ⟨a2, rfl, a20, a21⟩
    repeat walk_at "v"
    walk_at "c"
    repeat walk_at "v"
    refine ⟨_, rfl, ⟨by first | decide | omega, by first | decide | omega⟩, fun _ h => h, ?_⟩
    rintro _ ⟨q', rfl, q0', q1'⟩
    repeat walk_at "v"
    obtain ⟨st, hst, hst2⟩ := pickL (P := fun v => 0 ≤ v ∧ v < 10 ^ 42) (l := [fl, fl + a1, a2]) (k := q') q0' (by show q' < (3 : Int); omega) (by
      intro x hx
      simp only [List.mem_cons, List.not_mem_nil, or_false] at hx
      omega)
    refine vo_ixL rfl hst ?_
    repeat walk_at "v"
    refine ve_lc (hu1 rfl) (only_name (by decide)) (vi_range1 ?_)
    repeat walk_at "v"
    walk_at "c"
    repeat walk_at "v"
    refine ⟨_, rfl, ⟨by first | decide | omega, by first | decide | omega⟩, fun _ h => h, ?_⟩
    rintro _ ⟨c, rfl, c0, c1⟩
    repeat walk_at "v"
    refine ⟨_, rfl, ⟨by omega, by omega⟩, by rw [rangeD_len]; omega, fun j acc => ∃ ps : List (Int × Int), acc = ps.map pairD ∧ ps.length = j ∧ ∀ p ∈ ps, (0 ≤ p.1 ∧ p.1 ≤ 400) ∧ Amt p.2, ⟨[], rfl, rfl, fun p hp => by cases hp⟩, ?_, ?_⟩
    · rintro q j d acc hj ⟨ps, rfl, hl, hok⟩
      repeat walk_at "v"
      refine ⟨.set .refl (by decide), ?_⟩
      repeat walk_at "v"
      refine and_t rfl ?_
      repeat walk_at "v"
      walk_at "c"
      repeat walk_at "v"
      refine ⟨_, rfl, ⟨by first | decide | omega, by first | decide | omega⟩, fun _ h => h, ?_⟩
      rintro _ ⟨r, rfl, r0, r1⟩
      repeat walk_at "v"
      walk_at "c"
      repeat walk_at "v"
      refine ⟨(), rfl, trivial, fun _ h => h, ?_⟩
      rintro _ ⟨u, rfl, u0, u1⟩
      repeat walk_at "v"
      refine ⟨_, rfl, ps ++ [(r, u)], by rw [List.map_append]; rfl, by rw [List.length_append, hl]; rfl, fun p hp => ?_⟩
      rcases List.mem_append.mp hp with q | q
      · exact hok p q
      · cases List.mem_singleton.mp q
        exact ⟨⟨r0, by show r ≤ 400; omega⟩, u0, by show u < 10 ^ 42; omega⟩
    rintro acc ⟨cs, rfl, hcl, hcok⟩
    rw [rangeD_len] at hcl
    repeat walk_at "v"
    walk_at "c"
    repeat walk_at "v"
    rw [cutD_drop D.str zs (by omega), show ((i : Int) + 1).toNat = i + 1 by omega]
    refine ⟨zs.drop (i + 1), rfl, ⟨by rw [List.length_drop]; omega, (List.drop_sublist _ _).nodup hnd⟩, fun _ h => h, ?_⟩
    rintro _ ⟨ps, rfl, hpl, hpn, hpm, hpb⟩
    repeat walk_at "v"
    refine ⟨_, rfl, by rw [List.length_map, hc.len]; omega, ?_⟩
    have hw : WareG ⟨z, lag, 1 + g, fl, st, cs, ps⟩ := ⟨hzok, ⟨lag0, by show lag ≤ 30; omega⟩, ⟨by show 1 ≤ 1 + g; omega, by show 1 + g < 10 ^ 42; omega⟩, ⟨hfl2.1, by show fl < 10 ^ 42; omega⟩, hst2, by show cs.length ≤ 12; omega, hcok, hpl, hpn, fun p hp => ⟨(hpb p hp).1, by have := (hpb p hp).2; omega⟩⟩
    exact ⟨ws ++ [⟨z, lag, 1 + g, fl, st, cs, ps⟩], _, _, _, _, _, _, _, by rw [List.map_append]; rfl, hc.snoc hz hw rfl hpm⟩
  · rintro e ⟨ws, x4, x5, x6, x7, x8, x9, x10, rfl, hc⟩
    rw [enumD_len, List.length_map] at hc
    have hwl := hc.len
    refine vs_forget 4 ?_
    repeat walk_at "v"
    refine vs_for (vi_range1 ?_)
    repeat walk_at "v"
    walk_at "c"
    repeat walk_at "v"
    refine ⟨_, rfl, ⟨by first | decide | omega, by first | decide | omega⟩, fun _ h => h, ?_⟩
    rintro _ ⟨c, rfl, c0, c1⟩
    repeat walk_at "v"
    refine ⟨_, rfl, ⟨by omega, by omega⟩, fun i e => ∃ (vs : List Want) (x4 : Slot), e = [.p .st, .p (.int m), .p (strsD zs), .mu (.lst (ws.map wareD)), x4, x5, x6, x7, x8, x9, x10, .mu (.lst (vs.map wantD)), .u, .u] ∧ vs.length = i ∧ WantsG zs vs 20 400, ⟨[], .u, rfl, rfl, ⟨Nat.zero_le _, fun v hv => by cases hv⟩⟩, ?_, ?_⟩
    · rintro i d e hi ⟨vs, x4, rfl, hvl, hv⟩
      obtain ⟨hi2, rfl⟩ := rangeD_get hi
      repeat walk_at "v"
      walk_at "c"
      repeat walk_at "v"
      refine ⟨_, rfl, ⟨by rw [List.length_map]; omega, by rw [List.length_map]; omega⟩, fun _ h => h, ?_⟩
      rintro _ ⟨k, rfl, k0, k1⟩
      rw [List.length_map] at k1
      obtain ⟨j, y, rfl, hy, haty⟩ := atI_lt D.str (l := zs) k0 k1
      refine vo_ixL rfl haty ?_
      repeat walk_at "v"
      walk_at "c"
      repeat walk_at "v"
      refine ⟨_, rfl, ⟨by first | decide | omega, by first | decide | omega⟩, fun _ h => h, ?_⟩
      rintro _ ⟨dd, rfl, dd0, dd1⟩
      repeat walk_at "v"
      walk_at "c"
      repeat walk_at "v"
      refine ⟨(), rfl, trivial, fun _ h => h, ?_⟩
      rintro _ ⟨u, rfl, u0, u1⟩
      repeat walk_at "v"
      refine ⟨_, rfl, by rw [List.length_map]; omega, ?_⟩
      refine ⟨vs ++ [(y, dd, u)], _, by rw [List.map_append]; rfl, by rw [List.length_append, hvl]; rfl, ⟨by rw [List.length_append, hvl]; show i + 1 ≤ 20; omega, fun v hvm => ?_⟩⟩
      rcases List.mem_append.mp hvm with q | q
      · exact hv.ok v q
      · cases List.mem_singleton.mp q
        exact ⟨List.mem_of_getElem? hy, ⟨dd0, by show dd ≤ 400; omega⟩, u0, by show u < 10 ^ 42; omega⟩
    · rintro e ⟨vs, x4, rfl, hvl, hv⟩
      rw [rangeD_len] at hvl
      repeat walk_at "v"
      walk_at "c"
      repeat walk_at "v"
      refine ⟨_, rfl, ⟨by rw [List.length_map]; omega, by rw [List.length_map]; omega⟩, fun _ h => h, ?_⟩
      rintro _ ⟨k, rfl, k0, k1⟩
      repeat walk_at "v"
      rw [cutD_drop wareD ws (by omega), cutD_take wareD ws (by omega)]
      refine vo_catE (fs := (ws.drop k.toNat ++ ws.take k.toNat).map wareD) rfl rfl (by rw [List.map_append]) (by rw [List.length_map, List.length_append, List.length_drop, List.length_take]; omega) ?_
      repeat walk_at "v"
      obtain ⟨g1, g2⟩ := hc.shop hnd (turnAt_perm k.toNat ws) (by omega) (by omega) hv
      refine ⟨rfl, ⟨turnAt k.toNat ws, vs⟩, rfl, g1, g2, ?_, ?_, fun z hz => ?_⟩
      · show ((turnAt k.toNat ws).length : Int) ≤ m
        rw [(turnAt_perm k.toNat ws).length_eq]
        omega
      · show vs.length ≤ 5
        omega
      · obtain ⟨w, hw, rfl⟩ := List.mem_map.mp hz
        have hw2 : w ∈ ws := (turnAt_perm k.toNat ws).mem_iff.mp hw
        have hm : w.nm ∈ ws.map (·.nm) := List.mem_map_of_mem (f := fun w : Ware => w.nm) hw2
        rw [hc.nm] at hm
        exact sfx_a hs _ (List.mem_of_mem_take hm)
end
abbrev s__law_any_shop : Stmt := topS 43
abbrev N__law_any_shop : List Str := ["state", "shop", "wares", "spot", "ware", "other", "parts", "part"]
theorem sc__law_any_shop : FnScope N__law_any_shop ["state"] (defScope s__law_any_shop) := ⟨rfl, rfl, rfl, by decide +kernel, rfl, by decide +kernel, by decide +kernel⟩
section
variable {P : Program} {w : World} {K : PySem.W.Frag} {mg : Str → Option Value} {base : Heap}
abbrev sp__law_any_shop_na (K : PySem.W.Frag) : Sp := SpA K (Gd K) false (fun _ : Unit => [.st]) (fun _ => True) (fun _ d => ∃ s : Shop, d = shopD s ∧ ShopG s ∧ ∀ z ∈ s.names, z ≠ "a") noRs
theorem c__law_any_shop_na (Dn : Dfn K mg "_law_any_shop" s__law_any_shop ["state"]) (Z : Glb K mg w) (C__law_next : Cal P w K mg base 1 "_law_next" (sp__law_next K) []) (C__law_shop_na : Cal P w K mg base 3 "_law_shop" (sp__law_shop_na K) []) : Cal P w K mg base 4 "_law_any_shop" (sp__law_any_shop_na K) [] := by
  obtain ⟨f, fd, F, hm, hb⟩ := Dn.ex
  refine ⟨f, fd, ["state"], [], ?_, hm, F.kp, hb, .nil⟩
  refine F.ok sc__law_any_shop (fun vs H Q E h => spA_len (fun _ => rfl) h) (fun cdv A outer s H vs Q E hr h => ?_)
  refine ⟨_, (pss_cons (ps_set (i := 1) sc__law_any_shop.nd rfl (.inl rfl) (pe_c C__law_shop_na hr (by first | decide | omega) (by rfl) (pa_cons (pv 0) (pa_cons (pe_ix ix_list (pe_lst (pa_cons pe_int (pa_cons pe_int pa_nil))) (pe_callTy call_int1 (by rfl) Z.b_int (by decide +kernel) (pa_cons (pe_cmpR op_eq (pe_c C__law_next hr (by first | decide | omega) (by rfl) (pa_cons (pv 0) (pa_cons pe_int pa_nil))) pe_int (nomark _)) pa_nil)) (fun _ _ => rfl)) pa_nil))))
    (pss_cons (ps_if (pt_cmpR op_gt (pe_c C__law_next hr (by first | decide | omega) (by rfl) (pa_cons (pv 0) (pa_cons pe_int pa_nil))) pe_int (nomark _))
    (pss_one (ps_ret (pv 1)))
    pss_nil)
    (pss_cons (ps_set (i := 2) sc__law_any_shop.nd rfl (.inl rfl) (pe_callTy call_list_of (by rfl) Z.b_list (by decide +kernel) (pa_cons (pe_ix ix_tup (pv 1) pe_int (fun _ _ => rfl)) pa_nil)))
    (pss_cons (ps_set (i := 3) sc__law_any_shop.nd rfl (.inl rfl) (pe_c C__law_next hr (by first | decide | omega) (by rfl) (pa_cons (pv 0) (pa_cons (pe_callB call_len_seq (by rfl) Z.b_len PySem.boot_len (pa_cons (pv 2) pa_nil)) pa_nil))))
    (pss_cons (ps_set (i := 4) sc__law_any_shop.nd rfl (.inl rfl) (pe_ix ix_list (pv 2) (pv 3) (fun _ _ => rfl)))
    (pss_cons (ps_set (i := 5) sc__law_any_shop.nd rfl (.inr rfl) (pe_ix ix_tup (pe_ix ix_list (pv 2) (pe_c C__law_next hr (by first | decide | omega) (by rfl) (pa_cons (pv 0) (pa_cons (pe_callB call_len_seq (by rfl) Z.b_len PySem.boot_len (pa_cons (pv 2) pa_nil)) pa_nil))) (fun _ _ => rfl)) pe_int (fun _ _ => rfl)))
    (pss_cons (ps_set (i := 6) sc__law_any_shop.nd rfl (.inl rfl) (pe_op op_catA (pe_callTy call_tuple_of (by rfl) Z.b_tuple (by decide +kernel) (pa_cons (pe_slice sl_list (pe_lc (own := [("part", 7)]) rfl sc__law_any_shop.nd (pi_tup (pe_ix ix_tup (pv 4) pe_int (fun _ _ => rfl))) (blkOk_by (N := N__law_any_shop) (sc := defScope s__law_any_shop) (by decide +kernel)) (fun _ _ _ _ _ => (pg_name (i := 7) sc__law_any_shop.nd rfl (.inl rfl))) (fun _ _ _ _ _ => (pts_one (pt_cmpR op_ne (pe_ix (show IxR _ (rIxT K) from ix_tup) (pv 7) pe_int (fun _ _ => rfl)) (pv 5) (nomark _)))) (fun _ _ _ _ _ => (pv 7))) po_none (po_some pe_int)) pa_nil)) (pe_tup (pa_cons (pe_tup (pa_cons (pv 5) (pa_cons (pe_op op_add pe_int (pe_c C__law_next hr (by first | decide | omega) (by rfl) (pa_cons (pv 0) (pa_cons pe_int pa_nil)))) pa_nil))) pa_nil))))
    (pss_cons (ps_asg (pe_op op_catA (pe_op op_catA (pe_tup (pa_cons (pe_ix ix_tup (pv 4) pe_int (fun _ _ => rfl)) (pa_cons (pe_c C__law_next hr (by first | decide | omega) (by rfl) (pa_cons (pv 0) (pa_cons pe_int pa_nil))) pa_nil))) (pe_slice sl_tupA (pv 4) (po_some pe_int) (po_some pe_int))) (pe_tup (pa_cons (pv 6) pa_nil))) (pg_sub (pv 2) (pv 3) set_list))
    (pss_one (ps_ret (pe_tup (pa_cons (pe_callTy call_tuple_of (by rfl) Z.b_tuple (by decide +kernel) (pa_cons (pv 2) pa_nil)) (pa_cons (pe_ix ix_tup (pv 1) pe_int (fun _ _ => rfl)) pa_nil))))))))))))), ?_⟩
  try dsimp only [cxOf, Cx.nox, Cx.wish]
  refine run_def (N := N__law_any_shop) (fun _ => Nat.le_of_ble_eq_true rfl) (env0 := fun _ : Unit => [.p .st, .u, .u, .u, .u, .u, .u, .u]) (fun _ => rfl) (fun B _ hp L => ?_) h
  refine vs_seq ?_
  refine vs_asg ?_
  walk_at "c"
  repeat walk_at "v"
  walk_at "c"
  repeat walk_at "v"
  refine ⟨_, rfl, ⟨by first | decide | omega, by first | decide | omega⟩, fun _ h => h, ?_⟩
  rintro _ ⟨a, rfl, a0, a1⟩
  repeat walk_at "v"
  obtain ⟨m, hm, hm2⟩ := pickB (P := fun v => 1 ≤ v ∧ v ≤ 12) (a := 5) (b := 12) (decide (a = 0)) (by omega) (by omega)
  refine vo_ixL rfl hm ?_
  repeat walk_at "v"
  refine ⟨m, rfl, hm2, fun _ h => h, ?_⟩
  rintro _ ⟨s, rfl, hg, hac, hlm, hwl, hna⟩
  have h12 := hg.hi
  have h1 := hg.lo
  repeat walk_at "v"
  refine vs_if ?_
  repeat walk_at "v"
  walk_at "c"
  repeat walk_at "v"
  refine ⟨_, rfl, ⟨by first | decide | omega, by first | decide | omega⟩, fun _ h => h, ?_⟩
  rintro _ ⟨b, rfl, b0, b1⟩
  repeat walk_at "v"
  refine ⟨fun _ => ?_, fun _ => ?_⟩
  · repeat walk_at "v"
    exact ⟨rfl, s, rfl, hg, hna⟩
  · repeat walk_at "v"
    refine vo_ixT (d := .tup (s.ws.map wareD)) (atI_nat (j := 0) rfl) ?_
    repeat walk_at "v"
    walk_at "c"
    repeat walk_at "v"
    refine ⟨_, rfl, ⟨by rw [List.length_map]; omega, by rw [List.length_map]; omega⟩, fun _ h => h, ?_⟩
    rintro _ ⟨k, rfl, k0, k1⟩
    rw [List.length_map] at k1
    obtain ⟨j, w, rfl, hw, hatw⟩ := atI_lt wareD (l := s.ws) k0 k1
    have hjl := lt_of_get hw
    have hwm := List.mem_of_getElem? hw
    have hwg := hg.ws w hwm
    have hpl := hwg.pl
    repeat walk_at "v"
    refine vo_ixL rfl hatw ?_
    repeat walk_at "v"
    walk_at "c"
    repeat walk_at "v"
    refine ⟨_, rfl, ⟨by rw [List.length_map]; omega, by rw [List.length_map]; omega⟩, fun _ h => h, ?_⟩
    rintro _ ⟨k', rfl, k0', k1'⟩
    rw [List.length_map] at k1'
    obtain ⟨j', u, rfl, hu, hatu⟩ := atI_lt wareD (l := s.ws) k0' k1'
    have hum := List.mem_of_getElem? hu
    refine vo_ixL rfl hatu ?_
    repeat walk_at "v"
    refine vo_ixT (d := .str u.nm) (atI_nat (j := 0) rfl) ?_
    repeat walk_at "v"
    refine ve_lcT (xs := w.parts) (g := partD) (h := partD) (fun p => if p.1 ≠ u.nm then some p else none) (hu1 rfl) (only_name (by decide)) (vi_tup ?_)
    repeat walk_at "v"
    refine vo_ixT (d := .tup (w.parts.map partD)) (atI_nat (j := 6) rfl) ?_
    refine ⟨_, rfl, rfl, by omega, fun q i p hpi => ?_, ?_⟩
    · repeat walk_at "v"
      refine ⟨.set .refl (by decide), ?_⟩
      repeat walk_at "v"
      refine vo_ixT (d := .str p.1) (atI_nat (j := 0) rfl) ?_
      repeat walk_at "v"
      by_cases e : p.1 = u.nm
      · exact and_f (by rw [decide_eq_true e]; rfl) (if_neg fun z => z e)
      · refine and_t (by rw [decide_eq_false e]; rfl) ?_
        repeat walk_at "v"
        exact ⟨p, rfl, if_pos e⟩
    obtain ⟨qs, hqs⟩ : ∃ qs, qs = (w.parts.filterMap fun p => if p.1 ≠ u.nm then some p else none).take (5 : Int).toNat := ⟨_, rfl⟩
    have hqm : ∀ p ∈ qs, p ∈ w.parts ∧ p.1 ≠ u.nm := fun p hp => by
      rw [hqs] at hp
      obtain ⟨x, hx, e⟩ := List.mem_filterMap.mp (List.mem_of_mem_take hp)
      split at e
      · cases e
        exact ⟨hx, by assumption⟩
      · cases e
    have hql : qs.length ≤ 5 := by
      rw [hqs, List.length_take]
      show min 5 _ ≤ 5
      omega
    have hqn : (qs.map (·.1)).Nodup := by
      have sub : qs.Sublist w.parts := by
        rw [hqs]
        refine (List.take_sublist _ _).trans ?_
        rw [show (w.parts.filterMap fun p => if p.1 ≠ u.nm then some p else none) = w.parts.filter fun p => decide (p.1 ≠ u.nm) from by
          rw [← List.filterMap_eq_filter]
          refine congrArg (fun f => List.filterMap f w.parts) (funext fun p => ?_)
          by_cases e : p.1 = u.nm
          · simp [Option.guard, e]
          · simp [Option.guard, e]]
        exact List.filter_sublist
      exact (sub.map _).nodup hwg.pn
    repeat walk_at "v"
    rw [cutD_take partD _ (by decide), ← hqs]
    repeat walk_at "v"
    walk_at "c"
    repeat walk_at "v"
    refine ⟨_, rfl, ⟨by first | decide | omega, by first | decide | omega⟩, fun _ h => h, ?_⟩
    rintro _ ⟨c, rfl, c0, c1⟩
    repeat walk_at "v"
    refine vo_catA (by rw [List.length_map]; show _ + 1 ≤ 100000; omega) ?_
    repeat walk_at "v"
    refine vo_ixT (d := .str w.nm) (atI_nat (j := 0) rfl) ?_
    repeat walk_at "v"
    walk_at "c"
    repeat walk_at "v"
    refine ⟨_, rfl, ⟨by first | decide | omega, by first | decide | omega⟩, fun _ h => h, ?_⟩
    rintro _ ⟨g, rfl, g0, g1⟩
    repeat walk_at "v"
    refine vsl_tup (ds := [.str w.nm, .int w.lag, .int w.gives, .int w.floor, .int w.stock, .tup (w.com.map pairD), .tup (w.parts.map partD)]) ?_
    repeat walk_at "v"
    refine vo_catA (by show 2 + 4 ≤ 100000; decide) ?_
    repeat walk_at "v"
    refine vo_catA (by show 6 + 1 ≤ 100000; decide) ?_
    refine vg_subL rfl ?_
    repeat walk_at "v"
    refine ⟨_, j, rfl, by rw [List.length_map]; exact ixN_nat hjl, ?_⟩
    obtain ⟨ps, hps⟩ : ∃ ps, ps = qs ++ [(u.nm, 1 + c)] := ⟨_, rfl⟩
    obtain ⟨w2, hw2⟩ : ∃ w2 : Ware, w2 = ⟨w.nm, g, w.gives, w.floor, w.stock, w.com, ps⟩ := ⟨_, rfl⟩
    have ew : D.tup ([D.str w.nm, .int g] ++ cutD [.str w.nm, .int w.lag, .int w.gives, .int w.floor, .int w.stock, .tup (w.com.map pairD), .tup (w.parts.map partD)] (some 2) (some 6) ++ [.tup (qs.map partD ++ [.tup [.str u.nm, .int (1 + c)]])]) = wareD w2 := by
      rw [hw2, hps]
      show _ = D.tup [_, _, _, _, _, _, .tup (List.map partD _)]
      rw [List.map_append]
      rfl
    rw [ew]
    have hset : (s.ws.map wareD).set j (wareD w2) = (s.ws.set j w2).map wareD := by rw [List.map_set]
    rw [hset]
    have hpn : (ps.map (·.1)).Nodup := by
      rw [hps, List.map_append]
      refine List.nodup_append.mpr ⟨hqn, by simp, fun a ha b hb => ?_⟩
      obtain ⟨p, hp, rfl⟩ := List.mem_map.mp ha
      cases List.mem_singleton.mp hb
      exact (hqm p hp).2
    have hg2 : WareG w2 := by
      rw [hw2]
      refine ⟨hwg.nm, ⟨g0, by show g ≤ 30; omega⟩, hwg.gives, hwg.floor, hwg.stock, hwg.cl, hwg.com, by show ps.length ≤ 6; rw [hps, List.length_append]; show _ + 1 ≤ 6; omega, hpn, fun p hp => ?_⟩
      have hp : p ∈ ps := hp
      rw [hps] at hp
      rcases List.mem_append.mp hp with q | q
      · exact hwg.parts p (hqm p q).1
      · cases List.mem_singleton.mp q
        exact ⟨by show 1 ≤ 1 + c; omega, by show 1 + c < 10 ^ 42; omega⟩
    have hnm : (Shop.mk (s.ws.set j w2) s.wants).names = s.names := by
      show (s.ws.set j w2).map (·.nm) = s.ws.map (·.nm)
      rw [List.map_set]
      refine List.ext_getElem? fun k => ?_
      by_cases q : j = k
      · subst q
        rw [List.getElem?_set_self (by rw [List.length_map]; exact hjl), List.getElem?_map, hw, hw2]
        rfl
      · rw [List.getElem?_set_ne q]
    repeat walk_at "v"
    refine vo_ixT (d := .tup (s.wants.map wantD)) (atI_nat (j := 1) rfl) ?_
    repeat walk_at "v"
    refine ⟨rfl, ⟨s.ws.set j w2, s.wants⟩, rfl, ⟨by show 1 ≤ (s.ws.set j w2).length; rw [List.length_set]; exact h1, by show (s.ws.set j w2).length ≤ 12; rw [List.length_set]; exact h12, by rw [hnm]; exact hg.nd, fun v hv => ?_, fun v hv p hp => ?_, by rw [hnm]; exact hg.wants⟩, by rw [hnm]; exact hna⟩
    · rcases List.mem_or_eq_of_mem_set hv with q | rfl
      · exact hg.ws v q
      · exact hg2
    · rw [hnm]
      rcases List.mem_or_eq_of_mem_set hv with q | rfl
      · exact hg.sub v q p hp
      · rw [hw2] at hp
        have hp : p ∈ ps := hp
        rw [hps] at hp
        rcases List.mem_append.mp hp with q | q
        · exact hg.sub w hwm p (hqm p q).1
        · cases List.mem_singleton.mp q
          exact List.mem_map_of_mem (f := fun w : Ware => w.nm) hum
end
abbrev s__law_rows : Stmt := topS 44
abbrev N__law_rows_p : List Str := ["shop", "rows", "ware", "number", "day", "amount", "name", "#0"]
theorem sc__law_rows_p : FnScope N__law_rows_p ["shop"] (defScope s__law_rows) := ⟨rfl, rfl, rfl, by decide +kernel, rfl, by decide +kernel, by decide +kernel⟩
section
variable {P : Program} {w : World} {K : PySem.W.Frag} {mg : Str → Option Value} {base : Heap}
abbrev sp__law_rows_p (K : PySem.W.Frag) : Sp := SpA K (Gd K) false (fun s : Shop => [shopD s]) ShopG (fun s d => d = .lst ((gAll s).map linesD)) noRs
theorem own_ptrs (gs : List (Addr × D)) : ∀ L : List (Addr × List RowV), (∀ q ∈ L, (q.1, linesD q.2) ∈ gs) → OwnL gs ((L.map (·.2)).map linesD) (ptrsD L)
  | [], _ => .nil
  | q :: r, h => .cons (.lst (h q List.mem_cons_self)) (own_ptrs gs r fun p hp => h p (List.mem_cons_of_mem _ hp))
theorem c__law_rows_p (Dn : Dfn K mg "_law_rows" s__law_rows ["shop"]) (Z : Glb K mg w)  : Cal P w K mg base 1 "_law_rows" (sp__law_rows_p K) [] := by
  obtain ⟨f, fd, F, hm, hb⟩ := Dn.ex
  refine ⟨f, fd, ["shop"], [], ?_, hm, F.kp, hb, .nil⟩
  refine F.ok sc__law_rows_p (fun vs H Q E h => spA_len (fun _ => rfl) h) (fun cdv A outer s H vs Q E hr h => ?_)
  refine ⟨_, (pss_cons (ps_set (i := 1) sc__law_rows_p.nd rfl (.inl rfl) (pe_lst (pa_cons (pe_lst pa_nil) (pa_cons (pe_lst pa_nil) pa_nil))))
    (pss_cons (ps_for PassesOwn.never rfl (pi_tup (pe_ix ix_tup (pv 0) pe_int (fun _ _ => rfl))) (pg_name (i := 2) sc__law_rows_p.nd rfl (.inr rfl))
    (pss_cons (ps_expr (pe_bm PySem.F.plainAttrs_list PySem.F.slot_list_append PySem.F.type_list_append mt_append (pe_ix ix_list (pv 1) pe_int (fun _ _ => rfl)) (pa_cons (pe_join pe_str (pe_op op_cat (pe_lst (pa_cons pe_str (pa_cons (pe_ix ix_tup (pv 2) pe_int (fun _ _ => rfl)) pa_nil))) (pe_lc (own := [("number", 3)]) rfl sc__law_rows_p.nd (pi_tup (pe_slice sl_tupA (pv 2) (po_some pe_int) (po_some pe_int))) (blkOk_by (N := N__law_rows_p) (sc := defScope s__law_rows) (by decide +kernel)) (fun _ _ _ _ _ => (pg_name (i := 3) sc__law_rows_p.nd rfl (.inl rfl))) (fun _ _ _ _ _ => pts_nil) (fun _ _ _ _ _ => (pe_callTy call_str_int (by rfl) Z.b_str (by decide +kernel) (pa_cons (pv 3) pa_nil)))))) pa_nil)))
      (pss_cons (ps_expr (pe_bm PySem.F.plainAttrs_list PySem.F.slot_list_append PySem.F.type_list_append mt_append (pv 1) (pa_cons (pe_lc (own := [("day", 4), ("amount", 5)]) rfl sc__law_rows_p.nd (pi_tup (pe_ix ix_tup (pv 2) pe_int (fun _ _ => rfl))) (blkOk_by (N := N__law_rows_p) (sc := defScope s__law_rows) (by decide +kernel)) (fun _ _ _ _ _ => (show PG _ _ (gTup K 2 _) from pg_tup rfl (pgs_cons (pg_name (i := 4) sc__law_rows_p.nd rfl (.inl rfl)) (pgs_cons (pg_name (i := 5) sc__law_rows_p.nd rfl (.inl rfl)) pgs_nil)))) (fun _ _ _ _ _ => pts_nil) (fun _ _ _ _ _ => (show PE _ _ (tM1 (rJoin K) _ _) from pe_join pe_str (pe_lst (pa_cons pe_str (pa_cons (pe_ix (show IxR _ (rIxT K) from ix_tup) (pv 2) pe_int (fun _ _ => rfl)) (pa_cons (pe_callTy call_str_int (by rfl) Z.b_str (by decide +kernel) (pa_cons (pv 4) pa_nil)) (pa_cons (pe_callTy call_str_int (by rfl) Z.b_str (by decide +kernel) (pa_cons (pv 5) pa_nil)) pa_nil)))))))) pa_nil)))
      (pss_one (ps_expr (pe_bm PySem.F.plainAttrs_list PySem.F.slot_list_append PySem.F.type_list_append mt_append (pv 1) (pa_cons (pe_lc (own := [("name", 6), ("amount", 5)]) rfl sc__law_rows_p.nd (pi_tup (pe_ix ix_tup (pv 2) pe_int (fun _ _ => rfl))) (blkOk_by (N := N__law_rows_p) (sc := defScope s__law_rows) (by decide +kernel)) (fun _ _ _ _ _ => (show PG _ _ (gTup K 2 _) from pg_tup rfl (pgs_cons (pg_name (i := 6) sc__law_rows_p.nd rfl (.inl rfl)) (pgs_cons (pg_name (i := 5) sc__law_rows_p.nd rfl (.inl rfl)) pgs_nil)))) (fun _ _ _ _ _ => pts_nil) (fun _ _ _ _ _ => (show PE _ _ (tM1 (rJoin K) _ _) from pe_join pe_str (pe_lst (pa_cons pe_str (pa_cons (pe_ix (show IxR _ (rIxT K) from ix_tup) (pv 2) pe_int (fun _ _ => rfl)) (pa_cons (pe_callTy SkE.call_str_str (by rfl) Z.b_str (by decide +kernel) (pa_cons (pv 6) pa_nil)) (pa_cons (pe_callTy call_str_int (by rfl) Z.b_str (by decide +kernel) (pa_cons (pv 5) pa_nil)) pa_nil)))))))) pa_nil)))))))
    (pss_cons (ps_asg (pe_lc (own := [("name", 6), ("day", 4), ("amount", 5)]) rfl sc__law_rows_p.nd (pi_tup (pe_ix ix_tup (pv 0) pe_int (fun _ _ => rfl))) (blkOk_by (N := N__law_rows_p) (sc := defScope s__law_rows) (by decide +kernel)) (fun _ _ _ _ _ => (show PG _ _ (gTup K 3 _) from pg_tup rfl (pgs_cons (pg_name (i := 6) sc__law_rows_p.nd rfl (.inl rfl)) (pgs_cons (pg_name (i := 4) sc__law_rows_p.nd rfl (.inl rfl)) (pgs_cons (pg_name (i := 5) sc__law_rows_p.nd rfl (.inl rfl)) pgs_nil))))) (fun _ _ _ _ _ => pts_nil) (fun _ _ _ _ _ => (show PE _ _ (tM1 (rJoin K) _ _) from pe_join pe_str (pe_lst (pa_cons pe_str (pa_cons (pv 6) (pa_cons (pe_callTy call_str_int (by rfl) Z.b_str (by decide +kernel) (pa_cons (pv 4) pa_nil)) (pa_cons (pe_callTy call_str_int (by rfl) Z.b_str (by decide +kernel) (pa_cons (pv 5) pa_nil)) pa_nil)))))))) (pg_sub (pv 1) pe_int set_list))
    (pss_one (ps_ret (pv 1)))))), ?_⟩
  try dsimp only [cxOf, Cx.nox, Cx.wish]
  refine run_defG (N := N__law_rows_p) (fun _ => Nat.le_of_ble_eq_true rfl) (env0 := fun s : Shop => [.p (shopD s), .u, .u, .u, .u, .u, .u, .u]) (fun _ => rfl) (fun B s hp => ?_) (spG_of (post := fun s gs d => ∃ L, d = .lst (ptrsD L) ∧ Grp L gs ∧ L.map (·.2) = gAll s) (fun s gs e ⟨L, e1, hg, hL⟩ => ⟨_, .inr ⟨_, _, rfl, e1, own_ptrs gs L hg.mem⟩, by rw [hL]⟩) h)
  have h12 := hp.hi
  have hwl := hp.wants.len
  have hn := hp.n.nm
  refine vsr_hp0 7 rfl ?_
  refine vsr_seq ?_
  refine vs_asgLL (i := 1) (j := 7) (gs := []) (by show 1 < 8; decide) (by decide) rfl fun a b hab _ _ => ?_
  refine vsr_seq ?_
  refine vs_for (vi_tup ?_)
  repeat walk_at "v"
  refine vo_ixT (d := .tup (s.ws.map wareD)) (atI_nat (j := 0) rfl) ?_
  repeat walk_at "v"
  refine ⟨_, rfl, fun i e => ∃ (L : List (Addr × List RowV)) (gs : List (Addr × D)) (x2 : Slot), L.map (·.2) = gTo s i [] ∧ Grp L gs ∧ e = [.p (shopD s), .mu (.lst (ptrsD L)), x2, .u, .u, .u, .u, .hp gs], ⟨[(a, []), (b, [])], _, _, rfl, ⟨?_, fun q hq => ?_⟩, rfl⟩, ?_, ?_⟩
  · simpa using hab
  · rcases List.mem_cons.mp hq with rfl | hq
    · exact List.mem_cons_of_mem _ List.mem_cons_self
    · rw [List.mem_singleton.mp hq]
      exact List.mem_cons_self
  · rintro i d e hi ⟨L, gs, x2, hL, hG, rfl⟩
    obtain ⟨w, hw, rfl⟩ := map_get hi
    have hil := lt_of_get hw
    have hwm := List.mem_of_getElem? hw
    have hwg := hp.ws w hwm
    have hcl := hwg.cl
    have hpl := hwg.pl
    have hnl : w.nm.length ≤ 8 := by rw [str_len]; exact hwg.nm.hi
    repeat ((fail_if_success (with_reducible refine vs_next ?_)); (fail_if_success (with_reducible refine vs_seq ?_)); (fail_if_success (with_reducible refine vs_asg ?_)); walk_at "u")
    have okW : (wareRow w).ok := rows_ok hp _ (List.mem_append_left _ (List.mem_flatMap.mpr ⟨w, hwm, List.mem_cons_self⟩))
    have okC : ∀ p ∈ w.com, (comRow w p).ok := fun p hpm => rows_ok hp _ (List.mem_append_left _ (List.mem_flatMap.mpr ⟨w, hwm, List.mem_cons_of_mem _ (List.mem_append_left _ (List.mem_map_of_mem hpm))⟩))
    have okP : ∀ p ∈ w.parts, (partRow w p).ok := fun p hpm => rows_ok hp _ (List.mem_append_left _ (List.mem_flatMap.mpr ⟨w, hwm, List.mem_cons_of_mem _ (List.mem_append_right _ (List.mem_map_of_mem hpm))⟩))
    have lg : ∀ n : Int, NumOk n → n.natAbs.log2 < 1920 := fun n hn => log_lt hn.1 (Int.lt_trans hn.2 (by decide)) (by decide)
    have gl : (gTo s i []).length ≤ 26 := by
      show (_ :: _ :: _).length ≤ 26
      have := flat_len (l := s.ws.take i) (f := fun w => [w.com.map (comRow w), w.parts.map (partRow w)]) (M := 2) fun _ _ => Nat.le_refl _
      rw [List.length_cons, List.length_cons]
      have : (s.ws.take i).length ≤ 12 := by rw [List.length_take]; omega
      omega
    have hLl : L.length ≤ 26 := by rw [← List.length_map (f := (·.2)), hL]; exact gl
    obtain ⟨a0, g0, L2, rfl⟩ : ∃ a0 g0 L2, L = (a0, g0) :: L2 := by
      cases L with
      | nil => cases hL
      | cons q r => exact ⟨q.1, q.2, r, rfl⟩
    have hg0 : g0 = (s.ws.take i).map wareRow := (List.cons.inj hL).1
    have hL2 : L2.map (·.2) = [] :: (s.ws.take i).flatMap fun w => [w.com.map (comRow w), w.parts.map (partRow w)] := (List.cons.inj hL).2
    refine vs_seq ?_
    refine vs_appendP ?_
    repeat walk_at "v"
    refine vo_ixL (ds := ptrsD ((a0, g0) :: L2)) (d := .ptr a0) rfl (atI_nat (j := 0) rfl) ?_
    refine ⟨a0, 7, gs, _, rfl, rfl, hG.mem _ List.mem_cons_self, ?_⟩
    refine ve_join ?_
    repeat walk_at "v"
    refine ⟨_, rfl, ?_⟩
    repeat walk_at "v"
    refine vo_ixT (d := .str w.nm) (atI_nat (j := 0) rfl) ?_
    repeat walk_at "v"
    refine ve_lcT (xs := [w.lag, w.gives, w.floor, w.stock]) (g := D.int) (h := fun n => .str (numT n)) some (hu1 rfl) (only_name (by decide)) (vi_tup ?_)
    repeat walk_at "v"
    refine vsl_tup ?_
    refine ⟨_, rfl, rfl, by show 4 < 100000; decide, fun p i x hx => ?_, ?_⟩
    · have hxo : NumOk x := by
        have := List.mem_of_getElem? hx
        simp only [List.mem_cons, List.not_mem_nil, or_false] at this
        rcases this with rfl | rfl | rfl | rfl
        · exact okW.2.1
        · exact okW.2.2.1
        · exact okW.2.2.2.1
        · exact okW.2.2.2.2
      repeat walk_at "v"
      refine ⟨.set .refl (by decide), ?_⟩
      repeat walk_at "v"
      refine and_t rfl ?_
      repeat walk_at "v"
      refine vc_strI (lg x hxo) ?_
      exact fz_p ⟨x, rfl, rfl⟩
    rw [fm_some]
    refine fz_o ?_
    refine vo_catE (fs := ((wareRow w).words.map D.str)) rfl rfl rfl (by show 6 ≤ 100000; decide) ?_
    refine fz_o ⟨(wareRow w).words, .inl rfl, row_join okW, ?_⟩
    refine fz_p ⟨lineD (wareRow w), rfl, by rw [List.length_map, hg0, List.length_map, List.length_take]; omega, ?_⟩
    have hG1 := hG.set (k := 0) (a := a0) (g := g0) (g0 ++ [wareRow w]) rfl
    have e1 : linesD (g0 ++ [wareRow w]) = .lst (g0.map lineD ++ [lineD (wareRow w)]) := by unfold linesD; rw [List.map_append]; rfl
    rw [e1] at hG1
    dsimp only [List.set] at hG1
    show VS K (Gd K) B _ [.p (shopD s), .mu (.lst (ptrsD ((a0, g0 ++ [wareRow w]) :: L2))), .p (wareD w), .u, .u, .u, .u, .hp (setP gs a0 (.lst (g0.map lineD ++ [lineD (wareRow w)])))] _ _ _ _
    obtain ⟨gs1, hgs1⟩ : ∃ g, g = setP gs a0 (.lst (g0.map lineD ++ [lineD (wareRow w)])) := ⟨_, rfl⟩
    rw [← hgs1] at hG1 ⊢
    refine vs_seq ?_
    refine vs_appendO (i := 1) (j := 7) rfl rfl ?_
    refine ve_lcT (xs := w.com) (g := pairD) (h := lineD) (fun p => some (comRow w p)) (hu2 rfl rfl) (only_tup (only_cons (only_name (by decide)) (only_cons (only_name (by decide)) only_nil))) (vi_tup ?_)
    repeat walk_at "v"
    refine vo_ixT (d := .tup (w.com.map pairD)) (atI_nat (j := 5) rfl) ?_
    refine ⟨_, rfl, rfl, by omega, fun q i p hpi => ?_, ?_⟩
    · have hpm := List.mem_of_getElem? hpi
      have hpok := okC p hpm
      refine vg_tup (ds := [.int p.1, .int p.2]) rfl ?_
      repeat walk_at "v"
      refine ⟨?_, ?_⟩
      · exact .set (.set .refl (by decide)) (by decide)
      repeat walk_at "v"
      refine and_t rfl ?_
      refine ve_join ?_
      repeat walk_at "v"
      refine ⟨_, rfl, ?_⟩
      repeat walk_at "v"
      refine vo_ixT (d := .str w.nm) (atI_nat (j := 0) rfl) ?_
      repeat walk_at "v"
      refine vc_strI (lg _ hpok.2.1) ?_
      repeat walk_at "v"
      refine vc_strI (lg _ hpok.2.2) ?_
      repeat walk_at "v"
      refine ⟨(comRow w p).words, .inl rfl, row_join hpok, ?_⟩
      exact fz_p ⟨comRow w p, rfl, rfl⟩
    rw [fm_some]
    refine ⟨_, rfl, ?_, fun a1 ha1 => ?_⟩
    · unfold ptrsD
      rw [List.length_map, List.length_cons]
      rw [List.length_cons] at hLl
      omega
    have hG2 := hG1.snoc (g := w.com.map (comRow w)) ha1
    obtain ⟨L3, hL3⟩ : ∃ L3, L3 = (a0, g0 ++ [wareRow w]) :: L2 ++ [(a1, w.com.map (comRow w))] := ⟨_, rfl⟩
    have hL3l : L3.length ≤ 27 := by
      rw [hL3, List.length_append, List.length_cons]
      rw [List.length_cons] at hLl
      show _ + 1 + 1 ≤ 27
      omega
    have e3 : ptrsD ((a0, g0 ++ [wareRow w]) :: L2) ++ [.ptr a1] = ptrsD L3 := by rw [hL3]; unfold ptrsD; rw [List.map_append]; rfl
    rw [← hL3] at hG2
    rw [e3]
    obtain ⟨gs2, hgs2⟩ : ∃ g, g = (a1, linesD (w.com.map (comRow w))) :: gs1 := ⟨_, rfl⟩
    rw [← hgs2] at hG2
    show VS K (Gd K) B _ [.p (shopD s), .mu (.lst (ptrsD L3)), .p (wareD w), .u, .u, .u, .u, .hp ((a1, linesD (w.com.map (comRow w))) :: gs1)] _ _ _ _
    rw [← hgs2]
    refine vs_appendO (i := 1) (j := 7) rfl rfl ?_
    refine ve_lcT (xs := w.parts) (g := partD) (h := lineD) (fun p => some (partRow w p)) (hu2 rfl rfl) (only_tup (only_cons (only_name (by decide)) (only_cons (only_name (by decide)) only_nil))) (vi_tup ?_)
    repeat walk_at "v"
    refine vo_ixT (d := .tup (w.parts.map partD)) (atI_nat (j := 6) rfl) ?_
    refine ⟨_, rfl, rfl, by omega, fun q i p hpi => ?_, ?_⟩
    · have hpm := List.mem_of_getElem? hpi
      have hpok := okP p hpm
      refine vg_tup (ds := [.str p.1, .int p.2]) rfl ?_
      repeat walk_at "v"
      refine ⟨?_, ?_⟩
      · exact .set (.set .refl (by decide)) (by decide)
      repeat walk_at "v"
      refine and_t rfl ?_
      refine ve_join ?_
      repeat walk_at "v"
      refine ⟨_, rfl, ?_⟩
      repeat walk_at "v"
      refine vo_ixT (d := .str w.nm) (atI_nat (j := 0) rfl) ?_
      repeat walk_at "v"
      refine vc_strS ?_
      repeat walk_at "v"
      refine vc_strI (lg _ hpok.2.2) ?_
      repeat walk_at "v"
      refine ⟨(partRow w p).words, .inl rfl, row_join hpok, ?_⟩
      exact fz_p ⟨partRow w p, rfl, rfl⟩
    rw [fm_some]
    refine ⟨_, rfl, ?_, fun a2 ha2 => ?_⟩
    · unfold ptrsD
      rw [List.length_map]
      omega
    have hG3 := hG2.snoc (g := w.parts.map (partRow w)) ha2
    refine ⟨L3 ++ [(a2, w.parts.map (partRow w))], _, .p (wareD w), ?_, hG3, ?_⟩
    · rw [hL3]
      simp only [List.map_append, List.map_cons, List.map_nil, hL2, hg0]
      unfold gTo
      rw [take_one hw, List.map_append, List.flatMap_append]
      simp
    · have e4 : ptrsD L3 ++ [.ptr a2] = ptrsD (L3 ++ [(a2, w.parts.map (partRow w))]) := by unfold ptrsD; rw [List.map_append]; rfl
      rw [e4]
      rfl
  · rintro e ⟨L, gs, x2, hL, hG, rfl⟩
    rw [List.length_map] at hL
    have lg : ∀ n : Int, NumOk n → n.natAbs.log2 < 1920 := fun n hn => log_lt hn.1 (Int.lt_trans hn.2 (by decide)) (by decide)
    have hL5 := hL
    unfold gTo at hL5
    rw [List.take_length] at hL5
    refine vsr_seq ?_
    refine vs_asg ?_
    refine ve_lcT (xs := s.wants) (g := wantD) (h := lineD) (fun v => some (wantRow v)) (hu3 rfl rfl rfl) (only_tup (only_cons (only_name (by decide)) (only_cons (only_name (by decide)) (only_cons (only_name (by decide)) only_nil)))) (vi_tup ?_)
    repeat walk_at "v"
    refine vo_ixT (d := .tup (s.wants.map wantD)) (atI_nat (j := 1) rfl) ?_
    refine ⟨_, rfl, rfl, by omega, fun q i v hvi => ?_, ?_⟩
    · have hvm := List.mem_of_getElem? hvi
      have hvok : (wantRow v).ok := rows_ok hp _ (List.mem_append_right _ (List.mem_map_of_mem hvm))
      refine vg_tup (ds := [.str v.1, .int v.2.1, .int v.2.2]) rfl ?_
      repeat walk_at "v"
      refine ⟨?_, ?_⟩
      · exact .set (.set (.set .refl (by decide)) (by decide)) (by decide)
      repeat walk_at "v"
      refine and_t rfl ?_
      refine ve_join ?_
      repeat walk_at "v"
      refine ⟨_, rfl, ?_⟩
      repeat walk_at "v"
      refine vc_strI (lg _ hvok.2.1) ?_
      repeat walk_at "v"
      refine vc_strI (lg _ hvok.2.2) ?_
      repeat walk_at "v"
      refine ⟨(wantRow v).words, .inl rfl, row_join hvok, ?_⟩
      exact fz_p ⟨wantRow v, rfl, rfl⟩
    rw [fm_some]
    obtain ⟨q0, q1, L2, rfl⟩ : ∃ q0 q1 L2, L = q0 :: q1 :: L2 := by
      cases L with
      | nil => exact absurd (congrArg List.length hL5) (by simp)
      | cons q r => cases r with
        | nil => exact absurd (congrArg List.length hL5) (by simp)
        | cons q1 r => exact ⟨q, q1, r, rfl⟩
    refine vg_subO (i := 1) (j := 7) (k := 1) rfl rfl (ixN_nat (n := (ptrsD (q0 :: q1 :: L2)).length) (j := 1) (by unfold ptrsD; rw [List.length_map]; show 1 < _ + 1 + 1; omega)) fun a ha => ?_
    have hG2 := hG.put (g := s.wants.map wantRow) ha 1
    refine vsr_frz 1 rfl ?_
    refine vsr_ret (j := 7) rfl ?_
    repeat walk_at "v"
    refine ⟨_, rfl, _, rfl, hG2, ?_⟩
    show q0.2 :: s.wants.map wantRow :: L2.map (·.2) = gAll s
    unfold gAll
    have h5 := hL5
    injection h5 with h51 h52
    injection h52 with h52 h53
    rw [h53]
    show (fun x : Addr × List RowV => x.2) q0 :: _ = _
    rw [h51]
end
abbrev s__law_mixed : Stmt := topS 45
abbrev N__law_mixed : List Str := ["cell", "many", "found", "number", "k"]
theorem sc__law_mixed : FnScope N__law_mixed ["cell", "many"] (defScope s__law_mixed) := ⟨rfl, rfl, rfl, by decide +kernel, rfl, by decide +kernel, by decide +kernel⟩
section
variable {P : Program} {w : World} {K : PySem.W.Frag} {mg : Str → Option Value} {base : Heap}
abbrev sp__law_mixed_n (K : PySem.W.Frag) : Sp := SpA K (Gd K) true (fun x : Int × Int => [.int x.1, .int x.2]) (fun x => 1 ≤ x.2 ∧ x.2 ≤ 4) (fun x d => ∃ ns : List Int, d = .lst (ns.map D.int) ∧ (ns.length : Int) = x.2 ∧ ∀ n ∈ ns, 0 ≤ n ∧ n < bigP) noRs
theorem c__law_mixed_n (Dn : Dfn K mg "_law_mixed" s__law_mixed ["cell", "many"]) (Z : Glb K mg w)  : Cal P w K mg base 1 "_law_mixed" (sp__law_mixed_n K) [] := by
  obtain ⟨f, fd, F, hm, hb⟩ := Dn.ex
  refine ⟨f, fd, ["cell", "many"], [], ?_, hm, F.kp, hb, .nil⟩
  refine F.ok sc__law_mixed (fun vs H Q E h => spA_len (fun _ => rfl) h) (fun cdv A outer s H vs Q E hr h => ?_)
  refine ⟨_, (pss_cons (ps_set (i := 2) sc__law_mixed.nd rfl (.inl rfl) (pe_lst pa_nil))
    (pss_cons (ps_set (i := 3) sc__law_mixed.nd rfl (.inl rfl) (pe_op op_add (pe_op (op_mul.or op_mulW) (pe_op op_mod (pv 0) pe_int) pe_int) pe_int))
    (pss_cons (ps_for PassesOwn.never rfl (pi_range1 (by rfl) Z.b_range (pa_cons (pv 1) pa_nil)) (pg_name (i := 4) sc__law_mixed.nd rfl (.inl rfl))
    (pss_cons (ps_set (i := 3) sc__law_mixed.nd rfl (.inl rfl) (pe_op op_mod (pe_op op_add (pe_op op_add (pe_op (op_mul.or op_mulW) (pv 3) (pe_op op_add (pv 3) pe_int)) (pe_op (op_mul.or op_mulW) pe_int (pv 4))) pe_int) pe_int))
      (pss_one (ps_expr (pe_bm PySem.F.plainAttrs_list PySem.F.slot_list_append PySem.F.type_list_append mt_append (pv 2) (pa_cons (pv 3) pa_nil))))))
    (pss_one (ps_ret (pv 2)))))), ?_⟩
  try dsimp only [cxOf, Cx.nox, Cx.wish]
  refine run_def (N := N__law_mixed) (fun _ => Nat.le_of_ble_eq_true rfl) (env0 := fun x : Int × Int => [.p (.int x.1), .p (.int x.2), .u, .u, .u]) (fun _ => rfl) (fun B x hp L => ?_) h
  obtain ⟨c, m⟩ := x
  dsimp only at hp ⊢
  obtain ⟨hm1', hm4⟩ := hp
  repeat walk_at "v"
  have hm0 : 0 ≤ c % 2305843009213693951 := Int.emod_nonneg _ (by decide)
  have hm1 : c % 2305843009213693951 < 2305843009213693951 := Int.emod_lt_of_pos _ (by decide)
  refine vs_for (vi_range1 ?_)
  repeat walk_at "v"
  refine ⟨_, rfl, ⟨by omega, by omega⟩, fun i e => ∃ (ns : List Int) (y : Int) (x : Slot), e = [.p (.int c), .p (.int m), .mu (.lst (ns.map D.int)), .p (.int y), x] ∧ ns.length = i ∧ (0 ≤ y ∧ y < 2 ^ 100) ∧ ∀ n ∈ ns, 0 ≤ n ∧ n < bigP, ⟨[], _, .u, rfl, rfl, ⟨by omega, by omega⟩, fun n hn => by cases hn⟩, ?_, ?_⟩
  · rintro i d e hi ⟨ns, y, x, rfl, hl, ⟨y0, y1⟩, hok⟩
    obtain ⟨hi2, rfl⟩ := rangeD_get hi
    have hi3 : i < 4 := by omega
    have l1 : (2 : Int) ^ 100 + 32452843 < 2 ^ 1000 := by decide
    have l2 : (2 : Int) ^ 100 < 2 ^ 1000 := by decide
    repeat walk_at "v"
    case hmul => exact .inr (mulW y0 (Int.lt_trans y1 l2) (by omega) (Int.lt_trans (Int.add_lt_add_right y1 _) l1))
    have hx0 : 0 ≤ (y * (y + 32452843) + 17 * (0 + (i : Nat)) + 7) % 2305843009213693951 := Int.emod_nonneg _ (by decide)
    have hx1 : (y * (y + 32452843) + 17 * (0 + (i : Nat)) + 7) % 2305843009213693951 < 2305843009213693951 := Int.emod_lt_of_pos _ (by decide)
    refine ⟨_, rfl, by rw [List.length_map]; omega, ns ++ [_], _, _, by rw [List.map_append]; rfl, by rw [List.length_append, hl]; rfl, ⟨hx0, Int.lt_trans hx1 (by decide)⟩, fun n hn => ?_⟩
    rcases List.mem_append.mp hn with q | q
    · exact hok n q
    · rw [List.mem_singleton.mp q]
      exact ⟨hx0, hx1⟩
  · rintro e ⟨ns, y, x, rfl, hl, _, hok⟩
    rw [rangeD_len] at hl
    repeat walk_at "v"
    exact ⟨ns, rfl, by rw [hl]; omega, hok⟩
end
abbrev s_read_number : Stmt := topS 32
abbrev N_read_number : List Str := ["word", "sign"]
theorem sc_read_number : FnScope N_read_number ["word"] (defScope s_read_number) := ⟨rfl, rfl, rfl, by decide +kernel, rfl, by decide +kernel, by decide +kernel⟩
section
variable {P : Program} {w : World} {K : PySem.W.Frag} {mg : Str → Option Value} {base : Heap}
abbrev sp_read_number (K : PySem.W.Frag) : Sp := SpA K (Gd K) false (fun x : Str × Int => [.str x.1]) (fun x => numB x.1 = true ∧ PySem.intText? x.1 = some x.2) (fun x d => d = .int x.2) noRs
theorem c_read_number (Dn : Dfn K mg "read_number" s_read_number ["word"]) (Z : Glb K mg w)  : Cal P w K mg base 1 "read_number" (sp_read_number K) [] := by
  obtain ⟨f, fd, F, hm, hb⟩ := Dn.ex
  refine ⟨f, fd, ["word"], [], ?_, hm, F.kp, hb, .nil⟩
  refine F.ok sc_read_number (fun vs H Q E h => spA_len (fun _ => rfl) h) (fun cdv A outer s H vs Q E hr h => ?_)
  refine ⟨_, (pss_cons (ps_if ((pw_or (pt_not (pt_val (pe_callB call_isi (by rfl) Z.b_isinstance (by decide +kernel) (pa_cons (pv 0) (pa_cons (pe_bltn (v := .ty "str") (by rfl) Z.b_str (show bootBuiltins "str" = some (.type "str") by decide +kernel) rfl) pa_nil))))) (pw_or1 (pt_not (pt_chain op_le op_le pe_int (pe_callB call_len_str (by rfl) Z.b_len PySem.boot_len (pa_cons (pv 0) pa_nil)) (pe_gc (by rfl) Z.c_MOST)))))).pt
    (pss_one ps_dead)
    pss_nil)
    (pss_cons (ps_if (pt_not (pt_val (pe_callB (cr_all rfl) (by rfl) Z.b_all (by decide +kernel) (pa_cons (pe_lc (own := [("sign", 1)]) rfl sc_read_number.nd (pi_str (pv 0)) (blkOk_by (N := N_read_number) (sc := defScope s_read_number) (by decide +kernel)) (fun _ _ _ _ _ => (pg_name (i := 1) sc_read_number.nd rfl (.inl rfl))) (fun _ _ _ _ _ => pts_nil) (fun _ _ _ _ _ => (pe_cmpR op_in_sign (pv 1) (pe_gc (by rfl) Z.c_FIGURES) (by rfl)))) pa_nil))))
    (pss_one ps_dead)
    pss_nil)
    (pss_cons (ps_if ((pw_and (pt_val (pe_bm PySem.F.plainAttrs_str PySem.F.slot_str_startswith PySem.F.type_str_startswith mt_startswith (pv 0) (pa_cons pe_str pa_nil))) (pw_and1 (pt_cmpR op_ne (pv 0) pe_str (nomark _))))).pt
    (pss_one ps_dead)
    pss_nil)
    (pss_one (ps_ret (pe_callTy call_int_str (by rfl) Z.b_int (by decide +kernel) (pa_cons (pv 0) pa_nil))))))), ?_⟩
  try dsimp only [cxOf, Cx.nox, Cx.wish]
  refine run_def (N := N_read_number) (fun _ => Nat.le_of_ble_eq_true rfl) (env0 := fun x : Str × Int => [.p (.str x.1), .u]) (fun _ => rfl) (fun B x hp L => ?_) h
  obtain ⟨z, n⟩ := x
  obtain ⟨hz, hn⟩ := hp
  dsimp only at hz hn ⊢
  obtain ⟨h1, h2, h3, h4⟩ := numB_iff.mp hz
  refine vs_seq ?_
  refine vs_if ?_
  repeat walk_at "v"
  refine and_f rfl ?_
  repeat walk_at "v"
  refine ve_chain ?_
  repeat walk_at "v"
  refine vc_lenS (by omega) ?_
  repeat walk_at "v"
  refine ⟨fun _ => ?_, fun q => absurd (of_decide_eq_false q) (by omega)⟩
  repeat walk_at "v"
  rw [decide_eq_true (show ((z.length : Nat) : Int) ≤ 60 by omega)]
  refine and_f rfl ?_
  repeat walk_at "v"
  refine vs_if ?_
  repeat walk_at "v"
  refine ve_lcT (xs := z.cps.toList) (g := fun c => D.str ⟨#[c]⟩) (h := D.bl) (fun c => some (figB c)) (hu1 rfl) (only_name (by decide)) (vi_str ?_)
  repeat walk_at "v"
  have hzl := slen z
  refine ⟨_, rfl, rfl, by omega, fun q i c hc => ?_, ?_⟩
  · repeat walk_at "v"
    refine ⟨.set .refl (by decide), ?_⟩
    repeat walk_at "v"
    refine and_t rfl ?_
    repeat walk_at "v"
    refine vo_inSign ?_
    rw [figs_mem]
    exact fz_p ⟨_, rfl, rfl⟩
  rw [fm_some]
  repeat walk_at "v"
  refine vc_all rfl ?_
  repeat walk_at "v"
  rw [List.all_map, show z.cps.toList.all (id ∘ figB) = true from h3]
  refine and_f rfl ?_
  repeat walk_at "v"
  refine vs_if ?_
  repeat walk_at "v"
  refine ve_starts ?_
  repeat walk_at "v"
  refine ⟨_, rfl, ?_⟩
  repeat walk_at "v"
  refine ⟨_, rfl, ?_⟩
  rw [starts0]
  refine ⟨_, rfl, fun hb => ?_, fun hb => ?_⟩
  · repeat walk_at "v"
    have he : z.cps.toList.head? = some 48 := of_decide_eq_true hb
    have hz0 : z = "0" := h4.resolve_right fun q => q he
    refine and_f (by rw [decide_eq_true hz0]; rfl) ?_
    repeat walk_at "v"
    refine vc_intS hn (by omega) ?_
    repeat walk_at "v"
    exact ⟨rfl, rfl⟩
  · repeat walk_at "v"
    refine and_f rfl ?_
    repeat walk_at "v"
    refine vc_intS hn (by omega) ?_
    repeat walk_at "v"
    exact ⟨rfl, rfl⟩
end
abbrev s_is_name : Stmt := topS 18
abbrev N_is_name : List Str := ["found", "sign"]
theorem sc_is_name : FnScope N_is_name ["found"] (defScope s_is_name) := ⟨rfl, rfl, rfl, by decide +kernel, rfl, by decide +kernel, by decide +kernel⟩
section
variable {P : Program} {w : World} {K : PySem.W.Frag} {mg : Str → Option Value} {base : Heap}
abbrev sp_is_name (K : PySem.W.Frag) : Sp := SpA K (Gd K) false (fun d : D => [d]) (fun d => Any d) (fun d e => e = .bl (nameB d)) noRs
theorem c_is_name (Dn : Dfn K mg "is_name" s_is_name ["found"]) (Z : Glb K mg w)  : Cal P w K mg base 1 "is_name" (sp_is_name K) [] := by
  obtain ⟨f, fd, F, hm, hb⟩ := Dn.ex
  refine ⟨f, fd, ["found"], [], ?_, hm, F.kp, hb, .nil⟩
  refine F.ok sc_is_name (fun vs H Q E h => spA_len (fun _ => rfl) h) (fun cdv A outer s H vs Q E hr h => ?_)
  refine ⟨_, (pss_cons (ps_if ((pw_or (pt_not (pt_val (pe_callB call_isi (by rfl) Z.b_isinstance (by decide +kernel) (pa_cons (pv 0) (pa_cons (pe_bltn (v := .ty "str") (by rfl) Z.b_str (show bootBuiltins "str" = some (.type "str") by decide +kernel) rfl) pa_nil))))) (pw_or1 (pt_not (pt_chain op_le op_le pe_int (pe_callB call_len_str (by rfl) Z.b_len PySem.boot_len (pa_cons (pv 0) pa_nil)) (pe_gc (by rfl) Z.c_MOST_LETTERS)))))).pt
    (pss_one (ps_ret pe_bl))
    pss_nil)
    (pss_one (ps_ret (pe_callB (cr_all rfl) (by rfl) Z.b_all (by decide +kernel) (pa_cons (pe_lc (own := [("sign", 1)]) rfl sc_is_name.nd (pi_str (pv 0)) (blkOk_by (N := N_is_name) (sc := defScope s_is_name) (by decide +kernel)) (fun _ _ _ _ _ => (pg_name (i := 1) sc_is_name.nd rfl (.inl rfl))) (fun _ _ _ _ _ => pts_nil) (fun _ _ _ _ _ => (pe_cmpR op_in_sign (pv 1) (pe_gc (by rfl) Z.c_LETTERS) (by rfl)))) pa_nil))))), ?_⟩
  try dsimp only [cxOf, Cx.nox, Cx.wish]
  refine run_def (N := N_is_name) (fun _ => Nat.le_of_ble_eq_true rfl) (env0 := fun d : D => [.p d, .u]) (fun _ => rfl) (fun B d hp L => ?_) h
  refine vs_seq ?_
  refine vs_if ?_
  cases hp
  case str z hl =>
    repeat walk_at "v"
    refine and_f rfl ?_
    repeat walk_at "v"
    refine ve_chain ?_
    repeat walk_at "v"
    refine vc_lenS (by omega) ?_
    repeat walk_at "v"
    refine ⟨fun h1 => ?_, fun h1 => ?_⟩
    · have h1' : 1 ≤ z.length := by have := of_decide_eq_true h1; omega
      repeat walk_at "v"
      refine ⟨fun h2 => ?_, fun h2 => ?_⟩
      · have h2' : ¬ z.length ≤ 8 := fun q => by
          have : decide (((z.length : Nat) : Int) ≤ 8) = true := decide_eq_true (by omega)
          rw [this] at h2
          cases h2
        repeat walk_at "v"
        refine ⟨rfl, ?_⟩
        show D.bl false = D.bl (decide (1 ≤ z.length) && (decide (z.length ≤ 8) && z.cps.toList.all abcB))
        rw [decide_eq_false h2', Bool.false_and, Bool.and_false]
      · have h2' : z.length ≤ 8 := by
          have : decide (((z.length : Nat) : Int) ≤ 8) = true := by simpa using h2
          have := of_decide_eq_true this
          omega
        repeat walk_at "v"
        refine ve_lcT (xs := z.cps.toList) (g := fun c => D.str ⟨#[c]⟩) (h := D.bl) (fun c => some (abcB c)) (hu1 rfl) (only_name (by decide)) (vi_str ?_)
        repeat walk_at "v"
        have hzl := slen z
        refine ⟨_, rfl, rfl, by omega, fun q i c hc => ?_, ?_⟩
        · repeat walk_at "v"
          refine ⟨.set .refl (by decide), ?_⟩
          repeat walk_at "v"
          refine and_t rfl ?_
          repeat walk_at "v"
          refine vo_inSign ?_
          rw [abc_mem]
          exact fz_p ⟨_, rfl, rfl⟩
        rw [fm_some]
        repeat walk_at "v"
        refine vc_all rfl ?_
        repeat walk_at "v"
        rw [List.all_map]
        refine ⟨rfl, ?_⟩
        show D.bl (z.cps.toList.all (id ∘ abcB)) = D.bl (decide (1 ≤ z.length) && (decide (z.length ≤ 8) && z.cps.toList.all abcB))
        rw [decide_eq_true h1', decide_eq_true h2', Bool.true_and, Bool.true_and]
        rfl
    · have h1' : ¬ 1 ≤ z.length := by have := of_decide_eq_false h1; omega
      repeat walk_at "v"
      refine and_t rfl ?_
      repeat walk_at "v"
      refine ⟨rfl, ?_⟩
      show D.bl false = D.bl (decide (1 ≤ z.length) && (decide (z.length ≤ 8) && z.cps.toList.all abcB))
      rw [decide_eq_false h1', Bool.false_and]
  all_goals
    repeat walk_at "v"
    refine and_t rfl ?_
    refine and_t rfl ?_
    repeat walk_at "v"
    exact ⟨rfl, rfl⟩
end
abbrev s_read_row : Stmt := topS 33
abbrev N_read_row : List Str := ["row", "words", "names", "numbers", "word"]
theorem sc_read_row : FnScope N_read_row ["row"] (defScope s_read_row) := ⟨rfl, rfl, rfl, by decide +kernel, rfl, by decide +kernel, by decide +kernel⟩
section
variable {P : Program} {w : World} {K : PySem.W.Frag} {mg : Str → Option Value} {base : Heap}
abbrev sp_read_row (K : PySem.W.Frag) : Sp := SpA K (Gd K) false (fun x : Str × List D => [.str x.1]) (fun x => x.1.length ≤ 50000 ∧ parseRow (Txt.split x.1 " ") = some x.2) (fun x d => d = .lst x.2) noRs
theorem c_read_row (Dn : Dfn K mg "read_row" s_read_row ["row"]) (Z : Glb K mg w) (C_read_number : Cal P w K mg base 1 "read_number" (sp_read_number K) []) (C_is_name : Cal P w K mg base 1 "is_name" (sp_is_name K) []) : Cal P w K mg base 2 "read_row" (sp_read_row K) [] := by
  obtain ⟨d_FORMS, es_FORMS, n_FORMS, m_FORMS, D_FORMS, z_FORMS, v_FORMS⟩ := Z.t_FORMS.ex
  obtain ⟨f, fd, F, hm, hb⟩ := Dn.ex
  refine ⟨f, fd, ["row"], [], ?_, hm, F.kp, hb, .nil⟩
  refine F.ok sc_read_row (fun vs H Q E h => spA_len (fun _ => rfl) h) (fun cdv A outer s H vs Q E hr h => ?_)
  refine ⟨_, (pss_cons (ps_set (i := 1) sc_read_row.nd rfl (.inl rfl) (pe_split (pv 0) pe_str))
    (pss_cons (ps_if (pt_cmpR (op_notIn_kd D_FORMS) (pe_ix ix_list (pv 1) pe_int (fun _ _ => rfl)) (pe_glob (v := .ref d_FORMS) (by rfl) m_FORMS rfl) (by rfl))
    (pss_one ps_dead)
    pss_nil)
    (pss_cons (ps_asg (pe_ix (ix_kd D_FORMS) (pe_glob (v := .ref d_FORMS) (by rfl) m_FORMS rfl) (pe_ix ix_list (pv 1) pe_int (fun _ _ => rfl)) (fun _ _ => rfl)) (pg_tup rfl (pgs_cons (pg_name (i := 2) sc_read_row.nd rfl (.inl rfl)) (pgs_cons (pg_name (i := 3) sc_read_row.nd rfl (.inl rfl)) pgs_nil))))
    (pss_cons (ps_if (pt_cmpR op_ne (pe_callB call_len_seq (by rfl) Z.b_len PySem.boot_len (pa_cons (pv 1) pa_nil)) (pe_op op_add (pe_op op_add pe_int (pv 2)) (pv 3)) (nomark _))
    (pss_one ps_dead)
    pss_nil)
    (pss_cons (ps_if (pt_not (pt_val (pe_callB (cr_all rfl) (by rfl) Z.b_all (by decide +kernel) (pa_cons (pe_lc (own := [("word", 4)]) rfl sc_read_row.nd (pi_list (pe_slice sl_list (pv 1) (po_some pe_int) (po_some (pe_op op_add pe_int (pv 2))))) (blkOk_by (N := N_read_row) (sc := defScope s_read_row) (by decide +kernel)) (fun _ _ _ _ _ => (pg_name (i := 4) sc_read_row.nd rfl (.inl rfl))) (fun _ _ _ _ _ => pts_nil) (fun _ _ _ _ _ => (pe_c C_is_name hr (by first | decide | omega) (by rfl) (pa_cons (pv 4) pa_nil)))) pa_nil))))
    (pss_one ps_dead)
    pss_nil)
    (pss_one (ps_ret (pe_op op_cat (pe_slice sl_list (pv 1) po_none (po_some (pe_op op_add pe_int (pv 2)))) (pe_lc (own := [("word", 4)]) rfl sc_read_row.nd (pi_list (pe_slice sl_list (pv 1) (po_some (pe_op op_add pe_int (pv 2))) po_none)) (blkOk_by (N := N_read_row) (sc := defScope s_read_row) (by decide +kernel)) (fun _ _ _ _ _ => (pg_name (i := 4) sc_read_row.nd rfl (.inl rfl))) (fun _ _ _ _ _ => pts_nil) (fun _ _ _ _ _ => (pe_c C_read_number hr (by first | decide | omega) (by rfl) (pa_cons (pv 4) pa_nil)))))))))))), ?_⟩
  try dsimp only [cxOf, Cx.nox, Cx.wish]
  refine run_def (N := N_read_row) (fun _ => Nat.le_of_ble_eq_true rfl) (env0 := fun x : Str × List D => [.p (.str x.1), .u, .u, .u, .u]) (fun _ => rfl) (fun B x hp L => ?_) h
  obtain ⟨z, ds⟩ := x
  obtain ⟨hl, hpr⟩ := hp
  dsimp only at hl hpr ⊢
  obtain ⟨y, r, n, m, hW, hf, hr, hn, hm, rfl⟩ := parse_row hpr
  obtain ⟨hmem, n1, n2, m1, m2⟩ := form_mem hf
  obtain ⟨t, ht1, ht2⟩ := v_FORMS _ hmem
  refine vs_seq ?_
  refine vs_asg ?_
  refine ve_split ?_
  repeat walk_at "v"
  refine ⟨_, rfl, ?_⟩
  repeat walk_at "v"
  refine ⟨_, rfl, by decide, by omega, ?_⟩
  rw [hW]
  refine vg_o (Nat.le_of_ble_eq_true rfl) ?_
  refine vs_frz 1 (.inr rfl) ?_
  refine vs_seq ?_
  refine vs_if ?_
  repeat walk_at "v"
  refine vo_ixL (d := .str y) rfl (atI_nat (j := 0) rfl) ?_
  repeat walk_at "v"
  refine vo_notInKd ht1 ?_
  repeat walk_at "v"
  refine and_f rfl ?_
  repeat walk_at "v"
  refine vo_ixL (d := .str y) rfl (atI_nat (j := 0) rfl) ?_
  repeat walk_at "v"
  refine vo_itKd ht1 ht2 (ds := [.int n, .int m]) (fun R => .cons (.int _) (.cons (.int _) .nil)) ?_
  repeat walk_at "v"
  refine vs_if ?_
  repeat walk_at "v"
  refine and_f (by
    rw [List.length_map, List.length_cons, hr]
    simp
    omega) ?_
  refine vs_next ?_
  refine vs_seq ?_
  refine vs_if ?_
  repeat walk_at "v"
  have hdrop : ((y :: r).take (1 + (n : Int)).toNat).drop (1 : Int).toNat = r.take n := by
    rw [show (1 + (n : Int)).toNat = n + 1 by omega]
    rfl
  refine ve_lcT (xs := r.take n) (g := D.str) (h := D.bl) (fun w => some (nameS w)) (hu1 rfl) (only_name (by decide)) (vi_l ?_)
  repeat walk_at "v"
  rw [cutD_mid D.str (y :: r) (by decide) (by omega), hdrop]
  have hr9 : r.length ≤ 9 := by omega
  refine ⟨_, rfl, rfl, by rw [List.length_take]; omega, fun q i w hw => ?_, ?_⟩
  · have hnw := hn w (List.mem_of_getElem? hw)
    have hlw := nameS_len hnw
    repeat walk_at "v"
    refine ⟨.set .refl (by decide), ?_⟩
    repeat walk_at "v"
    refine and_t rfl ?_
    walk_at "c"
    repeat walk_at "v"
    refine ⟨.str w, rfl, .str (by omega), fun _ h => h, ?_⟩
    rintro _ rfl
    exact fz_p ⟨_, rfl, rfl⟩
  rw [fm_some]
  repeat walk_at "v"
  refine vc_all rfl ?_
  rw [List.all_map, show (r.take n).all (id ∘ nameS) = true from List.all_eq_true.mpr hn]
  repeat walk_at "v"
  refine and_f rfl ?_
  repeat walk_at "v"
  have hdrop2 : (y :: r).drop (1 + (n : Int)).toNat = r.drop n := by
    rw [show (1 + (n : Int)).toNat = n + 1 by omega]
    rfl
  have htake2 : (y :: r).take (1 + (n : Int)).toNat = y :: r.take n := by
    rw [show (1 + (n : Int)).toNat = n + 1 by omega]
    rfl
  rw [cutD_take D.str (y :: r) (by omega), htake2]
  refine ve_lcT (xs := r.drop n) (g := D.str) (h := D.int) (fun w => some (numV w)) (hu1 rfl) (only_name (by decide)) (vi_l ?_)
  repeat walk_at "v"
  rw [cutD_drop D.str (y :: r) (by omega), hdrop2]
  refine ⟨_, rfl, rfl, by rw [List.length_drop]; omega, fun q i w hw => ?_, ?_⟩
  · have hnw := hm w (List.mem_of_getElem? hw)
    obtain ⟨v, hv⟩ := numB_val hnw
    repeat walk_at "v"
    refine ⟨.set .refl (by decide), ?_⟩
    repeat walk_at "v"
    refine and_t rfl ?_
    walk_at "c"
    repeat walk_at "v"
    refine ⟨(w, v), rfl, ⟨hnw, hv⟩, fun _ h => h, ?_⟩
    rintro _ rfl
    exact fz_p ⟨v, rfl, by unfold numV; rw [hv]; rfl⟩
  rw [fm_some]
  repeat walk_at "v"
  refine vo_cat rfl rfl (by rw [List.length_map, List.length_cons, List.length_take, List.length_map, List.length_map, List.length_drop]; omega) ?_
  rw [List.map_map]
  exact rfl
end
abbrev s_are_unlike : Stmt := topS 24
abbrev N_are_unlike : List Str := ["names"]
theorem sc_are_unlike : FnScope N_are_unlike ["names"] (defScope s_are_unlike) := ⟨rfl, rfl, rfl, by decide +kernel, rfl, by decide +kernel, by decide +kernel⟩
section
variable {P : Program} {w : World} {K : PySem.W.Frag} {mg : Str → Option Value} {base : Heap}
abbrev sp_are_unlike (K : PySem.W.Frag) : Sp := SpA K (Gd K) false (fun zs : List Str => [.lst (zs.map D.str)]) (fun zs => zs.length ≤ 1000) (fun zs e => e = .bl (decide zs.Nodup)) noRs
theorem c_are_unlike (Dn : Dfn K mg "are_unlike" s_are_unlike ["names"]) (Z : Glb K mg w)  : Cal P w K mg base 1 "are_unlike" (sp_are_unlike K) [] := by
  obtain ⟨f, fd, F, hm, hb⟩ := Dn.ex
  refine ⟨f, fd, ["names"], [], ?_, hm, F.kp, hb, .nil⟩
  refine F.ok sc_are_unlike (fun vs H Q E h => spA_len (fun _ => rfl) h) (fun cdv A outer s H vs Q E hr h => ?_)
  refine ⟨_, (pss_one (ps_ret (pe_cmpR op_eq (pe_lenSetS rfl (by rfl) Z.b_len (by rfl) Z.b_set (pv 0)) (pe_callB call_len_seq (by rfl) Z.b_len PySem.boot_len (pa_cons (pv 0) pa_nil)) (nomark _)))), ?_⟩
  try dsimp only [cxOf, Cx.nox, Cx.wish]
  refine run_def (N := N_are_unlike) (fun _ => Nat.le_of_ble_eq_true rfl) (env0 := fun zs : List Str => [.p (.lst (zs.map D.str))]) (fun _ => rfl) (fun B zs hp L => ?_) h
  repeat walk_at "v"
  refine ve_lenSetD ?_
  repeat walk_at "v"
  refine ⟨zs, rfl, by omega, ?_⟩
  repeat walk_at "v"
  rw [List.length_map, dc_dec]
  exact ⟨rfl, rfl⟩
end
abbrev s_is_whole : Stmt := topS 19
abbrev N_is_whole : List Str := ["found", "least"]
theorem sc_is_whole : FnScope N_is_whole ["found", "least"] (defScope s_is_whole) := ⟨rfl, rfl, rfl, by decide +kernel, rfl, by decide +kernel, by decide +kernel⟩
section
variable {P : Program} {w : World} {K : PySem.W.Frag} {mg : Str → Option Value} {base : Heap}
abbrev sp_is_whole (K : PySem.W.Frag) : Sp := SpA K (Gd K) false (fun x : D × Int => [x.1, .int x.2]) (fun x => D.isDat x.1 = true) (fun x d => d = .bl (isWhole x.1 x.2)) noRs
theorem c_is_whole (Dn : Dfn K mg "is_whole" s_is_whole ["found", "least"]) (Z : Glb K mg w)  : Cal P w K mg base 1 "is_whole" (sp_is_whole K) [] := by
  obtain ⟨f, fd, F, hm, hb⟩ := Dn.ex
  refine ⟨f, fd, ["found", "least"], [], ?_, hm, F.kp, hb, .nil⟩
  refine F.ok sc_is_whole (fun vs H Q E h => spA_len (fun _ => rfl) h) (fun cdv A outer s H vs Q E hr h => ?_)
  refine ⟨_, (pss_one (ps_ret (pe_and (pe_callB call_isi (by rfl) Z.b_isinstance (by decide +kernel) (pa_cons (pv 0) (pa_cons (pe_bltn (v := .ty "int") (by rfl) Z.b_int (show bootBuiltins "int" = some (.type "int") by decide +kernel) rfl) pa_nil))) (pe_and (pe_not (pe_callB call_isi (by rfl) Z.b_isinstance (by decide +kernel) (pa_cons (pv 0) (pa_cons (pe_bltn (v := .ty "bool") (by rfl) Z.b_bool (show bootBuiltins "bool" = some (.type "bool") by decide +kernel) rfl) pa_nil)))) (pe_one (pe_cmpR op_ge (pv 0) (pv 1) (nomark _))))))), ?_⟩
  try dsimp only [cxOf, Cx.nox, Cx.wish]
  refine run_def (N := N_is_whole) (fun _ => Nat.le_of_ble_eq_true rfl) (env0 := fun x : D × Int => [.p x.1, .p (.int x.2)]) (fun _ => rfl) (fun B x hp L => ?_) h
  obtain ⟨d, k⟩ := x
  dsimp only at hp ⊢
  cases d <;> first | (cases hp; done) | skip
  all_goals
    repeat walk_at "v"
    first
      | exact and_f rfl ⟨rfl, rfl⟩
      | (refine and_t rfl ?_
         repeat walk_at "v"
         first
           | exact and_f rfl ⟨rfl, rfl⟩
           | (refine and_t rfl ?_
              repeat walk_at "v"
              exact ⟨rfl, rfl⟩))
end
abbrev s_is_day : Stmt := topS 20
abbrev N_is_day : List Str := ["found"]
theorem sc_is_day : FnScope N_is_day ["found"] (defScope s_is_day) := ⟨rfl, rfl, rfl, by decide +kernel, rfl, by decide +kernel, by decide +kernel⟩
section
variable {P : Program} {w : World} {K : PySem.W.Frag} {mg : Str → Option Value} {base : Heap}
abbrev sp_is_day (K : PySem.W.Frag) : Sp := SpA K (Gd K) false (fun x : D => [x]) (fun x => D.isDat x = true) (fun x d => d = .bl (isDay x)) noRs
theorem c_is_day (Dn : Dfn K mg "is_day" s_is_day ["found"]) (Z : Glb K mg w) (C_is_whole : Cal P w K mg base 1 "is_whole" (sp_is_whole K) []) : Cal P w K mg base 2 "is_day" (sp_is_day K) [] := by
  obtain ⟨f, fd, F, hm, hb⟩ := Dn.ex
  refine ⟨f, fd, ["found"], [], ?_, hm, F.kp, hb, .nil⟩
  refine F.ok sc_is_day (fun vs H Q E h => spA_len (fun _ => rfl) h) (fun cdv A outer s H vs Q E hr h => ?_)
  refine ⟨_, (pss_one (ps_ret (pe_and (pe_c C_is_whole hr (by first | decide | omega) (by rfl) (pa_cons (pv 0) (pa_cons pe_int pa_nil))) (pe_one (pe_cmpR op_le (pv 0) (pe_gc (by rfl) Z.c_MOST_DAY) (nomark _)))))), ?_⟩
  try dsimp only [cxOf, Cx.nox, Cx.wish]
  refine run_def (N := N_is_day) (fun _ => Nat.le_of_ble_eq_true rfl) (env0 := fun x : D => [.p x]) (fun _ => rfl) (fun B x hp L => ?_) h
  repeat walk_at "v"
  walk_at "c"
  repeat walk_at "v"
  refine ⟨(x, 0), rfl, hp, fun _ h => h, ?_⟩
  rintro _ rfl
  repeat walk_at "v"
  dsimp only
  cases x <;> first | (cases hp; done) | exact and_f rfl ⟨rfl, rfl⟩ | skip
  rename_i i
  refine ⟨fun hb => ?_, fun hb => ?_⟩
  · repeat walk_at "v"
    refine ⟨rfl, ?_⟩
    have hb2 : decide (0 ≤ i) = true := hb
    show D.bl _ = D.bl (decide (0 ≤ i) && decide (i ≤ 400))
    rw [hb2]
    rfl
  · refine ⟨rfl, ?_⟩
    have hb2 : decide (0 ≤ i) = false := hb
    show D.bl false = D.bl (decide (0 ≤ i) && decide (i ≤ 400))
    rw [hb2]
    rfl
end
abbrev s_is_coming : Stmt := topS 21
abbrev N_is_coming : List Str := ["found"]
theorem sc_is_coming : FnScope N_is_coming ["found"] (defScope s_is_coming) := ⟨rfl, rfl, rfl, by decide +kernel, rfl, by decide +kernel, by decide +kernel⟩
section
variable {P : Program} {w : World} {K : PySem.W.Frag} {mg : Str → Option Value} {base : Heap}
abbrev sp_is_coming (K : PySem.W.Frag) : Sp := SpA K (Gd K) false (fun d : D => [d]) (fun d => Any d) (fun d e => e = .bl (comingB d)) noRs
theorem c_is_coming (Dn : Dfn K mg "is_coming" s_is_coming ["found"]) (Z : Glb K mg w) (C_is_whole : Cal P w K mg base 1 "is_whole" (sp_is_whole K) []) (C_is_day : Cal P w K mg base 2 "is_day" (sp_is_day K) []) : Cal P w K mg base 3 "is_coming" (sp_is_coming K) [] := by
  obtain ⟨f, fd, F, hm, hb⟩ := Dn.ex
  refine ⟨f, fd, ["found"], [], ?_, hm, F.kp, hb, .nil⟩
  refine F.ok sc_is_coming (fun vs H Q E h => spA_len (fun _ => rfl) h) (fun cdv A outer s H vs Q E hr h => ?_)
  refine ⟨_, (pss_one (ps_ret (pe_and (pe_callB call_isi (by rfl) Z.b_isinstance (by decide +kernel) (pa_cons (pv 0) (pa_cons (pe_bltn (v := .ty "tuple") (by rfl) Z.b_tuple (show bootBuiltins "tuple" = some (.type "tuple") by decide +kernel) rfl) pa_nil))) (pe_and (pe_cmpR op_eq (pe_callB call_len_seq (by rfl) Z.b_len PySem.boot_len (pa_cons (pv 0) pa_nil)) pe_int (nomark _)) (pe_and (pe_c C_is_day hr (by first | decide | omega) (by rfl) (pa_cons (pe_ix ix_tup (pv 0) pe_int (fun _ _ => rfl)) pa_nil)) (pe_one (pe_c C_is_whole hr (by first | decide | omega) (by rfl) (pa_cons (pe_ix ix_tup (pv 0) pe_int (fun _ _ => rfl)) (pa_cons pe_int pa_nil))))))))), ?_⟩
  try dsimp only [cxOf, Cx.nox, Cx.wish]
  refine run_def (N := N_is_coming) (fun _ => Nat.le_of_ble_eq_true rfl) (env0 := fun d : D => [.p d]) (fun _ => rfl) (fun B d hp L => ?_) h
  cases hp
  case tup ds hl hall =>
    match ds, hl, hall with
    | [a, b], hl, hall =>
      have ha := hall a (by simp)
      have hb := hall b (by simp)
      repeat walk_at "v"
      refine and_t rfl ?_
      repeat walk_at "v"
      refine and_t rfl ?_
      repeat walk_at "v"
      walk_at "c"
      repeat walk_at "v"
      refine vo_ixT (d := a) (atI_nat (j := 0) rfl) ?_
      refine fz_p ?_
      repeat walk_at "v"
      refine ⟨a, rfl, ha.dat, fun _ h => h, ?_⟩
      rintro _ rfl
      repeat walk_at "v"
      refine ⟨fun h1 => ?_, fun h1 => ?_⟩
      · repeat walk_at "v"
        walk_at "c"
        repeat walk_at "v"
        refine vo_ixT (d := b) (atI_nat (j := 1) rfl) ?_
        refine fz_p ?_
        repeat walk_at "v"
        refine ⟨(b, 0), rfl, hb.dat, fun _ h => h, ?_⟩
        rintro _ rfl
        refine ⟨rfl, ?_⟩
        show D.bl _ = D.bl (isDay a && _)
        rw [show isDay a = true from h1, Bool.true_and]
      · refine ⟨rfl, ?_⟩
        show D.bl false = D.bl (isDay a && _)
        rw [show isDay a = false from h1, Bool.false_and]
    | [], _, _ =>
      repeat walk_at "v"
      refine and_t rfl ?_
      repeat walk_at "v"
      exact and_f rfl ⟨rfl, rfl⟩
    | [x], _, _ =>
      repeat walk_at "v"
      refine and_t rfl ?_
      repeat walk_at "v"
      exact and_f rfl ⟨rfl, rfl⟩
    | x :: y :: z :: r, _, _ =>
      repeat walk_at "v"
      refine and_t rfl ?_
      repeat walk_at "v"
      exact and_f (decide_eq_false (by rw [List.length_cons, List.length_cons, List.length_cons]; omega)) ⟨rfl, rfl⟩
  all_goals
    repeat walk_at "v"
    exact and_f rfl ⟨rfl, rfl⟩
end
abbrev s_is_part : Stmt := topS 22
abbrev N_is_part : List Str := ["found"]
theorem sc_is_part : FnScope N_is_part ["found"] (defScope s_is_part) := ⟨rfl, rfl, rfl, by decide +kernel, rfl, by decide +kernel, by decide +kernel⟩
section
variable {P : Program} {w : World} {K : PySem.W.Frag} {mg : Str → Option Value} {base : Heap}
abbrev sp_is_part (K : PySem.W.Frag) : Sp := SpA K (Gd K) false (fun d : D => [d]) (fun d => Any d) (fun d e => e = .bl (partB d)) noRs
theorem c_is_part (Dn : Dfn K mg "is_part" s_is_part ["found"]) (Z : Glb K mg w) (C_is_whole : Cal P w K mg base 1 "is_whole" (sp_is_whole K) []) (C_is_name : Cal P w K mg base 1 "is_name" (sp_is_name K) []) : Cal P w K mg base 2 "is_part" (sp_is_part K) [] := by
  obtain ⟨f, fd, F, hm, hb⟩ := Dn.ex
  refine ⟨f, fd, ["found"], [], ?_, hm, F.kp, hb, .nil⟩
  refine F.ok sc_is_part (fun vs H Q E h => spA_len (fun _ => rfl) h) (fun cdv A outer s H vs Q E hr h => ?_)
  refine ⟨_, (pss_one (ps_ret (pe_and (pe_callB call_isi (by rfl) Z.b_isinstance (by decide +kernel) (pa_cons (pv 0) (pa_cons (pe_bltn (v := .ty "tuple") (by rfl) Z.b_tuple (show bootBuiltins "tuple" = some (.type "tuple") by decide +kernel) rfl) pa_nil))) (pe_and (pe_cmpR op_eq (pe_callB call_len_seq (by rfl) Z.b_len PySem.boot_len (pa_cons (pv 0) pa_nil)) pe_int (nomark _)) (pe_and (pe_c C_is_name hr (by first | decide | omega) (by rfl) (pa_cons (pe_ix ix_tup (pv 0) pe_int (fun _ _ => rfl)) pa_nil)) (pe_one (pe_c C_is_whole hr (by first | decide | omega) (by rfl) (pa_cons (pe_ix ix_tup (pv 0) pe_int (fun _ _ => rfl)) (pa_cons pe_int pa_nil))))))))), ?_⟩
  try dsimp only [cxOf, Cx.nox, Cx.wish]
  refine run_def (N := N_is_part) (fun _ => Nat.le_of_ble_eq_true rfl) (env0 := fun d : D => [.p d]) (fun _ => rfl) (fun B d hp L => ?_) h
  cases hp
  case tup ds hl hall =>
    match ds, hl, hall with
    | [a, b], hl, hall =>
      have ha := hall a (by simp)
      have hb := hall b (by simp)
      repeat walk_at "v"
      refine and_t rfl ?_
      repeat walk_at "v"
      refine and_t rfl ?_
      repeat walk_at "v"
      walk_at "c"
      repeat walk_at "v"
      refine vo_ixT (d := a) (atI_nat (j := 0) rfl) ?_
      refine fz_p ?_
      repeat walk_at "v"
      refine ⟨a, rfl, ha, fun _ h => h, ?_⟩
      rintro _ rfl
      repeat walk_at "v"
      refine ⟨fun h1 => ?_, fun h1 => ?_⟩
      · repeat walk_at "v"
        walk_at "c"
        repeat walk_at "v"
        refine vo_ixT (d := b) (atI_nat (j := 1) rfl) ?_
        refine fz_p ?_
        repeat walk_at "v"
        refine ⟨(b, 1), rfl, hb.dat, fun _ h => h, ?_⟩
        rintro _ rfl
        refine ⟨rfl, ?_⟩
        show D.bl _ = D.bl (nameB a && _)
        rw [show nameB a = true from h1, Bool.true_and]
      · refine ⟨rfl, ?_⟩
        show D.bl false = D.bl (nameB a && _)
        rw [show nameB a = false from h1, Bool.false_and]
    | [], _, _ =>
      repeat walk_at "v"
      refine and_t rfl ?_
      repeat walk_at "v"
      exact and_f rfl ⟨rfl, rfl⟩
    | [x], _, _ =>
      repeat walk_at "v"
      refine and_t rfl ?_
      repeat walk_at "v"
      exact and_f rfl ⟨rfl, rfl⟩
    | x :: y :: z :: r, _, _ =>
      repeat walk_at "v"
      refine and_t rfl ?_
      repeat walk_at "v"
      exact and_f (decide_eq_false (by rw [List.length_cons, List.length_cons, List.length_cons]; omega)) ⟨rfl, rfl⟩
  all_goals
    repeat walk_at "v"
    exact and_f rfl ⟨rfl, rfl⟩
end
abbrev s_are_all : Stmt := topS 23
abbrev N_are_all : List Str := ["found", "most", "is_one", "thing"]
theorem sc_are_all : FnScope N_are_all ["found", "most", "is_one"] (defScope s_are_all) := ⟨rfl, rfl, rfl, by decide +kernel, rfl, by decide +kernel, by decide +kernel⟩
section
variable {P : Program} {w : World} {K : PySem.W.Frag} {mg : Str → Option Value} {base : Heap}
/-- what a name asks -/
def lowB (nm : Str) : D → Bool := if nm = "is_coming" then comingB else partB
abbrev sp_are_all_low (K : PySem.W.Frag) : Sp := SpA K (Gd K) false (fun x : D × Int × Str × Addr => [x.1, .int x.2.1, .ptr x.2.2.2]) (fun x => Any x.1 ∧ (x.2.2.1 = "is_coming" ∨ x.2.2.1 = "is_part") ∧ Is K x.2.2.1 x.2.2.2) (fun x e => e = .bl (allB (lowB x.2.2.1) x.2.1 x.1)) noRs
theorem c_are_all_low (Dn : Dfn K mg "are_all" s_are_all ["found", "most", "is_one"]) (Z : Glb K mg w) (C_is_part : Cal P w K mg base 2 "is_part" (sp_is_part K) []) (C_is_coming : Cal P w K mg base 3 "is_coming" (sp_is_coming K) []) : Cal P w K mg base 4 "are_all" (sp_are_all_low K) [] := by
  obtain ⟨f, fd, F, hm, hb⟩ := Dn.ex
  refine ⟨f, fd, ["found", "most", "is_one"], [], ?_, hm, F.kp, hb, .nil⟩
  refine F.ok sc_are_all (fun vs H Q E h => spA_len (fun _ => rfl) h) (fun cdv A outer s H vs Q E hr h => ?_)
  refine ⟨_, (pss_one (ps_ret (pe_and (pe_callB call_isi (by rfl) Z.b_isinstance (by decide +kernel) (pa_cons (pv 0) (pa_cons (pe_bltn (v := .ty "tuple") (by rfl) Z.b_tuple (show bootBuiltins "tuple" = some (.type "tuple") by decide +kernel) rfl) pa_nil))) (pe_and (pe_cmpR op_le (pe_callB call_len_seq (by rfl) Z.b_len PySem.boot_len (pa_cons (pv 0) pa_nil)) (pv 1) (nomark _)) (pe_one (pe_callB (cr_all rfl) (by rfl) Z.b_all (by decide +kernel) (pa_cons (pe_lc (own := [("thing", 3)]) rfl sc_are_all.nd (pi_tup (pv 0)) (blkOk_by (N := N_are_all) (sc := defScope s_are_all) (by decide +kernel)) (fun _ _ _ _ _ => (pg_name (i := 3) sc_are_all.nd rfl (.inl rfl))) (fun _ _ _ _ _ => pts_nil) (fun _ _ _ _ _ => (pe_callR (i := 2) (cals_cons C_is_coming (by first | decide | omega) (cals_cons C_is_part (by first | decide | omega) cals_nil)) rfl hr rfl (by first | exact Or.inl rfl | exact Or.inr (Or.inl rfl) | exact Or.inr (Or.inr rfl)) (pa_cons (pv 3) pa_nil)))) pa_nil))))))), ?_⟩
  try dsimp only [cxOf, Cx.nox, Cx.wish]
  refine run_def (N := N_are_all) (fun _ => Nat.le_of_ble_eq_true rfl) (env0 := fun x : D × Int × Str × Addr => [.p x.1, .p (.int x.2.1), .p (.ptr x.2.2.2), .u]) (fun _ => rfl) (fun B x hp L => ?_) h
  obtain ⟨d, m, nm, f⟩ := x
  obtain ⟨hd, hnm, hf⟩ := hp
  dsimp only at hd hnm hf ⊢
  cases hd
  case tup ds hl hall =>
    repeat walk_at "v"
    refine and_t rfl ?_
    repeat walk_at "v"
    refine ⟨fun h1 => ?_, fun h1 => ?_⟩
    · repeat walk_at "v"
      refine ve_lcT (xs := ds) (g := id) (h := D.bl) (fun d => some (lowB nm d)) (hu1 rfl) (only_name (by decide)) (vi_tup ?_)
      repeat walk_at "v"
      refine ⟨_, rfl, (List.map_id _).symm, by omega, fun q i d hdi => ?_, ?_⟩
      · have hdm := hall d (List.mem_of_getElem? hdi)
        repeat walk_at "v"
        refine ⟨.set .refl (by decide), ?_⟩
        repeat walk_at "v"
        refine and_t rfl ?_
        rcases hnm with rfl | rfl
        · refine ve_callR rfl (.head _) (Z.ns _ _ hf) ?_
          walk_at "c"
          repeat walk_at "v"
          refine ⟨d, rfl, hdm, fun _ h => h, ?_⟩
          rintro _ rfl
          exact fz_p ⟨_, rfl, rfl⟩
        · refine ve_callR rfl (.tail _ (.head _)) (Z.ns _ _ hf) ?_
          walk_at "c"
          repeat walk_at "v"
          refine ⟨d, rfl, hdm, fun _ h => h, ?_⟩
          rintro _ rfl
          exact fz_p ⟨_, rfl, rfl⟩
      rw [fm_some]
      repeat walk_at "v"
      refine vc_all rfl ?_
      refine ⟨rfl, ?_⟩
      rw [List.all_map]
      show D.bl (ds.all (id ∘ lowB nm)) = D.bl (decide ((ds.length : Int) ≤ m) && ds.all (lowB nm))
      rw [show decide ((ds.length : Int) ≤ m) = true from h1, Bool.true_and]
      rfl
    · refine ⟨rfl, ?_⟩
      show D.bl false = D.bl (decide ((ds.length : Int) ≤ m) && ds.all (lowB nm))
      rw [show decide ((ds.length : Int) ≤ m) = false from h1, Bool.false_and]
  all_goals
    repeat walk_at "v"
    exact and_f rfl ⟨rfl, rfl⟩
end
abbrev s_is_ware : Stmt := topS 25
abbrev N_is_ware : List Str := ["found", "name", "lag", "gives", "floor", "stock", "coming", "parts", "part"]
theorem sc_is_ware : FnScope N_is_ware ["found"] (defScope s_is_ware) := ⟨rfl, rfl, rfl, by decide +kernel, rfl, by decide +kernel, by decide +kernel⟩
theorem ware_eq (a b c d e f g : D) : wareB (.tup [a, b, c, d, e, f, g]) = (nameB a && (isWhole b 0 && (topW 30 b && (isWhole c 1 && (isWhole d 0 && (isWhole e 0 && (allB comingB 12 f && (allB partB 6 g && unlikeB g)))))))) := rfl
theorem ware_not : ∀ ds : List D, ds.length ≠ 7 → wareB (.tup ds) = false
  | [], _ => rfl
  | [_], _ => rfl
  | [_, _], _ => rfl
  | [_, _, _], _ => rfl
  | [_, _, _, _], _ => rfl
  | [_, _, _, _, _], _ => rfl
  | [_, _, _, _, _, _], _ => rfl
  | [_, _, _, _, _, _, _], h => absurd rfl h
  | _ :: _ :: _ :: _ :: _ :: _ :: _ :: _ :: _, _ => rfl
theorem part_head {d : D} (h : partB d = true) : ∃ z w, d = .tup [.str z, w] := by
  unfold partB at h
  split at h
  · rename_i a b
    rw [Bool.and_eq_true] at h
    have h1 := h.1
    unfold nameB at h1
    split at h1
    · exact ⟨_, _, rfl⟩
    · cases h1
  · cases h
section
variable {P : Program} {w : World} {K : PySem.W.Frag} {mg : Str → Option Value} {base : Heap}
abbrev sp_is_ware (K : PySem.W.Frag) : Sp := SpA K (Gd K) false (fun d : D => [d]) (fun d => Any d) (fun d e => e = .bl (wareB d)) noRs
theorem c_is_ware (Dn : Dfn K mg "is_ware" s_is_ware ["found"]) (Z : Glb K mg w) (C_are_unlike : Cal P w K mg base 1 "are_unlike" (sp_are_unlike K) []) (C_are_all_low : Cal P w K mg base 4 "are_all" (sp_are_all_low K) []) (C_is_part : Cal P w K mg base 2 "is_part" (sp_is_part K) []) (C_is_coming : Cal P w K mg base 3 "is_coming" (sp_is_coming K) []) (C_is_whole : Cal P w K mg base 1 "is_whole" (sp_is_whole K) []) (C_is_name : Cal P w K mg base 1 "is_name" (sp_is_name K) []) : Cal P w K mg base 5 "is_ware" (sp_is_ware K) [] := by
  obtain ⟨f, fd, F, hm, hb⟩ := Dn.ex
  refine ⟨f, fd, ["found"], [], ?_, hm, F.kp, hb, .nil⟩
  refine F.ok sc_is_ware (fun vs H Q E h => spA_len (fun _ => rfl) h) (fun cdv A outer s H vs Q E hr h => ?_)
  refine ⟨_, (pss_cons (ps_if ((pw_or (pt_not (pt_val (pe_callB call_isi (by rfl) Z.b_isinstance (by decide +kernel) (pa_cons (pv 0) (pa_cons (pe_bltn (v := .ty "tuple") (by rfl) Z.b_tuple (show bootBuiltins "tuple" = some (.type "tuple") by decide +kernel) rfl) pa_nil))))) (pw_or1 (pt_cmpR op_ne (pe_callB call_len_seq (by rfl) Z.b_len PySem.boot_len (pa_cons (pv 0) pa_nil)) pe_int (nomark _))))).pt
    (pss_one (ps_ret pe_bl))
    pss_nil)
    (pss_cons (ps_asg (pv 0) (pg_tup rfl (pgs_cons (pg_name (i := 1) sc_is_ware.nd rfl (.inl rfl)) (pgs_cons (pg_name (i := 2) sc_is_ware.nd rfl (.inl rfl)) (pgs_cons (pg_name (i := 3) sc_is_ware.nd rfl (.inl rfl)) (pgs_cons (pg_name (i := 4) sc_is_ware.nd rfl (.inl rfl)) (pgs_cons (pg_name (i := 5) sc_is_ware.nd rfl (.inl rfl)) (pgs_cons (pg_name (i := 6) sc_is_ware.nd rfl (.inl rfl)) (pgs_cons (pg_name (i := 7) sc_is_ware.nd rfl (.inl rfl)) pgs_nil)))))))))
    (pss_cons (ps_if ((pw_or (pt_not (pt_val (pe_c C_is_name hr (by first | decide | omega) (by rfl) (pa_cons (pv 1) pa_nil)))) (pw_or (pt_not (pt_val (pe_c C_is_whole hr (by first | decide | omega) (by rfl) (pa_cons (pv 2) (pa_cons pe_int pa_nil))))) (pw_or1 (pt_cmpR op_gt (pv 2) (pe_gc (by rfl) Z.c_MOST_LAG) (nomark _)))))).pt
    (pss_one (ps_ret pe_bl))
    pss_nil)
    (pss_cons (ps_if ((pw_or (pt_not (pt_val (pe_c C_is_whole hr (by first | decide | omega) (by rfl) (pa_cons (pv 3) (pa_cons pe_int pa_nil))))) (pw_or (pt_not (pt_val (pe_c C_is_whole hr (by first | decide | omega) (by rfl) (pa_cons (pv 4) (pa_cons pe_int pa_nil))))) (pw_or1 (pt_not (pt_val (pe_c C_is_whole hr (by first | decide | omega) (by rfl) (pa_cons (pv 5) (pa_cons pe_int pa_nil))))))))).pt
    (pss_one (ps_ret pe_bl))
    pss_nil)
    (pss_cons (ps_if ((pw_or (pt_not (pt_val (pe_c C_are_all_low hr (by first | decide | omega) (by rfl) (pa_cons (pv 6) (pa_cons (pe_gc (by rfl) Z.c_MOST_COMING) (pa_cons (pe_def (by rfl)) pa_nil)))))) (pw_or1 (pt_not (pt_val (pe_c C_are_all_low hr (by first | decide | omega) (by rfl) (pa_cons (pv 7) (pa_cons (pe_gc (by rfl) Z.c_MOST_PARTS) (pa_cons (pe_def (by rfl)) pa_nil))))))))).pt
    (pss_one (ps_ret pe_bl))
    pss_nil)
    (pss_one (ps_ret (pe_c C_are_unlike hr (by first | decide | omega) (by rfl) (pa_cons (pe_lc (own := [("part", 8)]) rfl sc_is_ware.nd (pi_tup (pv 7)) (blkOk_by (N := N_is_ware) (sc := defScope s_is_ware) (by decide +kernel)) (fun _ _ _ _ _ => (pg_name (i := 8) sc_is_ware.nd rfl (.inl rfl))) (fun _ _ _ _ _ => pts_nil) (fun _ _ _ _ _ => (pe_ix (show IxR _ (rIxT K) from ix_tup) (pv 8) pe_int (fun _ _ => rfl)))) pa_nil))))))))), ?_⟩
  try dsimp only [cxOf, Cx.nox, Cx.wish]
  refine run_def (N := N_is_ware) (fun _ => Nat.le_of_ble_eq_true rfl) (env0 := fun d : D => [.p d, .u, .u, .u, .u, .u, .u, .u, .u]) (fun _ => rfl) (fun B d hp L => ?_) h
  refine vs_seq ?_
  refine vs_if ?_
  cases hp
  case tup ds hl hall =>
    repeat walk_at "v"
    refine and_f rfl ?_
    repeat walk_at "v"
    by_cases h7 : ds.length = 7
    · refine and_f (by rw [h7]; rfl) ?_
      obtain ⟨a, b, c, d, e, f, g, rfl⟩ : ∃ a b c d e f g, ds = [a, b, c, d, e, f, g] := by
        match ds, h7 with
        | [a, b, c, d, e, f, g], _ => exact ⟨a, b, c, d, e, f, g, rfl⟩
      have ha := hall a (by simp)
      have hb := hall b (by simp)
      have hc := hall c (by simp)
      have hd := hall d (by simp)
      have he := hall e (by simp)
      have hf := hall f (by simp)
      have hg := hall g (by simp)
      repeat walk_at "v"
      refine vs_if ?_
      repeat walk_at "v"
      walk_at "c"
      repeat walk_at "v"
      refine ⟨a, rfl, ha, fun _ h => h, ?_⟩
      rintro _ rfl
      repeat walk_at "v"
      cases n1 : nameB a with
      | false =>
        refine and_t rfl ?_
        try refine and_t rfl ?_
        repeat walk_at "v"
        exact ⟨rfl, by rw [ware_eq, n1]; simp only [Bool.true_and, Bool.false_and, Bool.and_false]⟩
      | true =>
        refine and_f rfl ?_
        repeat walk_at "v"
        walk_at "c"
        repeat walk_at "v"
        refine ⟨(b, 0), rfl, hb.dat, fun _ h => h, ?_⟩
        rintro _ rfl
        repeat walk_at "v"
        dsimp only
        cases n2 : isWhole b 0 with
        | false =>
          refine and_t rfl ?_
          try refine and_t rfl ?_
          repeat walk_at "v"
          exact ⟨rfl, by rw [ware_eq, n1, n2]; simp only [Bool.true_and, Bool.false_and, Bool.and_false]⟩
        | true =>
          refine and_f rfl ?_
          repeat walk_at "v"
          obtain ⟨i, rfl⟩ : ∃ i, b = .int i := by
            cases b <;> first | exact ⟨_, rfl⟩ | cases n2
          repeat walk_at "v"
          cases n3 : topW 30 (.int i) with
          | false =>
            have h3 : 30 < i := by have := of_decide_eq_false n3; omega
            refine and_t (decide_eq_true h3) ?_
            repeat walk_at "v"
            exact ⟨rfl, by rw [ware_eq, n1, n2, n3]; simp only [Bool.true_and, Bool.false_and, Bool.and_false]⟩
          | true =>
            have h3 : ¬ 30 < i := by have := of_decide_eq_true n3; omega
            refine and_f (decide_eq_false h3) ?_
            repeat walk_at "v"
            refine vs_if ?_
            repeat walk_at "v"
            walk_at "c"
            repeat walk_at "v"
            refine ⟨(c, 1), rfl, hc.dat, fun _ h => h, ?_⟩
            rintro _ rfl
            repeat walk_at "v"
            dsimp only
            cases n4 : isWhole c 1 with
            | false =>
              refine and_t rfl ?_
              try refine and_t rfl ?_
              repeat walk_at "v"
              exact ⟨rfl, by rw [ware_eq, n1, n2, n3, n4]; simp only [Bool.true_and, Bool.false_and, Bool.and_false]⟩
            | true =>
              refine and_f rfl ?_
              repeat walk_at "v"
              walk_at "c"
              repeat walk_at "v"
              refine ⟨(d, 0), rfl, hd.dat, fun _ h => h, ?_⟩
              rintro _ rfl
              repeat walk_at "v"
              dsimp only
              cases n5 : isWhole d 0 with
              | false =>
                refine and_t rfl ?_
                try refine and_t rfl ?_
                repeat walk_at "v"
                exact ⟨rfl, by rw [ware_eq, n1, n2, n3, n4, n5]; simp only [Bool.true_and, Bool.false_and, Bool.and_false]⟩
              | true =>
                refine and_f rfl ?_
                repeat walk_at "v"
                walk_at "c"
                repeat walk_at "v"
                refine ⟨(e, 0), rfl, he.dat, fun _ h => h, ?_⟩
                rintro _ rfl
                repeat walk_at "v"
                dsimp only
                cases n6 : isWhole e 0 with
                | false =>
                  refine and_t rfl ?_
                  try refine and_t rfl ?_
                  repeat walk_at "v"
                  exact ⟨rfl, by rw [ware_eq, n1, n2, n3, n4, n5, n6]; simp only [Bool.true_and, Bool.false_and, Bool.and_false]⟩
                | true =>
                  refine and_f rfl ?_
                  repeat walk_at "v"
                  refine vs_if ?_
                  repeat walk_at "v"
                  walk_at "c"
                  repeat walk_at "v"
                  obtain ⟨kf, hkf⟩ := Z.d_is_coming
                  refine ve_def ⟨kf, Z.ns _ _ hkf, ?_⟩
                  repeat walk_at "v"
                  refine ⟨(f, 12, "is_coming", kf), rfl, ⟨hf, .inl rfl, hkf⟩, fun _ h => h, ?_⟩
                  rintro _ rfl
                  repeat walk_at "v"
                  rw [show lowB "is_coming" = comingB from if_pos rfl]
                  cases n7 : allB comingB 12 f with
                  | false =>
                    refine and_t rfl ?_
                    try refine and_t rfl ?_
                    repeat walk_at "v"
                    exact ⟨rfl, by rw [ware_eq, n1, n2, n3, n4, n5, n6, n7]; simp only [Bool.true_and, Bool.false_and, Bool.and_false]⟩
                  | true =>
                    refine and_f rfl ?_
                    repeat walk_at "v"
                    walk_at "c"
                    repeat walk_at "v"
                    obtain ⟨kg, hkg⟩ := Z.d_is_part
                    refine ve_def ⟨kg, Z.ns _ _ hkg, ?_⟩
                    repeat walk_at "v"
                    refine ⟨(g, 6, "is_part", kg), rfl, ⟨hg, .inr rfl, hkg⟩, fun _ h => h, ?_⟩
                    rintro _ rfl
                    repeat walk_at "v"
                    rw [show lowB "is_part" = partB from if_neg (by decide)]
                    cases n8 : allB partB 6 g with
                    | false =>
                      refine and_t rfl ?_
                      try refine and_t rfl ?_
                      repeat walk_at "v"
                      exact ⟨rfl, by rw [ware_eq, n1, n2, n3, n4, n5, n6, n7, n8]; simp only [Bool.true_and, Bool.false_and, Bool.and_false]⟩
                    | true =>
                      refine and_f rfl ?_
                      repeat walk_at "v"
                      obtain ⟨ps, rfl⟩ : ∃ ps, g = .tup ps := by
                        unfold allB at n8
                        split at n8
                        · exact ⟨_, rfl⟩
                        · cases n8
                      have n8' : decide ((ps.length : Int) ≤ 6) = true ∧ ps.all partB = true := by
                        have : (decide ((ps.length : Int) ≤ 6) && ps.all partB) = true := n8
                        rwa [Bool.and_eq_true] at this
                      have pl := of_decide_eq_true n8'.1
                      walk_at "c"
                      repeat walk_at "v"
                      refine ve_lcT (xs := ps) (g := id) (h := D.str) (fun d => some (headS d)) (hu1 rfl) (only_name (by decide)) (vi_tup ?_)
                      repeat walk_at "v"
                      refine ⟨_, rfl, (List.map_id _).symm, by omega, fun q k d hdk => ?_, ?_⟩
                      · obtain ⟨z, w, rfl⟩ := part_head (List.all_eq_true.mp n8'.2 d (List.mem_of_getElem? hdk))
                        repeat walk_at "v"
                        refine ⟨.set .refl (by decide), ?_⟩
                        repeat walk_at "v"
                        refine and_t rfl ?_
                        repeat walk_at "v"
                        refine vo_ixT (d := .str z) (atI_nat (j := 0) rfl) ?_
                        exact fz_p ⟨_, rfl, rfl⟩
                      rw [fm_some]
                      repeat walk_at "v"
                      refine ⟨ps.map headS, rfl, by rw [List.length_map]; omega, fun _ h => h, ?_⟩
                      rintro _ rfl
                      refine ⟨rfl, ?_⟩
                      rw [ware_eq, n1, n2, n3, n4, n5, n6, n7, n8]
                      rfl
    · refine and_t (by
        have : decide (((ds.length : Nat) : Int) = 7) = false := decide_eq_false (by omega)
        rw [this]
        rfl) ?_
      repeat walk_at "v"
      exact ⟨rfl, by rw [ware_not ds h7]⟩
  all_goals
    repeat walk_at "v"
    refine and_t rfl ?_
    refine and_t rfl ?_
    repeat walk_at "v"
    exact ⟨rfl, rfl⟩
end
abbrev s_is_want : Stmt := topS 26
abbrev N_is_want : List Str := ["found"]
theorem sc_is_want : FnScope N_is_want ["found"] (defScope s_is_want) := ⟨rfl, rfl, rfl, by decide +kernel, rfl, by decide +kernel, by decide +kernel⟩
section
variable {P : Program} {w : World} {K : PySem.W.Frag} {mg : Str → Option Value} {base : Heap}
abbrev sp_is_want (K : PySem.W.Frag) : Sp := SpA K (Gd K) false (fun d : D => [d]) (fun d => Any d) (fun d e => e = .bl (wantB d)) noRs
theorem c_is_want (Dn : Dfn K mg "is_want" s_is_want ["found"]) (Z : Glb K mg w) (C_is_whole : Cal P w K mg base 1 "is_whole" (sp_is_whole K) []) (C_is_day : Cal P w K mg base 2 "is_day" (sp_is_day K) []) (C_is_name : Cal P w K mg base 1 "is_name" (sp_is_name K) []) : Cal P w K mg base 3 "is_want" (sp_is_want K) [] := by
  obtain ⟨f, fd, F, hm, hb⟩ := Dn.ex
  refine ⟨f, fd, ["found"], [], ?_, hm, F.kp, hb, .nil⟩
  refine F.ok sc_is_want (fun vs H Q E h => spA_len (fun _ => rfl) h) (fun cdv A outer s H vs Q E hr h => ?_)
  refine ⟨_, (pss_cons (ps_if ((pw_or (pt_not (pt_val (pe_callB call_isi (by rfl) Z.b_isinstance (by decide +kernel) (pa_cons (pv 0) (pa_cons (pe_bltn (v := .ty "tuple") (by rfl) Z.b_tuple (show bootBuiltins "tuple" = some (.type "tuple") by decide +kernel) rfl) pa_nil))))) (pw_or1 (pt_cmpR op_ne (pe_callB call_len_seq (by rfl) Z.b_len PySem.boot_len (pa_cons (pv 0) pa_nil)) pe_int (nomark _))))).pt
    (pss_one (ps_ret pe_bl))
    pss_nil)
    (pss_one (ps_ret (pe_and (pe_c C_is_name hr (by first | decide | omega) (by rfl) (pa_cons (pe_ix ix_tup (pv 0) pe_int (fun _ _ => rfl)) pa_nil)) (pe_and (pe_c C_is_day hr (by first | decide | omega) (by rfl) (pa_cons (pe_ix ix_tup (pv 0) pe_int (fun _ _ => rfl)) pa_nil)) (pe_one (pe_c C_is_whole hr (by first | decide | omega) (by rfl) (pa_cons (pe_ix ix_tup (pv 0) pe_int (fun _ _ => rfl)) (pa_cons pe_int pa_nil))))))))), ?_⟩
  try dsimp only [cxOf, Cx.nox, Cx.wish]
  refine run_def (N := N_is_want) (fun _ => Nat.le_of_ble_eq_true rfl) (env0 := fun d : D => [.p d]) (fun _ => rfl) (fun B d hp L => ?_) h
  refine vs_seq ?_
  refine vs_if ?_
  cases hp
  case tup ds hl hall =>
    repeat walk_at "v"
    refine and_f rfl ?_
    repeat walk_at "v"
    by_cases h3 : ds.length = 3
    · refine and_f (by rw [h3]; rfl) ?_
      obtain ⟨a, b, c, rfl⟩ : ∃ a b c, ds = [a, b, c] := by
        match ds, h3 with
        | [a, b, c], _ => exact ⟨a, b, c, rfl⟩
      have ha := hall a (by simp)
      have hb := hall b (by simp)
      have hc := hall c (by simp)
      repeat walk_at "v"
      walk_at "c"
      repeat walk_at "v"
      refine vo_ixT (d := a) (atI_nat (j := 0) rfl) ?_
      refine fz_p ?_
      repeat walk_at "v"
      refine ⟨a, rfl, ha, fun _ h => h, ?_⟩
      rintro _ rfl
      repeat walk_at "v"
      refine ⟨fun h1 => ?_, fun h1 => ?_⟩
      · repeat walk_at "v"
        walk_at "c"
        repeat walk_at "v"
        refine vo_ixT (d := b) (atI_nat (j := 1) rfl) ?_
        refine fz_p ?_
        repeat walk_at "v"
        refine ⟨b, rfl, hb.dat, fun _ h => h, ?_⟩
        rintro _ rfl
        repeat walk_at "v"
        refine ⟨fun h2 => ?_, fun h2 => ?_⟩
        · repeat walk_at "v"
          walk_at "c"
          repeat walk_at "v"
          refine vo_ixT (d := c) (atI_nat (j := 2) rfl) ?_
          refine fz_p ?_
          repeat walk_at "v"
          refine ⟨(c, 0), rfl, hc.dat, fun _ h => h, ?_⟩
          rintro _ rfl
          refine ⟨rfl, ?_⟩
          show D.bl _ = D.bl (nameB a && (isDay b && _))
          rw [show nameB a = true from h1, show isDay b = true from h2, Bool.true_and, Bool.true_and]
        · refine ⟨rfl, ?_⟩
          show D.bl false = D.bl (nameB a && (isDay b && _))
          rw [show isDay b = false from h2, Bool.false_and, Bool.and_false]
      · refine ⟨rfl, ?_⟩
        show D.bl false = D.bl (nameB a && _)
        rw [show nameB a = false from h1, Bool.false_and]
    · refine and_t (by
        have : decide (((ds.length : Nat) : Int) = 3) = false := decide_eq_false (by omega)
        rw [this]
        rfl) ?_
      repeat walk_at "v"
      exact ⟨rfl, by rw [want_not ds h3]⟩
  all_goals
    repeat walk_at "v"
    refine and_t rfl ?_
    refine and_t rfl ?_
    repeat walk_at "v"
    exact ⟨rfl, rfl⟩
end
section
variable {P : Program} {w : World} {K : PySem.W.Frag} {mg : Str → Option Value} {base : Heap}
/-- what a name asks -/
def highB (nm : Str) : D → Bool := if nm = "is_ware" then wareB else wantB
abbrev sp_are_all_high (K : PySem.W.Frag) : Sp := SpA K (Gd K) false (fun x : D × Int × Str × Addr => [x.1, .int x.2.1, .ptr x.2.2.2]) (fun x => Any x.1 ∧ (x.2.2.1 = "is_ware" ∨ x.2.2.1 = "is_want") ∧ Is K x.2.2.1 x.2.2.2) (fun x e => e = .bl (allB (highB x.2.2.1) x.2.1 x.1)) noRs
theorem c_are_all_high (Dn : Dfn K mg "are_all" s_are_all ["found", "most", "is_one"]) (Z : Glb K mg w) (C_is_want : Cal P w K mg base 3 "is_want" (sp_is_want K) []) (C_is_ware : Cal P w K mg base 5 "is_ware" (sp_is_ware K) []) : Cal P w K mg base 6 "are_all" (sp_are_all_high K) [] := by
  obtain ⟨f, fd, F, hm, hb⟩ := Dn.ex
  refine ⟨f, fd, ["found", "most", "is_one"], [], ?_, hm, F.kp, hb, .nil⟩
  refine F.ok sc_are_all (fun vs H Q E h => spA_len (fun _ => rfl) h) (fun cdv A outer s H vs Q E hr h => ?_)
  refine ⟨_, (pss_one (ps_ret (pe_and (pe_callB call_isi (by rfl) Z.b_isinstance (by decide +kernel) (pa_cons (pv 0) (pa_cons (pe_bltn (v := .ty "tuple") (by rfl) Z.b_tuple (show bootBuiltins "tuple" = some (.type "tuple") by decide +kernel) rfl) pa_nil))) (pe_and (pe_cmpR op_le (pe_callB call_len_seq (by rfl) Z.b_len PySem.boot_len (pa_cons (pv 0) pa_nil)) (pv 1) (nomark _)) (pe_one (pe_callB (cr_all rfl) (by rfl) Z.b_all (by decide +kernel) (pa_cons (pe_lc (own := [("thing", 3)]) rfl sc_are_all.nd (pi_tup (pv 0)) (blkOk_by (N := N_are_all) (sc := defScope s_are_all) (by decide +kernel)) (fun _ _ _ _ _ => (pg_name (i := 3) sc_are_all.nd rfl (.inl rfl))) (fun _ _ _ _ _ => pts_nil) (fun _ _ _ _ _ => (pe_callR (i := 2) (cals_cons C_is_ware (by first | decide | omega) (cals_cons C_is_want (by first | decide | omega) cals_nil)) rfl hr rfl (by first | exact Or.inl rfl | exact Or.inr (Or.inl rfl) | exact Or.inr (Or.inr rfl)) (pa_cons (pv 3) pa_nil)))) pa_nil))))))), ?_⟩
  try dsimp only [cxOf, Cx.nox, Cx.wish]
  refine run_def (N := N_are_all) (fun _ => Nat.le_of_ble_eq_true rfl) (env0 := fun x : D × Int × Str × Addr => [.p x.1, .p (.int x.2.1), .p (.ptr x.2.2.2), .u]) (fun _ => rfl) (fun B x hp L => ?_) h
  obtain ⟨d, m, nm, f⟩ := x
  obtain ⟨hd, hnm, hf⟩ := hp
  dsimp only at hd hnm hf ⊢
  cases hd
  case tup ds hl hall =>
    repeat walk_at "v"
    refine and_t rfl ?_
    repeat walk_at "v"
    refine ⟨fun h1 => ?_, fun h1 => ?_⟩
    · repeat walk_at "v"
      refine ve_lcT (xs := ds) (g := id) (h := D.bl) (fun d => some (highB nm d)) (hu1 rfl) (only_name (by decide)) (vi_tup ?_)
      repeat walk_at "v"
      refine ⟨_, rfl, (List.map_id _).symm, by omega, fun q i d hdi => ?_, ?_⟩
      · have hdm := hall d (List.mem_of_getElem? hdi)
        repeat walk_at "v"
        refine ⟨.set .refl (by decide), ?_⟩
        repeat walk_at "v"
        refine and_t rfl ?_
        rcases hnm with rfl | rfl
        · refine ve_callR rfl (.head _) (Z.ns _ _ hf) ?_
          walk_at "c"
          repeat walk_at "v"
          refine ⟨d, rfl, hdm, fun _ h => h, ?_⟩
          rintro _ rfl
          exact fz_p ⟨_, rfl, rfl⟩
        · refine ve_callR rfl (.tail _ (.head _)) (Z.ns _ _ hf) ?_
          walk_at "c"
          repeat walk_at "v"
          refine ⟨d, rfl, hdm, fun _ h => h, ?_⟩
          rintro _ rfl
          exact fz_p ⟨_, rfl, rfl⟩
      rw [fm_some]
      repeat walk_at "v"
      refine vc_all rfl ?_
      refine ⟨rfl, ?_⟩
      rw [List.all_map]
      show D.bl (ds.all (id ∘ highB nm)) = D.bl (decide ((ds.length : Int) ≤ m) && ds.all (highB nm))
      rw [show decide ((ds.length : Int) ≤ m) = true from h1, Bool.true_and]
      rfl
    · refine ⟨rfl, ?_⟩
      show D.bl false = D.bl (decide ((ds.length : Int) ≤ m) && ds.all (highB nm))
      rw [show decide ((ds.length : Int) ≤ m) = false from h1, Bool.false_and]
  all_goals
    repeat walk_at "v"
    exact and_f rfl ⟨rfl, rfl⟩
end
abbrev s_is_shop : Stmt := topS 27
abbrev N_is_shop : List Str := ["found", "wares", "wants", "names", "ware", "want", "part"]
theorem sc_is_shop : FnScope N_is_shop ["found"] (defScope s_is_shop) := ⟨rfl, rfl, rfl, by decide +kernel, rfl, by decide +kernel, by decide +kernel⟩
section
variable {P : Program} {w : World} {K : PySem.W.Frag} {mg : Str → Option Value} {base : Heap}
abbrev sp_is_shop (K : PySem.W.Frag) : Sp := SpA K (Gd K) false (fun d : D => [d]) (fun d => Any d) (fun d e => e = .bl (shopB d)) noRs
theorem c_is_shop (Dn : Dfn K mg "is_shop" s_is_shop ["found"]) (Z : Glb K mg w) (C_are_unlike : Cal P w K mg base 1 "are_unlike" (sp_are_unlike K) []) (C_are_all_high : Cal P w K mg base 6 "are_all" (sp_are_all_high K) []) (C_is_want : Cal P w K mg base 3 "is_want" (sp_is_want K) []) (C_is_ware : Cal P w K mg base 5 "is_ware" (sp_is_ware K) []) : Cal P w K mg base 7 "is_shop" (sp_is_shop K) [] := by
  obtain ⟨f, fd, F, hm, hb⟩ := Dn.ex
  refine ⟨f, fd, ["found"], [], ?_, hm, F.kp, hb, .nil⟩
  refine F.ok sc_is_shop (fun vs H Q E h => spA_len (fun _ => rfl) h) (fun cdv A outer s H vs Q E hr h => ?_)
  refine ⟨_, (pss_cons (ps_if ((pw_or (pt_not (pt_val (pe_callB call_isi (by rfl) Z.b_isinstance (by decide +kernel) (pa_cons (pv 0) (pa_cons (pe_bltn (v := .ty "tuple") (by rfl) Z.b_tuple (show bootBuiltins "tuple" = some (.type "tuple") by decide +kernel) rfl) pa_nil))))) (pw_or1 (pt_cmpR op_ne (pe_callB call_len_seq (by rfl) Z.b_len PySem.boot_len (pa_cons (pv 0) pa_nil)) pe_int (nomark _))))).pt
    (pss_one (ps_ret pe_bl))
    pss_nil)
    (pss_cons (ps_asg (pv 0) (pg_tup rfl (pgs_cons (pg_name (i := 1) sc_is_shop.nd rfl (.inl rfl)) (pgs_cons (pg_name (i := 2) sc_is_shop.nd rfl (.inl rfl)) pgs_nil))))
    (pss_cons (ps_if ((pw_or (pt_not (pt_val (pe_c C_are_all_high hr (by first | decide | omega) (by rfl) (pa_cons (pv 1) (pa_cons (pe_gc (by rfl) Z.c_MOST_WARES) (pa_cons (pe_def (by rfl)) pa_nil)))))) (pw_or (pt_cmpR op_eq (pe_callB call_len_seq (by rfl) Z.b_len PySem.boot_len (pa_cons (pv 1) pa_nil)) pe_int (nomark _)) (pw_or1 (pt_not (pt_val (pe_c C_are_all_high hr (by first | decide | omega) (by rfl) (pa_cons (pv 2) (pa_cons (pe_gc (by rfl) Z.c_MOST_WANTS) (pa_cons (pe_def (by rfl)) pa_nil)))))))))).pt
    (pss_one (ps_ret pe_bl))
    pss_nil)
    (pss_cons (ps_set (i := 3) sc_is_shop.nd rfl (.inr rfl) (pe_lc (own := [("ware", 4)]) rfl sc_is_shop.nd (pi_tup (pv 1)) (blkOk_by (N := N_is_shop) (sc := defScope s_is_shop) (by decide +kernel)) (fun _ _ _ _ _ => (pg_name (i := 4) sc_is_shop.nd rfl (.inl rfl))) (fun _ _ _ _ _ => pts_nil) (fun _ _ _ _ _ => (pe_ix (show IxR _ (rIxT K) from ix_tup) (pv 4) pe_int (fun _ _ => rfl)))))
    (pss_cons (ps_if ((pw_or (pt_not (pt_val (pe_c C_are_unlike hr (by first | decide | omega) (by rfl) (pa_cons (pv 3) pa_nil)))) (pw_or1 (pt_not (pt_val (pe_callB (cr_all rfl) (by rfl) Z.b_all (by decide +kernel) (pa_cons (pe_lc (own := [("want", 5)]) rfl sc_is_shop.nd (pi_tup (pv 2)) (blkOk_by (N := N_is_shop) (sc := defScope s_is_shop) (by decide +kernel)) (fun _ _ _ _ _ => (pg_name (i := 5) sc_is_shop.nd rfl (.inl rfl))) (fun _ _ _ _ _ => pts_nil) (fun _ _ _ _ _ => (pe_cmpR (show OpR _ _ (rIn K false) from op_in_seq) (pe_ix (show IxR _ (rIxT K) from ix_tup) (pv 5) pe_int (fun _ _ => rfl)) (pv 3) (by rfl)))) pa_nil))))))).pt
    (pss_one (ps_ret pe_bl))
    pss_nil)
    (pss_one (ps_ret (pe_callB (cr_all rfl) (by rfl) Z.b_all (by decide +kernel) (pa_cons (pe_lc (own := [("ware", 4)]) rfl sc_is_shop.nd (pi_tup (pv 1)) (blkOk_by (N := N_is_shop) (sc := defScope s_is_shop) (by decide +kernel)) (fun _ _ _ _ _ => (pg_name (i := 4) sc_is_shop.nd rfl (.inl rfl))) (fun _ _ _ _ _ => pts_nil) (fun _ _ _ _ _ => (pe_callB (show CallR _ _ (rAll K) from (cr_all rfl)) (by rfl) Z.b_all (by decide +kernel) (pa_cons (pe_lc (own := [("part", 6)]) rfl sc_is_shop.nd (show PI _ _ _ (iTup K _) from pi_tup (pe_ix (show IxR _ (rIxT K) from ix_tup) (pv 4) pe_int (fun _ _ => rfl))) (blkOk_by (by kernel_rfl)) (fun _ _ _ _ _ => (pg_name (i := 6) sc_is_shop.nd rfl (.inl rfl))) (fun _ _ _ _ _ => pts_nil) (fun _ _ _ _ _ => (pe_cmpR (show OpR _ _ (rIn K false) from op_in_seq) (pe_ix (show IxR _ (rIxT K) from ix_tup) (pv 6) pe_int (fun _ _ => rfl)) (pv 3) (by rfl)))) pa_nil)))) pa_nil))))))))), ?_⟩
  try dsimp only [cxOf, Cx.nox, Cx.wish]
  refine run_def (N := N_is_shop) (fun _ => Nat.le_of_ble_eq_true rfl) (env0 := fun d : D => [.p d, .u, .u, .u, .u, .u, .u]) (fun _ => rfl) (fun B d hp L => ?_) h
  refine vs_seq ?_
  refine vs_if ?_
  cases hp
  case tup ds hl hall =>
    repeat walk_at "v"
    refine and_f rfl ?_
    repeat walk_at "v"
    by_cases h2 : ds.length = 2
    · refine and_f (by rw [h2]; rfl) ?_
      obtain ⟨ws, vs, rfl⟩ : ∃ a b, ds = [a, b] := by
        match ds, h2 with
        | [a, b], _ => exact ⟨a, b, rfl⟩
      have ha := hall ws (by simp)
      have hb := hall vs (by simp)
      repeat walk_at "v"
      refine vs_if ?_
      repeat walk_at "v"
      walk_at "c"
      repeat walk_at "v"
      obtain ⟨kf, hkf⟩ := Z.d_is_ware
      refine ve_def ⟨kf, Z.ns _ _ hkf, ?_⟩
      repeat walk_at "v"
      refine ⟨(ws, 12, "is_ware", kf), rfl, ⟨ha, .inl rfl, hkf⟩, fun _ h => h, ?_⟩
      rintro _ rfl
      repeat walk_at "v"
      rw [show highB "is_ware" = wareB from if_pos rfl]
      cases n1 : allB wareB 12 ws with
      | false =>
        refine and_t rfl ?_
        try refine and_t rfl ?_
        repeat walk_at "v"
        exact ⟨rfl, by rw [badS_wares n1]⟩
      | true =>
        obtain ⟨wl, rfl, hwl, hwb⟩ := all_tup n1
        refine and_f rfl ?_
        repeat walk_at "v"
        cases n2 : wl.isEmpty with
        | true =>
          have e : wl = [] := List.isEmpty_iff.mp n2
          subst e
          refine and_t rfl ?_
          try refine and_t rfl ?_
          repeat walk_at "v"
          exact ⟨rfl, by rw [badS_none rfl]⟩
        | false =>
          have hne : 0 < wl.length := by
            cases wl with
            | nil => cases n2
            | cons a b => exact Nat.succ_pos _
          refine and_f (decide_eq_false (by omega)) ?_
          repeat walk_at "v"
          walk_at "c"
          repeat walk_at "v"
          obtain ⟨kg, hkg⟩ := Z.d_is_want
          refine ve_def ⟨kg, Z.ns _ _ hkg, ?_⟩
          repeat walk_at "v"
          refine ⟨(vs, 20, "is_want", kg), rfl, ⟨hb, .inr rfl, hkg⟩, fun _ h => h, ?_⟩
          rintro _ rfl
          repeat walk_at "v"
          rw [show highB "is_want" = wantB from if_neg (by decide)]
          cases n3 : allB wantB 20 vs with
          | false =>
            refine and_t rfl ?_
            try refine and_t rfl ?_
            repeat walk_at "v"
            exact ⟨rfl, by rw [badS_wants n3]⟩
          | true =>
            obtain ⟨vl, rfl, hvl, hvb⟩ := all_tup n3
            refine and_f rfl ?_
            repeat walk_at "v"
            refine ve_lcT (xs := wl) (g := id) (h := D.str) (fun d => some (headS d)) (hu1 rfl) (only_name (by decide)) (vi_tup ?_)
            repeat walk_at "v"
            refine ⟨_, rfl, (List.map_id _).symm, by omega, fun q k d hdk => ?_, ?_⟩
            · obtain ⟨z, b, c, e, f, g, ps, rfl, _⟩ := ware_shape (hwb d (List.mem_of_getElem? hdk))
              repeat walk_at "v"
              refine ⟨.set .refl (by decide), ?_⟩
              repeat walk_at "v"
              refine and_t rfl ?_
              repeat walk_at "v"
              refine vo_ixT (d := .str z) (atI_nat (j := 0) rfl) ?_
              exact fz_p ⟨_, rfl, rfl⟩
            rw [fm_some]
            repeat walk_at "v"
            refine vs_frz 3 (.inr rfl) ?_
            refine vs_if ?_
            repeat walk_at "v"
            walk_at "c"
            repeat walk_at "v"
            refine ⟨(wl.map headS), rfl, (by show (wl.map headS).length ≤ 1000; rw [List.length_map]; omega), fun _ h => h, ?_⟩
            rintro _ rfl
            repeat walk_at "v"
            cases n4 : decide (wl.map headS).Nodup with
            | false =>
              refine and_t rfl ?_
              try refine and_t rfl ?_
              repeat walk_at "v"
              exact ⟨rfl, congrArg D.bl (badS_unlike (ws := .tup wl) (vs := .tup vl) n4).symm⟩
            | true =>
              refine and_f rfl ?_
              repeat walk_at "v"
              refine ve_lcT (xs := vl) (g := id) (h := D.bl) (fun d => some (decide (headS d ∈ wl.map headS))) (hu1 rfl) (only_name (by decide)) (vi_tup ?_)
              repeat walk_at "v"
              refine ⟨_, rfl, (List.map_id _).symm, by omega, fun q k d hdk => ?_, ?_⟩
              · obtain ⟨z, b, c, rfl⟩ := want_shape (hvb d (List.mem_of_getElem? hdk))
                repeat walk_at "v"
                refine ⟨.set .refl (by decide), ?_⟩
                repeat walk_at "v"
                refine and_t rfl ?_
                repeat walk_at "v"
                refine vo_ixT (d := .str z) (atI_nat (j := 0) rfl) ?_
                repeat walk_at "v"
                refine vo_inS rfl ?_
                exact fz_p ⟨_, rfl, rfl⟩
              rw [fm_some]
              repeat walk_at "v"
              refine vc_all rfl ?_
              rw [List.all_map]
              repeat walk_at "v"
              have e5 : vl.all (id ∘ fun d => decide (headS d ∈ wl.map headS)) = inB (wl.map headS) vl := rfl
              rw [e5]
              cases n5 : inB (wl.map headS) vl with
              | false =>
                refine and_t rfl ?_
                repeat walk_at "v"
                exact ⟨rfl, congrArg D.bl (badS_want (ws := .tup wl) (vs := .tup vl) n5).symm⟩
              | true =>
                refine and_f rfl ?_
                repeat walk_at "v"
                refine ve_lcT (xs := wl) (g := id) (h := D.bl) (fun d => some (inB (wl.map headS) (partsD d))) (hu1 rfl) (only_name (by decide)) (vi_tup ?_)
                repeat walk_at "v"
                refine ⟨_, rfl, (List.map_id _).symm, by omega, fun q k d hdk => ?_, ?_⟩
                · obtain ⟨z, b, c, e, f, g, ps, rfl, hps, hpb⟩ := ware_shape (hwb d (List.mem_of_getElem? hdk))
                  repeat walk_at "v"
                  refine ⟨.set .refl (by decide), ?_⟩
                  repeat walk_at "v"
                  refine and_t rfl ?_
                  repeat walk_at "v"
                  refine ve_lcT (xs := ps) (g := id) (h := D.bl) (fun p => some (decide (headS p ∈ wl.map headS))) (hu1 rfl) (only_name (by decide)) (vi_tup ?_)
                  repeat walk_at "v"
                  refine vo_ixT (ds := [D.str z, b, c, e, f, g, D.tup ps]) (d := .tup ps) (atI_nat (j := 6) rfl) ?_
                  refine ⟨_, rfl, (List.map_id _).symm, by omega, fun q k p hpk => ?_, ?_⟩
                  · obtain ⟨y, w, rfl⟩ := part_head (hpb p (List.mem_of_getElem? hpk))
                    repeat walk_at "v"
                    refine ⟨.set .refl (by decide), ?_⟩
                    repeat walk_at "v"
                    refine and_t rfl ?_
                    repeat walk_at "v"
                    refine vo_ixT (ds := [D.str y, w]) (d := .str y) (atI_nat (j := 0) rfl) ?_
                    repeat walk_at "v"
                    refine vo_inS rfl ?_
                    exact fz_p ⟨_, rfl, rfl⟩
                  rw [fm_some]
                  repeat walk_at "v"
                  refine vc_all rfl ?_
                  rw [List.all_map]
                  exact fz_p ⟨_, rfl, rfl⟩
                rw [fm_some]
                repeat walk_at "v"
                refine vc_all rfl ?_
                rw [List.all_map]
                refine ⟨rfl, congrArg D.bl ?_⟩
                rw [shopB_eq, n1, n3]
                rw [show unlikeB (.tup wl) = true from n4, show inB ((dsOf (.tup wl)).map headS) (dsOf (.tup vl)) = true from n5, show (dsOf (.tup wl)).isEmpty = false from n2]
                rfl
    · refine and_t (by
        have : decide (((ds.length : Nat) : Int) = 2) = false := decide_eq_false (by omega)
        rw [this]
        rfl) ?_
      repeat walk_at "v"
      exact ⟨rfl, by rw [shop_not ds h2]⟩
  all_goals
    repeat walk_at "v"
    refine and_t rfl ?_
    refine and_t rfl ?_
    repeat walk_at "v"
    exact ⟨rfl, rfl⟩
end
abbrev s_pairs_of : Stmt := topS 34
abbrev N_pairs_of : List Str := ["rows", "word", "name", "row"]
theorem sc_pairs_of : FnScope N_pairs_of ["rows", "word", "name"] (defScope s_pairs_of) := ⟨rfl, rfl, rfl, by decide +kernel, rfl, by decide +kernel, by decide +kernel⟩
def pairsD (b : Bool) (nm : Str) (rs : List RowV) : D := if b then .tup ((partsV nm rs).map partD) else .tup ((comsV nm rs).map pairD)
def pairW (b : Bool) : Str := if b then "part" else "coming"
def pair? (b : Bool) (nm : Str) (r : RowV) : Option D := if b then (RowV.part? nm r).map partD else (RowV.com? nm r).map pairD
theorem pairs_fm (b : Bool) (nm : Str) (rs : List RowV) : D.tup ((rs.filterMap (pair? b nm)).map id) = pairsD b nm rs := by
  rw [List.map_id]
  cases b with
  | true =>
    show D.tup (rs.filterMap fun r => (RowV.part? nm r).map partD) = D.tup ((rs.filterMap (RowV.part? nm)).map partD)
    rw [List.map_filterMap]
  | false =>
    show D.tup (rs.filterMap fun r => (RowV.com? nm r).map pairD) = D.tup ((rs.filterMap (RowV.com? nm)).map pairD)
    rw [List.map_filterMap]
section
variable {P : Program} {w : World} {K : PySem.W.Frag} {mg : Str → Option Value} {base : Heap}
abbrev sp_pairs_of (K : PySem.W.Frag) : Sp := SpA K (Gd K) false (fun x : List RowV × Bool × Str => [.lst (x.1.map RowV.d), .str (pairW x.2.1), .str x.2.2]) (fun x => x.1.length ≤ 1000) (fun x d => d = pairsD x.2.1 x.2.2 x.1) noRs
theorem c_pairs_of (Dn : Dfn K mg "pairs_of" s_pairs_of ["rows", "word", "name"]) (Z : Glb K mg w)  : Cal P w K mg base 1 "pairs_of" (sp_pairs_of K) [] := by
  obtain ⟨f, fd, F, hm, hb⟩ := Dn.ex
  refine ⟨f, fd, ["rows", "word", "name"], [], ?_, hm, F.kp, hb, .nil⟩
  refine F.ok sc_pairs_of (fun vs H Q E h => spA_len (fun _ => rfl) h) (fun cdv A outer s H vs Q E hr h => ?_)
  refine ⟨_, (pss_one (ps_ret (pe_callTy call_tuple_of (by rfl) Z.b_tuple (by decide +kernel) (pa_cons (pe_lc (own := [("row", 3)]) rfl sc_pairs_of.nd (pi_list (pv 0)) (blkOk_by (N := N_pairs_of) (sc := defScope s_pairs_of) (by decide +kernel)) (fun _ _ _ _ _ => (pg_name (i := 3) sc_pairs_of.nd rfl (.inl rfl))) (fun _ _ _ _ _ => (pts_one ((pw_and (pt_cmpR op_eq (pe_ix (show IxR _ (rIxL K) from ix_list) (pv 3) pe_int (fun _ _ => rfl)) (pv 1) (nomark _)) (pw_and1 (pt_cmpR op_eq (pe_ix (show IxR _ (rIxL K) from ix_list) (pv 3) pe_int (fun _ _ => rfl)) (pv 2) (nomark _))))).pt)) (fun _ _ _ _ _ => (pe_tup (pa_cons (pe_ix (show IxR _ (rIxL K) from ix_list) (pv 3) pe_int (fun _ _ => rfl)) (pa_cons (pe_ix (show IxR _ (rIxL K) from ix_list) (pv 3) pe_int (fun _ _ => rfl)) pa_nil))))) pa_nil)))), ?_⟩
  try dsimp only [cxOf, Cx.nox, Cx.wish]
  refine run_def (N := N_pairs_of) (fun _ => Nat.le_of_ble_eq_true rfl) (env0 := fun x : List RowV × Bool × Str => [.p (.lst (x.1.map RowV.d)), .p (.str (pairW x.2.1)), .p (.str x.2.2), .u]) (fun _ => rfl) (fun B x hp L => ?_) h
  obtain ⟨rs, b, nm⟩ := x
  dsimp only at hp ⊢
  repeat walk_at "v"
  refine ve_lcT (xs := rs) (g := RowV.d) (h := id) (pair? b nm) (hu1 rfl) (only_name (by decide)) (vi_l ?_)
  repeat walk_at "v"
  refine ⟨_, rfl, rfl, by omega, fun q i r hr => ?_, ?_⟩
  · repeat walk_at "v"
    refine ⟨.set .refl (by decide), ?_⟩
    cases r with
    | ware x a b' c d =>
      repeat walk_at "v"
      refine vo_ixL (d := .str "ware") rfl (atI_nat (j := 0) rfl) ?_
      repeat walk_at "v"
      refine and_f (by cases b <;> decide) ?_
      refine and_f rfl ?_
      cases b <;> rfl
    | want x a d =>
      repeat walk_at "v"
      refine vo_ixL (d := .str "want") rfl (atI_nat (j := 0) rfl) ?_
      repeat walk_at "v"
      refine and_f (by cases b <;> decide) ?_
      refine and_f rfl ?_
      cases b <;> rfl
    | coming x a d =>
      repeat walk_at "v"
      refine vo_ixL (d := .str "coming") rfl (atI_nat (j := 0) rfl) ?_
      repeat walk_at "v"
      cases b with
      | true =>
        refine and_f (by decide) ?_
        exact and_f rfl rfl
      | false =>
        refine and_t (by decide) ?_
        repeat walk_at "v"
        refine vo_ixL (d := .str x) rfl (atI_nat (j := 1) rfl) ?_
        repeat walk_at "v"
        refine ⟨fun hb => ?_, fun hb => ?_⟩
        · have e := of_decide_eq_true hb
          repeat walk_at "v"
          refine vo_ixL (d := .int a) rfl (atI_nat (j := 2) rfl) ?_
          repeat walk_at "v"
          refine vo_ixL (d := .int d) rfl (atI_nat (j := 3) rfl) ?_
          repeat walk_at "v"
          refine ⟨_, rfl, ?_⟩
          show (if x = nm then some (a, d) else none : Option (Int × Int)).map pairD = _
          rw [if_pos e]
          rfl
        · have e := of_decide_eq_false hb
          show (if x = nm then some (a, d) else none : Option (Int × Int)).map pairD = _
          rw [if_neg e]
          rfl
    | part x p a =>
      repeat walk_at "v"
      refine vo_ixL (d := .str "part") rfl (atI_nat (j := 0) rfl) ?_
      repeat walk_at "v"
      cases b with
      | false =>
        refine and_f (by decide) ?_
        exact and_f rfl rfl
      | true =>
        refine and_t (by decide) ?_
        repeat walk_at "v"
        refine vo_ixL (d := .str x) rfl (atI_nat (j := 1) rfl) ?_
        repeat walk_at "v"
        refine ⟨fun hb => ?_, fun hb => ?_⟩
        · have e := of_decide_eq_true hb
          repeat walk_at "v"
          refine vo_ixL (d := .str p) rfl (atI_nat (j := 2) rfl) ?_
          repeat walk_at "v"
          refine vo_ixL (d := .int a) rfl (atI_nat (j := 3) rfl) ?_
          repeat walk_at "v"
          refine ⟨_, rfl, ?_⟩
          show (if x = nm then some (p, a) else none : Option (Str × Int)).map partD = _
          rw [if_pos e]
          rfl
        · have e := of_decide_eq_false hb
          show (if x = nm then some (p, a) else none : Option (Str × Int)).map partD = _
          rw [if_neg e]
          rfl
  repeat walk_at "v"
  rw [pairs_fm]
  exact ⟨rfl, rfl⟩
end
abbrev s_read_shop : Stmt := topS 35
abbrev N_read_shop : List Str := ["text", "rows", "names", "wares", "row", "coming", "shop"]
theorem sc_read_shop : FnScope N_read_shop ["text"] (defScope s_read_shop) := ⟨rfl, rfl, rfl, by decide +kernel, rfl, by decide +kernel, by decide +kernel⟩
section
variable {P : Program} {w : World} {K : PySem.W.Frag} {mg : Str → Option Value} {base : Heap}
abbrev sp_read_shop (K : PySem.W.Frag) : Sp := SpA K (Gd K) false (fun rs : List RowV => [.str (textOf rs)]) (fun rs => rs ≠ [] ∧ rs.length ≤ 250 ∧ (∀ r ∈ rs, r.ok) ∧ (∀ r ∈ rs, r.nm ∈ headsV rs) ∧ shopB (shopD (shopOf rs)) = true) (fun rs d => d = shopD (shopOf rs)) noRs
theorem c_read_shop (Dn : Dfn K mg "read_shop" s_read_shop ["text"]) (Z : Glb K mg w) (C_is_shop : Cal P w K mg base 7 "is_shop" (sp_is_shop K) []) (C_pairs_of : Cal P w K mg base 1 "pairs_of" (sp_pairs_of K) []) (C_read_row : Cal P w K mg base 2 "read_row" (sp_read_row K) []) : Cal P w K mg base 8 "read_shop" (sp_read_shop K) [] := by
  obtain ⟨f, fd, F, hm, hb⟩ := Dn.ex
  refine ⟨f, fd, ["text"], [], ?_, hm, F.kp, hb, .nil⟩
  refine F.ok sc_read_shop (fun vs H Q E h => spA_len (fun _ => rfl) h) (fun cdv A outer s H vs Q E hr h => ?_)
  refine ⟨_, (pss_cons (ps_if (pt_not (pt_val (pe_callB call_isi (by rfl) Z.b_isinstance (by decide +kernel) (pa_cons (pv 0) (pa_cons (pe_bltn (v := .ty "str") (by rfl) Z.b_str (show bootBuiltins "str" = some (.type "str") by decide +kernel) rfl) pa_nil)))))
    (pss_one ps_dead)
    pss_nil)
    (pss_cons (ps_setLc (i := 1) (own := [("row", 4)]) rfl sc_read_shop.nd rfl rfl (sw_true rfl rfl rfl (by decide +kernel)) (pi_list (pe_split (pv 0) pe_str)) (blkOk_by (N := N_read_shop) (sc := defScope s_read_shop) (by decide +kernel)) (fun _ _ _ _ _ => (pg_name (i := 4) sc_read_shop.nd rfl (.inl rfl))) (fun _ _ _ _ _ => pts_nil) (fun _ _ _ _ _ => (pe_c C_read_row hr (by first | decide | omega) (by rfl) (pa_cons (pv 4) pa_nil))))
    (pss_cons (ps_setLc (i := 2) (own := [("row", 4)]) rfl sc_read_shop.nd rfl rfl (sw_true rfl rfl rfl (by decide +kernel)) (pi_list (pv 1)) (blkOk_by (N := N_read_shop) (sc := defScope s_read_shop) (by decide +kernel)) (fun _ _ _ _ _ => (pg_name (i := 4) sc_read_shop.nd rfl (.inl rfl))) (fun _ _ _ _ _ => (pts_one (pt_cmpR op_eq (pe_ix (show IxR _ (rIxL K) from ix_list) (pv 4) pe_int (fun _ _ => rfl)) pe_str (nomark _)))) (fun _ _ _ _ _ => (pe_ix (show IxR _ (rIxL K) from ix_list) (pv 4) pe_int (fun _ _ => rfl))))
    (pss_cons (ps_set (i := 3) sc_read_shop.nd rfl (.inl rfl) (pe_lst pa_nil))
    (pss_cons (ps_for PassesOwn.never rfl (pi_list (pv 1)) (pg_name (i := 4) sc_read_shop.nd rfl (.inl rfl))
    (pss_one (ps_if (pt_cmpR op_eq (pe_ix ix_list (pv 4) pe_int (fun _ _ => rfl)) pe_str (nomark _))
      (pss_cons (ps_set (i := 5) sc_read_shop.nd rfl (.inl rfl) (pe_c C_pairs_of hr (by first | decide | omega) (by rfl) (pa_cons (pv 1) (pa_cons pe_str (pa_cons (pe_ix ix_list (pv 4) pe_int (fun _ _ => rfl)) pa_nil)))))
        (pss_one (ps_expr (pe_bm PySem.F.plainAttrs_list PySem.F.slot_list_append PySem.F.type_list_append mt_append (pv 3) (pa_cons (pe_op op_catA (pe_callTy call_tuple_of (by rfl) Z.b_tuple (by decide +kernel) (pa_cons (pe_slice sl_list (pv 4) (po_some pe_int) po_none) pa_nil)) (pe_tup (pa_cons (pv 5) (pa_cons (pe_c C_pairs_of hr (by first | decide | omega) (by rfl) (pa_cons (pv 1) (pa_cons pe_str (pa_cons (pe_ix ix_list (pv 4) pe_int (fun _ _ => rfl)) pa_nil)))) pa_nil)))) pa_nil)))))
      (pss_one (ps_if (pt_cmpR op_notIn_seq (pe_ix ix_list (pv 4) pe_int (fun _ _ => rfl)) (pv 2) (by rfl))
        (pss_one ps_dead)
        pss_nil)))))
    (pss_cons (ps_set (i := 6) sc_read_shop.nd rfl (.inl rfl) (pe_tup (pa_cons (pe_callTy call_tuple_of (by rfl) Z.b_tuple (by decide +kernel) (pa_cons (pv 3) pa_nil)) (pa_cons (pe_callTy call_tuple_of (by rfl) Z.b_tuple (by decide +kernel) (pa_cons (pe_lc (own := [("row", 4)]) rfl sc_read_shop.nd (pi_list (pv 1)) (blkOk_by (N := N_read_shop) (sc := defScope s_read_shop) (by decide +kernel)) (fun _ _ _ _ _ => (pg_name (i := 4) sc_read_shop.nd rfl (.inl rfl))) (fun _ _ _ _ _ => (pts_one (pt_cmpR op_eq (pe_ix (show IxR _ (rIxL K) from ix_list) (pv 4) pe_int (fun _ _ => rfl)) pe_str (nomark _)))) (fun _ _ _ _ _ => (pe_callTy (show CallR _ _ (fun xs H Q => ∃ p ys, xs = [.ref p] ∧ ((SqL K H p ys ∧ ∀ l, H l = none → Q (.ref l) (upd H l (.tup ys))) ∨ (SqT K H p ys ∧ Q (.ref p) H))) from call_tuple_of) (by rfl) Z.b_tuple (by decide +kernel) (pa_cons (pe_slice (show SlR _ (rSlL K) from sl_list) (pv 4) (po_some pe_int) po_none) pa_nil)))) pa_nil)) pa_nil))))
    (pss_cons (ps_if (pt_not (pt_val (pe_c C_is_shop hr (by first | decide | omega) (by rfl) (pa_cons (pv 6) pa_nil))))
    (pss_one ps_dead)
    pss_nil)
    (pss_one (ps_ret (pv 6)))))))))), ?_⟩
  try dsimp only [cxOf, Cx.nox, Cx.wish]
  refine run_def (N := N_read_shop) (fun _ => Nat.le_of_ble_eq_true rfl) (env0 := fun rs : List RowV => [.p (.str (textOf rs)), .u, .u, .u, .u, .u, .u]) (fun _ => rfl) (fun B rs hp L => ?_) h
  obtain ⟨hne, hl, hok, hnm, hsh⟩ := hp
  have htl := text_len hok
  have hsp := split_text hne hok
  refine vs_seq ?_
  refine vs_if ?_
  repeat walk_at "v"
  refine and_f rfl ?_
  refine vs_next ?_
  refine vs_seq ?_
  refine vs_asg ?_
  refine ve_lcT (xs := rs) (g := fun r => .str (RowV.line r)) (h := RowV.d) (fun r => some r) (hu1 rfl) (only_name (by decide)) (vi_l ?_)
  refine ve_split ?_
  repeat walk_at "v"
  refine ⟨_, rfl, ?_⟩
  repeat walk_at "v"
  refine ⟨_, rfl, by decide, by omega, ?_⟩
  rw [hsp]
  refine fz_o ⟨_, rfl, by rw [List.map_map]; rfl, by omega, fun q i r hr => ?_, ?_⟩
  · have hrm := List.mem_of_getElem? hr
    have hll := line_len (hok r hrm)
    repeat walk_at "v"
    refine ⟨.set .refl (by decide), ?_⟩
    repeat walk_at "v"
    refine and_t rfl ?_
    walk_at "c"
    repeat walk_at "v"
    refine ⟨(r.line, r.ds), rfl, ⟨by show r.line.length ≤ 50000; omega, by show parseRow (Txt.split r.line " ") = _; rw [split_line (hok r hrm)]; exact parse_words (hok r hrm)⟩, fun _ h => h, ?_⟩
    rintro _ rfl
    exact fz_p ⟨r, rfl, rfl⟩
  rw [fm_some, List.map_id']
  refine vg_o (Nat.le_of_ble_eq_true rfl) ?_
  refine vs_frz 1 (.inr rfl) ?_
  refine vs_seq ?_
  refine vs_asg ?_
  refine ve_lcT (xs := rs) (g := RowV.d) (h := D.str) RowV.head? (hu1 rfl) (only_name (by decide)) (vi_l ?_)
  repeat walk_at "v"
  refine ⟨_, rfl, rfl, by omega, fun q i r hr => ?_, ?_⟩
  · repeat walk_at "v"
    refine ⟨.set .refl (by decide), ?_⟩
    cases r with
    | ware x a b c d =>
      repeat walk_at "v"
      refine vo_ixL (d := .str "ware") rfl (atI_nat (j := 0) rfl) ?_
      repeat walk_at "v"
      refine and_t (by decide) ?_
      repeat walk_at "v"
      refine vo_ixL (d := .str x) rfl (atI_nat (j := 1) rfl) ?_
      exact fz_p ⟨_, rfl, rfl⟩
    | coming x a d =>
      repeat walk_at "v"
      refine vo_ixL (d := .str "coming") rfl (atI_nat (j := 0) rfl) ?_
      repeat walk_at "v"
      exact and_f (by decide) rfl
    | part x a d =>
      repeat walk_at "v"
      refine vo_ixL (d := .str "part") rfl (atI_nat (j := 0) rfl) ?_
      repeat walk_at "v"
      exact and_f (by decide) rfl
    | want x a d =>
      repeat walk_at "v"
      refine vo_ixL (d := .str "want") rfl (atI_nat (j := 0) rfl) ?_
      repeat walk_at "v"
      exact and_f (by decide) rfl
  refine vg_o (Nat.le_of_ble_eq_true rfl) ?_
  refine vs_frz 2 (.inr rfl) ?_
  repeat walk_at "v"
  refine vs_for (vi_l ?_)
  repeat walk_at "v"
  refine ⟨_, rfl, fun i e => ∃ (x4 x5 : Slot), e = [.p (.str (textOf rs)), .p (.lst (rs.map RowV.d)), .p (.lst ((headsV rs).map D.str)), .mu (.lst (((rs.take i).filterMap (RowV.ware? rs)).map wareD)), x4, x5, .u], ⟨_, _, rfl⟩, ?_, ?_⟩
  · rintro i d e hi ⟨x4, x5, rfl⟩
    obtain ⟨r, hr, rfl⟩ := map_get hi
    have hrm := List.mem_of_getElem? hr
    have hrn := hnm r hrm
    have hfl : ((rs.take i).filterMap (RowV.ware? rs)).length ≤ 250 := Nat.le_trans (List.length_filterMap_le _ _) (by rw [List.length_take]; omega)
    have hstep : (rs.take (i + 1)).filterMap (RowV.ware? rs) = (rs.take i).filterMap (RowV.ware? rs) ++ (RowV.ware? rs r).toList := by
      rw [take_one hr, List.filterMap_append]
      cases e : RowV.ware? rs r <;> simp [e]
    cases r with
    | ware x a b c d =>
      repeat walk_at "v"
      refine vs_if ?_
      repeat walk_at "v"
      refine vo_ixL (d := .str "ware") rfl (atI_nat (j := 0) rfl) ?_
      repeat walk_at "v"
      refine and_t (by decide) ?_
      repeat walk_at "v"
      walk_at "c"
      repeat walk_at "v"
      refine vo_ixL (d := .str x) rfl (atI_nat (j := 1) rfl) ?_
      repeat walk_at "v"
      refine ⟨(rs, false, x), rfl, by show rs.length ≤ 1000; omega, fun _ h => h, ?_⟩
      rintro _ rfl
      repeat walk_at "v"
      walk_at "c"
      repeat walk_at "v"
      refine vo_ixL (d := .str x) rfl (atI_nat (j := 1) rfl) ?_
      repeat walk_at "v"
      refine ⟨(rs, true, x), rfl, by show rs.length ≤ 1000; omega, fun _ h => h, ?_⟩
      rintro _ rfl
      repeat walk_at "v"
      refine vo_catA (by show 5 + 2 ≤ 100000; decide) ?_
      refine fz_p ⟨_, rfl, by rw [List.length_map]; omega, ?_⟩
      dsimp only
      rw [hstep, List.map_append]
      exact ⟨_, _, rfl⟩
    | coming x a d =>
      repeat walk_at "v"
      refine vs_if ?_
      repeat walk_at "v"
      refine vo_ixL (d := .str "coming") rfl (atI_nat (j := 0) rfl) ?_
      repeat walk_at "v"
      refine and_f (by decide) ?_
      repeat walk_at "v"
      refine vs_if ?_
      repeat walk_at "v"
      refine vo_ixL (d := .str x) rfl (atI_nat (j := 1) rfl) ?_
      repeat walk_at "v"
      refine vo_notInS rfl ?_
      repeat walk_at "v"
      refine and_f (by rw [decide_eq_true (show x ∈ headsV rs from hrn)]; rfl) ?_
      repeat walk_at "v"
      dsimp only
      rw [hstep, show (RowV.ware? rs (RowV.coming x a d)).toList = [] from rfl, List.append_nil]
      exact ⟨_, _, rfl⟩
    | part x a d =>
      repeat walk_at "v"
      refine vs_if ?_
      repeat walk_at "v"
      refine vo_ixL (d := .str "part") rfl (atI_nat (j := 0) rfl) ?_
      repeat walk_at "v"
      refine and_f (by decide) ?_
      repeat walk_at "v"
      refine vs_if ?_
      repeat walk_at "v"
      refine vo_ixL (d := .str x) rfl (atI_nat (j := 1) rfl) ?_
      repeat walk_at "v"
      refine vo_notInS rfl ?_
      repeat walk_at "v"
      refine and_f (by rw [decide_eq_true (show x ∈ headsV rs from hrn)]; rfl) ?_
      repeat walk_at "v"
      dsimp only
      rw [hstep, show (RowV.ware? rs (RowV.part x a d)).toList = [] from rfl, List.append_nil]
      exact ⟨_, _, rfl⟩
    | want x a d =>
      repeat walk_at "v"
      refine vs_if ?_
      repeat walk_at "v"
      refine vo_ixL (d := .str "want") rfl (atI_nat (j := 0) rfl) ?_
      repeat walk_at "v"
      refine and_f (by decide) ?_
      repeat walk_at "v"
      refine vs_if ?_
      repeat walk_at "v"
      refine vo_ixL (d := .str x) rfl (atI_nat (j := 1) rfl) ?_
      repeat walk_at "v"
      refine vo_notInS rfl ?_
      repeat walk_at "v"
      refine and_f (by rw [decide_eq_true (show x ∈ headsV rs from hrn)]; rfl) ?_
      repeat walk_at "v"
      dsimp only
      rw [hstep, show (RowV.ware? rs (RowV.want x a d)).toList = [] from rfl, List.append_nil]
      exact ⟨_, _, rfl⟩
  · rintro e ⟨x4, x5, rfl⟩
    rw [List.length_map, List.take_length]
    refine vs_forget 4 (vs_frz 3 (.inr rfl) ?_)
    refine vs_seq ?_
    refine vs_asg ?_
    repeat walk_at "v"
    refine ve_lcT (xs := rs) (g := RowV.d) (h := wantD) RowV.want? (hu1 rfl) (only_name (by decide)) (vi_l ?_)
    repeat walk_at "v"
    refine ⟨_, rfl, rfl, by omega, fun q i r hr => ?_, ?_⟩
    · repeat walk_at "v"
      refine ⟨.set .refl (by decide), ?_⟩
      cases r with
      | want x a d =>
        repeat walk_at "v"
        refine vo_ixL (d := .str "want") rfl (atI_nat (j := 0) rfl) ?_
        repeat walk_at "v"
        refine and_t (by decide) ?_
        repeat walk_at "v"
        exact ⟨(x, a, d), rfl, rfl⟩
      | coming x a d =>
        repeat walk_at "v"
        refine vo_ixL (d := .str "coming") rfl (atI_nat (j := 0) rfl) ?_
        repeat walk_at "v"
        exact and_f (by decide) rfl
      | part x a d =>
        repeat walk_at "v"
        refine vo_ixL (d := .str "part") rfl (atI_nat (j := 0) rfl) ?_
        repeat walk_at "v"
        exact and_f (by decide) rfl
      | ware x a b c d =>
        repeat walk_at "v"
        refine vo_ixL (d := .str "ware") rfl (atI_nat (j := 0) rfl) ?_
        repeat walk_at "v"
        exact and_f (by decide) rfl
    repeat walk_at "v"
    refine vs_if ?_
    repeat walk_at "v"
    walk_at "c"
    repeat walk_at "v"
    refine ⟨(shopD (shopOf rs)), rfl, any_shopOf hok (by omega), fun _ h => h, ?_⟩
    rintro _ rfl
    repeat walk_at "v"
    rw [hsh]
    refine and_f rfl ?_
    repeat walk_at "v"
    exact ⟨rfl, rfl⟩
end
abbrev s__law_no_shop : Stmt := topS 47
abbrev N__law_no_shop : List Str := ["lines", "name", "x", "xs", "far", "way", "letters", "some", "letter", "k"]
theorem sc__law_no_shop : FnScope N__law_no_shop ["lines", "name", "x"] (defScope s__law_no_shop) := ⟨rfl, rfl, rfl, by decide +kernel, rfl, by decide +kernel, by decide +kernel⟩
theorem lines_more (rs es : List RowV) : ((rs.map RowV.words).map lineW).map D.str ++ es.map (fun r => D.str r.line) = (((rs ++ es).map RowV.words).map lineW).map D.str := by
  rw [List.map_append, List.map_append, List.map_append, List.map_map, List.map_map, List.map_map, List.map_map]
  rfl
theorem w_ware (a : Str) (b : Int) : (RowV.ware a b 1 0 0).words = (["ware", a, numT b, "1", "0", "0"] : List Str) := by show ([_, _, _, numT 1, numT 0, numT 0] : List Str) = _; rw [numT_one, numT_nought]
theorem w_ware0 (a : Str) : (RowV.ware a 0 1 0 0).words = (["ware", a, "0", "1", "0", "0"] : List Str) := by rw [w_ware, numT_nought]
theorem w_com (a : Str) (k : Int) : (RowV.coming a k 1).words = (["coming", a, numT k, "1"] : List Str) := by show ([_, _, _, numT 1] : List Str) = _; rw [numT_one]
theorem w_want (a : Str) (k : Int) : (RowV.want a k 1).words = (["want", a, numT k, "1"] : List Str) := by show ([_, _, _, numT 1] : List Str) = _; rw [numT_one]
theorem w_want0 (a : Str) (k : Int) : (RowV.want a 0 k).words = (["want", a, "0", numT k] : List Str) := by show ([_, _, numT 0, _] : List Str) = _; rw [numT_nought]
theorem w_part1 (a b : Str) : (RowV.part a b 1).words = (["part", a, b, "1"] : List Str) := by show ([_, _, _, numT 1] : List Str) = _; rw [numT_one]
theorem w_part2 (a b : Str) : (RowV.part a b 2).words = (["part", a, b, "2"] : List Str) := by show ([_, _, _, numT 2] : List Str) = _; rw [show numT 2 = "2" by decide +kernel]
theorem w_part0 (a b : Str) : (RowV.part a b 0).words = (["part", a, b, "0"] : List Str) := by show ([_, _, _, numT 0] : List Str) = _; rw [numT_nought]
theorem wsum {r : RowV} (h : r.ok) {W : List Str} (e : r.words = W) : (W.map (·.length)).sum + W.length * (" " : Str).length ≤ 1000000 := by
  have a := words_sum (ws := r.words) (M := 60) fun w hw => ((words_plain h).2 w hw).1
  have b := (words_plain h).1
  have e1 : (" " : Str).length = 1 := rfl
  rw [← e, e1]
  omega
theorem lowbits {i : Int} (h0 : 0 ≤ i) (h : i ≤ 10000) : i.natAbs.log2 < 1920 := by
  rcases Nat.eq_zero_or_pos i.natAbs with e | e
  · rw [e]; decide
  · rw [Nat.log2_lt (by omega)]
    exact Nat.lt_of_lt_of_le (show i.natAbs < 2 ^ 14 by omega) (Nat.pow_le_pow_right (by decide) (by decide))
def rows8 (far : Int) (nm : Str) : List RowV := [.ware "aa" (31 + far) 1 0 0, .ware "aa" 0 0 5 5, .coming nm (401 + far) 1, .want nm (401 + far) 1, .want "a" 0 1, .part nm "a" 1, .part nm nm 0, .ware nm 0 1 0 0]
theorem rows8_ok {s : Shop} {rs : List RowV} {nm : Str} {far : Int} (h : RowsIn s rs nm) (h0 : 0 ≤ far) (h1 : far < 1000) : ∀ r ∈ rows8 far nm, r.ok ∧ ¬ GoodRs (rs ++ [r]) := fun r hr => by
  have hn := h.nok
  simp only [rows8, List.mem_cons, List.not_mem_nil, or_false] at hr
  rcases hr with rfl | rfl | rfl | rfl | rfl | rfl | rfl | rfl
  · exact ⟨⟨aa_ok, small_ok (by omega) (by omega), one_ok, zero_ok, zero_ok⟩, no_lag (by omega)⟩
  · exact ⟨⟨aa_ok, zero_ok, zero_ok, small_ok (by decide) (by decide), small_ok (by decide) (by decide)⟩, no_gives⟩
  · exact ⟨⟨hn, small_ok (by omega) (by omega), one_ok⟩, no_coming h (by omega)⟩
  · exact ⟨⟨hn, small_ok (by omega) (by omega), one_ok⟩, no_want (by omega)⟩
  · exact ⟨⟨a_ok, zero_ok, one_ok⟩, no_name h rfl rfl⟩
  · exact ⟨⟨hn, a_ok, one_ok⟩, no_part h⟩
  · exact ⟨⟨hn, hn, zero_ok⟩, no_amount h⟩
  · exact ⟨⟨hn, zero_ok, one_ok, zero_ok, zero_ok⟩, no_twice h⟩
theorem fin_more {rs es : List RowV} {T : List D} (h : T = es.map fun r => D.str r.line) : ((rs.map RowV.words).map lineW).map D.str ++ T = (((rs ++ es).map RowV.words).map lineW).map D.str := by rw [h, lines_more]
theorem more_len {rs es : List RowV} (h : rs.length ≤ 248) (he : es.length ≤ 21) : ((((rs ++ es).map RowV.words).map lineW).map D.str).length ≤ 100000 := by
  rw [List.length_map, List.length_map, List.length_map, List.length_append]
  omega
section
variable {P : Program} {w : World} {K : PySem.W.Frag} {mg : Str → Option Value} {base : Heap}
abbrev sp__law_no_shop (K : PySem.W.Frag) : Sp := SpA K (Gd K) true (fun x : List RowV × Str × Int => [linesW (x.1.map RowV.words), .str x.2.1, .int x.2.2]) (fun x => ∃ s, RowsIn s x.1 x.2.1) (fun x d => ∃ es : List RowV, d = linesW ((x.1 ++ es).map RowV.words) ∧ es.length ≤ 21 ∧ (∀ r ∈ es, r.ok) ∧ ¬ GoodRs (x.1 ++ es)) noRs
theorem c__law_no_shop (Dn : Dfn K mg "_law_no_shop" s__law_no_shop ["lines", "name", "x"]) (Z : Glb K mg w) (C__law_mixed_n : Cal P w K mg base 1 "_law_mixed" (sp__law_mixed_n K) []) : Cal P w K mg base 2 "_law_no_shop" (sp__law_no_shop K) [] := by
  obtain ⟨f, fd, F, hm, hb⟩ := Dn.ex
  refine ⟨f, fd, ["lines", "name", "x"], [], ?_, hm, F.kp, hb, .nil⟩
  refine F.ok sc__law_no_shop (fun vs H Q E h => spA_len (fun _ => rfl) h) (fun cdv A outer s H vs Q E hr h => ?_)
  refine ⟨_, (pss_cons (ps_set (i := 3) sc__law_no_shop.nd rfl (.inl rfl) (pe_c C__law_mixed_n hr (by first | decide | omega) (by rfl) (pa_cons (pv 2) (pa_cons pe_int pa_nil))))
    (pss_cons (ps_set (i := 4) sc__law_no_shop.nd rfl (.inl rfl) (pe_op op_mod (pe_ix ix_list (pv 3) pe_int (fun _ _ => rfl)) pe_int))
    (pss_cons (ps_set (i := 5) sc__law_no_shop.nd rfl (.inl rfl) (pe_op op_mod (pe_ix ix_list (pv 3) pe_int (fun _ _ => rfl)) pe_int))
    (pss_cons (ps_set (i := 6) sc__law_no_shop.nd rfl (.inl rfl) pe_str)
    (pss_cons (ps_if (pt_cmpR op_eq (pv 5) pe_int (nomark _))
    (pss_one (ps_ret (pe_op op_cat (pv 0) (pe_lc (own := [("letter", 8)]) rfl sc__law_no_shop.nd (pi_str (pv 6)) (blkOk_by (N := N__law_no_shop) (sc := defScope s__law_no_shop) (by decide +kernel)) (fun _ _ _ _ _ => (pg_name (i := 8) sc__law_no_shop.nd rfl (.inl rfl))) (fun _ _ _ _ _ => pts_nil) (fun _ _ _ _ _ => (show PE _ _ (tM1 (rJoin K) _ _) from pe_join pe_str (pe_lst (pa_cons pe_str (pa_cons (pe_op op_add_str (pv 8) pe_str) (pa_cons pe_str (pa_cons pe_str (pa_cons pe_str (pa_cons pe_str pa_nil)))))))))))))
    pss_nil)
    (pss_cons (ps_if (pt_cmpR op_eq (pv 5) pe_int (nomark _))
    (pss_one (ps_ret (pe_op op_cat (pv 0) (pe_lc (own := [("k", 9)]) rfl sc__law_no_shop.nd (pi_range1 (by rfl) Z.b_range (pa_cons pe_int pa_nil)) (blkOk_by (N := N__law_no_shop) (sc := defScope s__law_no_shop) (by decide +kernel)) (fun _ _ _ _ _ => (pg_name (i := 9) sc__law_no_shop.nd rfl (.inl rfl))) (fun _ _ _ _ _ => pts_nil) (fun _ _ _ _ _ => (show PE _ _ (tM1 (rJoin K) _ _) from pe_join pe_str (pe_lst (pa_cons pe_str (pa_cons (pv 1) (pa_cons (pe_callTy call_str_int (by rfl) Z.b_str (by decide +kernel) (pa_cons (pv 9) pa_nil)) (pa_cons pe_str pa_nil)))))))))))
    pss_nil)
    (pss_cons (ps_if (pt_cmpR op_eq (pv 5) pe_int (nomark _))
    (pss_one (ps_ret (pe_op op_cat (pv 0) (pe_lc (own := [("k", 9)]) rfl sc__law_no_shop.nd (pi_range1 (by rfl) Z.b_range (pa_cons pe_int pa_nil)) (blkOk_by (N := N__law_no_shop) (sc := defScope s__law_no_shop) (by decide +kernel)) (fun _ _ _ _ _ => (pg_name (i := 9) sc__law_no_shop.nd rfl (.inl rfl))) (fun _ _ _ _ _ => pts_nil) (fun _ _ _ _ _ => (show PE _ _ (tM1 (rJoin K) _ _) from pe_join pe_str (pe_lst (pa_cons pe_str (pa_cons (pv 1) (pa_cons pe_str (pa_cons (pe_callTy call_str_int (by rfl) Z.b_str (by decide +kernel) (pa_cons (pv 9) pa_nil)) pa_nil)))))))))))
    pss_nil)
    (pss_cons (ps_if (pt_cmpR op_eq (pv 5) pe_int (nomark _))
    (pss_one (ps_ret (pe_op op_cat (pv 0) (pe_lst (pa_cons (pe_join pe_str (pe_lst (pa_cons pe_str (pa_cons (pv 1) (pa_cons (pv 1) (pa_cons pe_str pa_nil)))))) (pa_cons (pe_join pe_str (pe_lst (pa_cons pe_str (pa_cons (pv 1) (pa_cons (pv 1) (pa_cons pe_str pa_nil)))))) pa_nil))))))
    pss_nil)
    (pss_cons (ps_if (pt_cmpR op_gt (pv 5) pe_int (nomark _))
    (pss_one (ps_ret (pe_op op_cat (pv 0) (pe_lst (pa_cons (pe_ix ix_list (pe_lst (pa_cons pe_str (pa_cons (pe_join pe_str (pe_lst (pa_cons pe_str (pa_cons pe_str (pa_cons (pv 1) (pa_cons pe_str pa_nil)))))) pa_nil))) (pe_op op_sub (pv 5) pe_int) (fun _ _ => rfl)) pa_nil)))))
    pss_nil)
    (pss_cons (ps_set (i := 7) sc__law_no_shop.nd rfl (.inl rfl) (pe_lst (pa_cons (pe_join pe_str (pe_lst (pa_cons pe_str (pa_cons pe_str (pa_cons (pe_callTy call_str_int (by rfl) Z.b_str (by decide +kernel) (pa_cons (pe_op op_add pe_int (pv 4)) pa_nil)) (pa_cons pe_str (pa_cons pe_str (pa_cons pe_str pa_nil)))))))) (pa_cons pe_str pa_nil))))
    (pss_cons (ps_set (i := 7) sc__law_no_shop.nd rfl (.inl rfl) (pe_op op_cat (pv 7) (pe_lst (pa_cons (pe_join pe_str (pe_lst (pa_cons pe_str (pa_cons (pv 1) (pa_cons (pe_callTy call_str_int (by rfl) Z.b_str (by decide +kernel) (pa_cons (pe_op op_add pe_int (pv 4)) pa_nil)) (pa_cons pe_str pa_nil)))))) (pa_cons (pe_join pe_str (pe_lst (pa_cons pe_str (pa_cons (pv 1) (pa_cons (pe_callTy call_str_int (by rfl) Z.b_str (by decide +kernel) (pa_cons (pe_op op_add pe_int (pv 4)) pa_nil)) (pa_cons pe_str pa_nil)))))) pa_nil)))))
    (pss_cons (ps_set (i := 7) sc__law_no_shop.nd rfl (.inl rfl) (pe_op op_cat (pv 7) (pe_lst (pa_cons pe_str (pa_cons (pe_join pe_str (pe_lst (pa_cons pe_str (pa_cons (pv 1) (pa_cons pe_str (pa_cons pe_str pa_nil)))))) (pa_cons (pe_join pe_str (pe_lst (pa_cons pe_str (pa_cons (pv 1) (pa_cons (pv 1) (pa_cons pe_str pa_nil)))))) pa_nil))))))
    (pss_cons (ps_expr (pe_bm PySem.F.plainAttrs_list PySem.F.slot_list_append PySem.F.type_list_append mt_append (pv 7) (pa_cons (pe_join pe_str (pe_lst (pa_cons pe_str (pa_cons (pv 1) (pa_cons pe_str (pa_cons pe_str (pa_cons pe_str (pa_cons pe_str pa_nil)))))))) pa_nil)))
    (pss_one (ps_ret (pe_op op_cat (pv 0) (pe_lst (pa_cons (pe_ix ix_list (pv 7) (pv 5) (fun _ _ => rfl)) pa_nil)))))))))))))))))), ?_⟩
  try dsimp only [cxOf, Cx.nox, Cx.wish]
  refine run_def (N := N__law_no_shop) (fun _ => Nat.le_of_ble_eq_true rfl) (env0 := fun x : List RowV × Str × Int => [.p (linesW (x.1.map RowV.words)), .p (.str x.2.1), .p (.int x.2.2), .u, .u, .u, .u, .u, .u, .u]) (fun _ => rfl) (fun B x hp L => ?_) h
  obtain ⟨rs, nm, c⟩ := x
  obtain ⟨s, hR⟩ := hp
  dsimp only at hR ⊢
  repeat walk_at "v"
  walk_at "c"
  repeat walk_at "v"
  refine ⟨(c, 4), rfl, ⟨by show (1 : Int) ≤ 4; decide, by show (4 : Int) ≤ 4; decide⟩, fun _ h => h, ?_⟩
  rintro _ ⟨ns, rfl, hnl, hns⟩
  repeat walk_at "v"
  have hnl : ns.length = 4 := by
    have : (ns.length : Int) = 4 := hnl
    omega
  obtain ⟨k0, k1, k2, k3, rfl⟩ : ∃ k0 k1 k2 k3, ns = [k0, k1, k2, k3] := by
    match ns, hnl with
    | [a, b, c, d], _ => exact ⟨a, b, c, d, rfl⟩
  have b0 := (hns k0 (by simp)).1
  have b1 := (hns k1 (by simp)).1
  clear hns hnl
  refine vo_ixL (d := .int k1) rfl (atI_nat (j := 1) rfl) ?_
  repeat walk_at "v"
  refine vo_ixL (d := .int k0) rfl (atI_nat (j := 0) rfl) ?_
  repeat walk_at "v"
  refine vs_env [.p (linesW (rs.map RowV.words)), .p (.str nm), .p (.int c), .p (.lst ([k0, k1, k2, k3].map D.int)), .p (.int (k1 % 1000)), .p (.int (k0 % 14)), .p (.str "abcdefghijklm"), .u, .u, .u] rfl ?_
  obtain ⟨far, hfar⟩ : ∃ far, far = k1 % 1000 := ⟨_, rfl⟩
  obtain ⟨way, hway⟩ : ∃ way, way = k0 % 14 := ⟨_, rfl⟩
  have hf0 : 0 ≤ far ∧ far < 1000 := by omega
  have hw0 : 0 ≤ way ∧ way < 14 := by omega
  rw [← hfar, ← hway]
  have hl := hR.len
  have hn := hR.nok
  clear hfar hway b0 b1
  refine vs_if ?_
  repeat walk_at "v"
  refine ⟨fun _ => ?_, fun h8 => ?_⟩
  · repeat walk_at "v"
    refine ve_lcT (xs := ("abcdefghijklm" : Str).cps.toList) (g := fun c => D.str ⟨#[c]⟩) (h := fun c => D.str (RowV.ware (⟨#[c]⟩ ++ "a") 0 1 0 0).line) some (hu1 rfl) (only_name (by decide)) (vi_str ?_)
    repeat walk_at "v"
    refine ⟨_, rfl, rfl, by decide, fun q i z hz => ?_, ?_⟩
    · repeat walk_at "v"
      refine ⟨.set .refl (by decide), ?_⟩
      repeat walk_at "v"
      refine and_t rfl ?_
      repeat walk_at "v"
      refine ve_join ?_
      repeat walk_at "v"
      refine ⟨_, rfl, ?_⟩
      repeat walk_at "v"
      refine vo_add_str (by show 1 + 1 ≤ 100000; decide) ?_
      repeat walk_at "v"
      refine ⟨["ware", ⟨#[z]⟩ ++ "a", "0", "1", "0", "0"], .inl rfl, by
        show 4 + (2 + (1 + (1 + (1 + (1 + 0))))) + 6 * 1 ≤ 1000000
        decide, z, ?_, rfl⟩
      show _ = XV.p (.str (lineW (RowV.ware (⟨#[z]⟩ ++ "a") 0 1 0 0).words))
      rw [w_ware0]
      rfl
    · obtain ⟨es, hes⟩ : ∃ es : List RowV, es = ("abcdefghijklm" : Str).cps.toList.map fun c => RowV.ware (⟨#[c]⟩ ++ "a") 0 1 0 0 := ⟨_, rfl⟩
      have hel : es.length = 13 := by rw [hes, List.length_map]; rfl
      have hhl : (headsV es).length = 13 := by rw [hes]; rfl
      have heok : ∀ r ∈ es, r.ok := fun r hr => by
        rw [hes] at hr
        obtain ⟨c, hc, rfl⟩ := List.mem_map.mp hr
        have hc2 : 97 ≤ c ∧ c ≤ 122 := (show ∀ c ∈ ("abcdefghijklm" : Str).cps.toList, 97 ≤ c ∧ c ≤ 122 by decide +kernel) c hc
        refine ⟨⟨by show 1 ≤ 2; decide, by show 2 ≤ 8; decide, fun x hx => ?_⟩, zero_ok, one_ok, zero_ok, zero_ok⟩
        have hx : x ∈ ([c, 97] : List Nat) := hx
        simp only [List.mem_cons, List.not_mem_nil, or_false] at hx
        rcases hx with rfl | rfl
        · exact hc2
        · decide
      refine fz_o ?_
      refine vo_catE (fs := (((rs ++ es).map RowV.words).map lineW).map D.str) rfl rfl (fin_more (by rw [hes, List.filterMap_some, List.map_map]; rfl)) (more_len hl (by omega)) ?_
      exact ⟨es, rfl, by omega, heok, no_wares (by omega)⟩
  repeat walk_at "v"
  refine vs_if ?_
  repeat walk_at "v"
  refine ⟨fun _ => ?_, fun h9 => ?_⟩
  · repeat walk_at "v"
    refine ve_lcT (xs := List.range 13) (g := fun i => D.int (0 + (i : Nat))) (h := fun i : Nat => D.str (RowV.coming nm (i : Nat) 1).line) some (hu1 rfl) (only_name (by decide)) (vi_range1 ?_)
    repeat walk_at "v"
    refine ⟨_, rfl, ⟨by decide, by decide⟩, by rfl, by rw [List.length_range]; decide, fun q i k hk => ?_, ?_⟩
    · have hk13 : k < 13 := List.mem_range.mp (List.mem_of_getElem? hk)
      repeat walk_at "v"
      refine ⟨.set .refl (by decide), ?_⟩
      repeat walk_at "v"
      refine and_t rfl ?_
      have ek : (0 : Int) + (k : Nat) = (k : Nat) := Int.zero_add _
      rw [ek]
      have hok : (RowV.coming nm (k : Nat) 1).ok := ⟨hn, small_ok (by omega) (by omega), one_ok⟩
      refine ve_join ?_
      repeat walk_at "v"
      refine ⟨_, rfl, ?_⟩
      repeat walk_at "v"
      refine vc_strI (i := (k : Nat)) (lowbits (by omega) (by omega)) ?_
      repeat walk_at "v"
      refine ⟨["coming", nm, numT (k : Nat), "1"], .inl rfl, wsum hok (w_com _ _), ?_⟩
      refine ⟨k, ?_, rfl⟩
      show _ = XV.p (.str (lineW (RowV.coming nm (k : Nat) 1).words))
      rw [w_com]
      rfl
    · obtain ⟨es, hes⟩ : ∃ es : List RowV, es = (List.range 13).map fun i : Nat => RowV.coming nm (i : Nat) 1 := ⟨_, rfl⟩
      have hel : es.length = 13 := by rw [hes, List.length_map]; rfl
      have hcl : (comsV nm es).length = 13 := by
        have : comsV nm es = (List.range 13).map fun i : Nat => (((i : Nat) : Int), (1 : Int)) := by
          rw [hes]
          unfold comsV
          rw [List.filterMap_map]
          exact (congrArg (fun f => List.filterMap f (List.range 13)) (funext fun i : Nat => show RowV.com? nm (.coming nm (i : Nat) 1) = (some ∘ fun i : Nat => (((i : Nat) : Int), (1 : Int))) i from if_pos rfl)).trans (by rw [List.filterMap_eq_map])
        rw [this, List.length_map]
        rfl
      have heok : ∀ r ∈ es, r.ok := fun r hr => by
        rw [hes] at hr
        obtain ⟨c, hc, rfl⟩ := List.mem_map.mp hr
        have hc2 := List.mem_range.mp hc
        exact ⟨hn, small_ok (by omega) (by omega), one_ok⟩
      refine fz_o ?_
      refine vo_catE (fs := (((rs ++ es).map RowV.words).map lineW).map D.str) rfl rfl (fin_more (by rw [hes, List.filterMap_some, List.map_map]; rfl)) (more_len hl (by omega)) ?_
      exact ⟨es, rfl, by omega, heok, no_comings hR (by omega)⟩
  repeat walk_at "v"
  refine vs_if ?_
  repeat walk_at "v"
  refine ⟨fun _ => ?_, fun h10 => ?_⟩
  · repeat walk_at "v"
    refine ve_lcT (xs := List.range 21) (g := fun i => D.int (0 + (i : Nat))) (h := fun i : Nat => D.str (RowV.want nm 0 (i : Nat)).line) some (hu1 rfl) (only_name (by decide)) (vi_range1 ?_)
    repeat walk_at "v"
    refine ⟨_, rfl, ⟨by decide, by decide⟩, by rfl, by rw [List.length_range]; decide, fun q i k hk => ?_, ?_⟩
    · have hk13 : k < 21 := List.mem_range.mp (List.mem_of_getElem? hk)
      repeat walk_at "v"
      refine ⟨.set .refl (by decide), ?_⟩
      repeat walk_at "v"
      refine and_t rfl ?_
      repeat walk_at "v"
      have ek : (0 : Int) + (k : Nat) = (k : Nat) := Int.zero_add _
      rw [ek]
      have hok : (RowV.want nm 0 (k : Nat)).ok := ⟨hn, zero_ok, small_ok (by omega) (by omega)⟩
      refine ve_join ?_
      repeat walk_at "v"
      refine ⟨_, rfl, ?_⟩
      repeat walk_at "v"
      refine vc_strI (i := (k : Nat)) (lowbits (by omega) (by omega)) ?_
      repeat walk_at "v"
      refine ⟨["want", nm, "0", numT (k : Nat)], .inl rfl, wsum hok (w_want0 _ _), ?_⟩
      refine ⟨k, ?_, rfl⟩
      show _ = XV.p (.str (lineW (RowV.want nm 0 (k : Nat)).words))
      rw [w_want0]
      rfl
    · obtain ⟨es, hes⟩ : ∃ es : List RowV, es = (List.range 21).map fun i : Nat => RowV.want nm 0 (i : Nat) := ⟨_, rfl⟩
      have hel : es.length = 21 := by rw [hes, List.length_map]; rfl
      have hcl : (es.filterMap RowV.want?).length = 21 := by rw [hes]; rfl
      have heok : ∀ r ∈ es, r.ok := fun r hr => by
        rw [hes] at hr
        obtain ⟨c, hc, rfl⟩ := List.mem_map.mp hr
        have hc2 := List.mem_range.mp hc
        exact ⟨hn, zero_ok, small_ok (by omega) (by omega)⟩
      refine fz_o ?_
      refine vo_catE (fs := (((rs ++ es).map RowV.words).map lineW).map D.str) rfl rfl (fin_more (by rw [hes, List.filterMap_some, List.map_map]; rfl)) (more_len hl (by omega)) ?_
      exact ⟨es, rfl, by omega, heok, no_wants (by omega)⟩
  repeat walk_at "v"
  refine vs_if ?_
  repeat walk_at "v"
  refine ⟨fun _ => ?_, fun h11 => ?_⟩
  · repeat walk_at "v"
    have hok1 : (RowV.part nm nm 1).ok := ⟨hn, hn, one_ok⟩
    have hok2 : (RowV.part nm nm 2).ok := ⟨hn, hn, small_ok (by decide) (by decide)⟩
    refine ve_join ?_
    repeat walk_at "v"
    refine ⟨_, rfl, ?_⟩
    repeat walk_at "v"
    refine ⟨["part", nm, nm, "1"], .inl rfl, wsum hok1 (w_part1 _ _), ?_⟩
    repeat walk_at "v"
    refine ve_join ?_
    repeat walk_at "v"
    refine ⟨_, rfl, ?_⟩
    repeat walk_at "v"
    refine ⟨["part", nm, nm, "2"], .inl rfl, wsum hok2 (w_part2 _ _), ?_⟩
    repeat walk_at "v"
    refine vo_catE (fs := (((rs ++ [RowV.part nm nm 1, RowV.part nm nm 2]).map RowV.words).map lineW).map D.str) rfl rfl (fin_more (by
      show _ = [D.str (lineW (RowV.part nm nm 1).words), D.str (lineW (RowV.part nm nm 2).words)]
      rw [w_part1, w_part2]
      rfl)) (more_len hl (by rw [List.length_cons]; simp)) ?_
    refine ⟨[.part nm nm 1, .part nm nm 2], rfl, by simp, fun r hr => ?_, no_parts hR⟩
    simp only [List.mem_cons, List.not_mem_nil, or_false] at hr
    rcases hr with rfl | rfl
    · exact hok1
    · exact hok2
  repeat walk_at "v"
  refine vs_if ?_
  repeat walk_at "v"
  refine ⟨fun h12 => ?_, fun h12 => ?_⟩
  · repeat walk_at "v"
    have h12 := of_decide_eq_true h12
    have hok1 : (RowV.part "a" nm 1).ok := ⟨a_ok, hn, one_ok⟩
    have hok2 : (RowV.coming "a" 0 1).ok := ⟨a_ok, zero_ok, one_ok⟩
    refine ve_join ?_
    repeat walk_at "v"
    refine ⟨_, rfl, ?_⟩
    repeat walk_at "v"
    refine ⟨["part", "a", nm, "1"], .inl rfl, wsum hok1 (w_part1 _ _), ?_⟩
    repeat walk_at "v"
    obtain ⟨r, hr, hd⟩ : ∃ r, r ∈ [RowV.coming "a" 0 1, RowV.part "a" nm 1] ∧ atI [D.str "coming a 0 1", D.str (lineW ["part", "a", nm, "1"])] (way - 12) = some (.str r.line) := by
      have : way = 12 ∨ way = 13 := by omega
      rcases this with rfl | rfl
      · refine ⟨.coming "a" 0 1, by simp, ?_⟩
        have e : (RowV.coming "a" 0 1).line = "coming a 0 1" := by decide +kernel
        rw [e]
        rfl
      · refine ⟨.part "a" nm 1, by simp, ?_⟩
        have e : (RowV.part "a" nm 1).line = lineW ["part", "a", nm, "1"] := by show lineW (RowV.part "a" nm 1).words = _; rw [w_part1]
        rw [e]
        rfl
    refine vo_ixL rfl hd ?_
    repeat walk_at "v"
    refine vo_catE (fs := (((rs ++ [r]).map RowV.words).map lineW).map D.str) rfl rfl (fin_more rfl) (more_len hl (by rw [List.length_cons]; simp)) ?_
    simp only [List.mem_cons, List.not_mem_nil, or_false] at hr
    refine ⟨[r], rfl, by simp, fun q hq => ?_, ?_⟩
    · rw [List.mem_singleton.mp hq]
      rcases hr with rfl | rfl
      · exact hok2
      · exact hok1
    · rcases hr with rfl | rfl
      · exact no_name hR rfl rfl
      · exact no_name hR rfl rfl
  have hw8 : way < 8 := by
    have q1 := of_decide_eq_false h8
    have q2 := of_decide_eq_false h9
    have q3 := of_decide_eq_false h10
    have q4 := of_decide_eq_false h11
    have q5 := of_decide_eq_false h12
    omega
  have hrow := rows8_ok hR hf0.1 hf0.2
  have hin : ∀ {r}, r ∈ rows8 far nm → r.ok := fun h => (hrow _ h).1
  repeat walk_at "v"
  refine ve_join ?_
  repeat walk_at "v"
  refine ⟨_, rfl, ?_⟩
  repeat walk_at "v"
  refine vc_strI (i := 31 + far) (lowbits (by omega) (by omega)) ?_
  repeat walk_at "v"
  refine ⟨["ware", "aa", numT (31 + far), "1", "0", "0"], .inl rfl, wsum (hin (r := .ware "aa" (31 + far) 1 0 0) (by simp [rows8])) (w_ware _ _), ?_⟩
  repeat walk_at "v"
  refine ve_join ?_
  repeat walk_at "v"
  refine ⟨_, rfl, ?_⟩
  repeat walk_at "v"
  refine vc_strI (i := 401 + far) (lowbits (by omega) (by omega)) ?_
  repeat walk_at "v"
  refine ⟨["coming", nm, numT (401 + far), "1"], .inl rfl, wsum (hin (r := .coming nm (401 + far) 1) (by simp [rows8])) (w_com _ _), ?_⟩
  repeat walk_at "v"
  refine ve_join ?_
  repeat walk_at "v"
  refine ⟨_, rfl, ?_⟩
  repeat walk_at "v"
  refine vc_strI (i := 401 + far) (lowbits (by omega) (by omega)) ?_
  repeat walk_at "v"
  refine ⟨["want", nm, numT (401 + far), "1"], .inl rfl, wsum (hin (r := .want nm (401 + far) 1) (by simp [rows8])) (w_want _ _), ?_⟩
  repeat walk_at "v"
  refine vo_catE (fs := [.str (lineW ["ware", "aa", numT (31 + far), "1", "0", "0"]), .str "ware aa 0 0 5 5", .str (lineW ["coming", nm, numT (401 + far), "1"]), .str (lineW ["want", nm, numT (401 + far), "1"])]) rfl rfl rfl (by show 4 ≤ 100000; decide) ?_
  repeat walk_at "v"
  refine ve_join ?_
  repeat walk_at "v"
  refine ⟨_, rfl, ?_⟩
  repeat walk_at "v"
  refine ⟨["part", nm, "a", "1"], .inl rfl, wsum (hin (r := .part nm "a" 1) (by simp [rows8])) (w_part1 _ _), ?_⟩
  repeat walk_at "v"
  refine ve_join ?_
  repeat walk_at "v"
  refine ⟨_, rfl, ?_⟩
  repeat walk_at "v"
  refine ⟨["part", nm, nm, "0"], .inl rfl, wsum (hin (r := .part nm nm 0) (by simp [rows8])) (w_part0 _ _), ?_⟩
  repeat walk_at "v"
  refine vo_catE (fs := [.str (lineW ["ware", "aa", numT (31 + far), "1", "0", "0"]), .str "ware aa 0 0 5 5", .str (lineW ["coming", nm, numT (401 + far), "1"]), .str (lineW ["want", nm, numT (401 + far), "1"]), .str "want a 0 1", .str (lineW ["part", nm, "a", "1"]), .str (lineW ["part", nm, nm, "0"])]) rfl rfl rfl (by show 7 ≤ 100000; decide) ?_
  repeat walk_at "v"
  refine ve_join ?_
  repeat walk_at "v"
  refine ⟨_, rfl, ?_⟩
  repeat walk_at "v"
  refine ⟨["ware", nm, "0", "1", "0", "0"], .inl rfl, wsum (hin (r := .ware nm 0 1 0 0) (by simp [rows8])) (w_ware0 _), ?_⟩
  repeat walk_at "v"
  refine ⟨_, rfl, by show 7 < 100000; decide, ?_⟩
  have eR : (rows8 far nm).map (fun r => D.str r.line) = [.str (lineW ["ware", "aa", numT (31 + far), "1", "0", "0"]), .str "ware aa 0 0 5 5", .str (lineW ["coming", nm, numT (401 + far), "1"]), .str (lineW ["want", nm, numT (401 + far), "1"]), .str "want a 0 1", .str (lineW ["part", nm, "a", "1"]), .str (lineW ["part", nm, nm, "0"]), .str (lineW ["ware", nm, "0", "1", "0", "0"])] := by
    show [D.str (lineW (RowV.ware "aa" (31 + far) 1 0 0).words), D.str (RowV.ware "aa" 0 0 5 5).line, D.str (lineW (RowV.coming nm (401 + far) 1).words), D.str (lineW (RowV.want nm (401 + far) 1).words), D.str (RowV.want "a" 0 1).line, D.str (lineW (RowV.part nm "a" 1).words), D.str (lineW (RowV.part nm nm 0).words), D.str (lineW (RowV.ware nm 0 1 0 0).words)] = _
    rw [w_ware, w_com, w_want, w_part1, w_part0, w_ware0, show (RowV.ware "aa" 0 0 5 5).line = "ware aa 0 0 5 5" by decide +kernel, show (RowV.want "a" 0 1).line = "want a 0 1" by decide +kernel]
  refine vs_env [.p (linesW (rs.map RowV.words)), .p (.str nm), .p (.int c), .p (.lst ([k0, k1, k2, k3].map D.int)), .p (.int far), .p (.int way), .p (.str "abcdefghijklm"), .mu (.lst ((rows8 far nm).map (fun r => D.str r.line))), .u, .u] (by rw [eR]; rfl) ?_
  repeat walk_at "v"
  obtain ⟨j, r, hj, hr, hd⟩ := atI_lt (fun r : RowV => D.str r.line) (l := rows8 far nm) hw0.1 (show way < (8 : Nat) by omega)
  have hg := hrow r (List.mem_of_getElem? hr)
  refine vo_ixL rfl hd ?_
  repeat walk_at "v"
  refine vo_catE (fs := (((rs ++ [r]).map RowV.words).map lineW).map D.str) rfl rfl (fin_more rfl) (more_len hl (by simp)) ?_
  refine ⟨[r], rfl, by simp, fun q hq => ?_, hg.2⟩
  rw [List.mem_singleton.mp hq]
  exact hg.1
end
abbrev s__law_no_form : Stmt := topS 46
abbrev N__law_no_form : List Str := ["lines", "x", "xs", "spot", "words", "way"]
theorem sc__law_no_form : FnScope N__law_no_form ["lines", "x"] (defScope s__law_no_form) := ⟨rfl, rfl, rfl, by decide +kernel, rfl, by decide +kernel, by decide +kernel⟩
section
variable {P : Program} {w : World} {K : PySem.W.Frag} {mg : Str → Option Value} {base : Heap}
abbrev sp__law_no_form (K : PySem.W.Frag) : Sp := SpA K (Gd K) true (fun x : List RowV × Int => [linesW (x.1.map RowV.words), .int x.2]) (fun x => x.1 ≠ [] ∧ x.1.length ≤ 300 ∧ ∀ r ∈ x.1, r.ok) (fun x d => ∃ wss, d = linesW wss ∧ wss ≠ [] ∧ wss.length ≤ 301 ∧ (∀ W ∈ wss, WordsIn W) ∧ ∃ W ∈ wss, parseRow W = none) noRs
theorem c__law_no_form (Dn : Dfn K mg "_law_no_form" s__law_no_form ["lines", "x"]) (Z : Glb K mg w) (C__law_mixed_n : Cal P w K mg base 1 "_law_mixed" (sp__law_mixed_n K) []) : Cal P w K mg base 2 "_law_no_form" (sp__law_no_form K) [] := by
  obtain ⟨f, fd, F, hm, hb⟩ := Dn.ex
  refine ⟨f, fd, ["lines", "x"], [], ?_, hm, F.kp, hb, .nil⟩
  refine F.ok sc__law_no_form (fun vs H Q E h => spA_len (fun _ => rfl) h) (fun cdv A outer s H vs Q E hr h => ?_)
  refine ⟨_, (pss_cons (ps_set (i := 2) sc__law_no_form.nd rfl (.inl rfl) (pe_c C__law_mixed_n hr (by first | decide | omega) (by rfl) (pa_cons (pv 1) (pa_cons pe_int pa_nil))))
    (pss_cons (ps_set (i := 3) sc__law_no_form.nd rfl (.inl rfl) (pe_op op_mod (pe_ix ix_list (pv 2) pe_int (fun _ _ => rfl)) (pe_callB call_len_seq (by rfl) Z.b_len PySem.boot_len (pa_cons (pv 0) pa_nil))))
    (pss_cons (ps_set (i := 4) sc__law_no_form.nd rfl (.inl rfl) (pe_split (pe_ix ix_list (pv 0) (pv 3) (fun _ _ => rfl)) pe_str))
    (pss_cons (ps_set (i := 5) sc__law_no_form.nd rfl (.inl rfl) (pe_op op_mod (pe_ix ix_list (pv 2) pe_int (fun _ _ => rfl)) pe_int))
    (pss_cons (ps_if (pt_cmpR op_eq (pv 5) pe_int (nomark _))
    (pss_one (ps_asg (pe_ix ix_list (pe_lst (pa_cons pe_str (pa_cons pe_str (pa_cons pe_str (pa_cons pe_str (pa_cons pe_str (pa_cons pe_str (pa_cons pe_str pa_nil)))))))) (pe_op op_mod (pe_ix ix_list (pv 2) pe_int (fun _ _ => rfl)) pe_int) (fun _ _ => rfl)) (pg_sub (pv 4) pe_int set_list)))
    (pss_one (ps_if (pt_cmpR op_eq (pv 5) pe_int (nomark _))
      (pss_one (ps_asg (pe_ix ix_list (pe_lst (pa_cons pe_str (pa_cons pe_str (pa_cons pe_str (pa_cons pe_str (pa_cons pe_str (pa_cons pe_str pa_nil))))))) (pe_op op_mod (pe_ix ix_list (pv 2) pe_int (fun _ _ => rfl)) pe_int) (fun _ _ => rfl)) (pg_sub (pv 4) pe_int set_list)))
      (pss_one (ps_if (pt_cmpR op_eq (pv 5) pe_int (nomark _))
        (pss_one (ps_asg (pe_ix ix_list (pe_lst (pa_cons pe_str (pa_cons pe_str (pa_cons pe_str (pa_cons pe_str (pa_cons pe_str (pa_cons (pe_op op_repS pe_str pe_int) (pa_cons pe_str (pa_cons pe_str pa_nil))))))))) (pe_op op_mod (pe_ix ix_list (pv 2) pe_int (fun _ _ => rfl)) pe_int) (fun _ _ => rfl)) (pg_sub (pv 4) (pe_un un_neg pe_int) set_list)))
        (pss_one (ps_if (pt_cmpR op_eq (pv 5) pe_int (nomark _))
          (pss_one (ps_expr (pe_bm PySem.F.plainAttrs_list PySem.F.slot_list_append PySem.F.type_list_append mt_append (pv 4) (pa_cons (pe_ix ix_list (pe_lst (pa_cons pe_str (pa_cons pe_str (pa_cons pe_str pa_nil)))) (pe_op op_mod (pe_ix ix_list (pv 2) pe_int (fun _ _ => rfl)) pe_int) (fun _ _ => rfl)) pa_nil))))
          (pss_one (ps_if (pt_cmpR op_eq (pv 5) pe_int (nomark _))
            (pss_one (ps_expr (pe_bm0 PySem.F.plainAttrs_list PySem.F.slot_list_pop PySem.F.type_list_pop mt_pop (pv 4))))
            (pss_one (ps_if (pt_cmpR op_eq (pv 5) pe_int (nomark _))
              (pss_one (ps_set (i := 4) sc__law_no_form.nd rfl (.inl rfl) (pe_op op_cat (pe_lst (pa_cons (pe_join pe_str (pe_slice sl_list (pv 4) po_none (po_some pe_int))) pa_nil)) (pe_slice sl_list (pv 4) (po_some pe_int) po_none))))
              (pss_one (ps_if (pt_cmpR op_eq (pv 5) pe_int (nomark _))
                (pss_one (ps_expr (pe_bm PySem.F.plainAttrs_list PySem.F.slot_list_insert PySem.F.type_list_insert mt_insert (pv 4) (pa_cons (pe_op op_mod (pe_ix ix_list (pv 2) pe_int (fun _ _ => rfl)) (pe_op op_add (pe_callB call_len_seq (by rfl) Z.b_len PySem.boot_len (pa_cons (pv 4) pa_nil)) pe_int)) (pa_cons pe_str pa_nil)))))
                (pss_one (ps_if (pt_cmpR op_eq (pv 5) pe_int (nomark _))
                  (pss_cons (ps_set (i := 3) sc__law_no_form.nd rfl (.inl rfl) (pe_op op_mod (pe_ix ix_list (pv 2) pe_int (fun _ _ => rfl)) (pe_op op_add (pe_callB call_len_seq (by rfl) Z.b_len PySem.boot_len (pa_cons (pv 0) pa_nil)) pe_int)))
                    (pss_one (ps_ret (pe_op op_cat (pe_op op_cat (pe_slice sl_list (pv 0) po_none (po_some (pv 3))) (pe_lst (pa_cons (pe_ix ix_list (pe_lst (pa_cons pe_str (pa_cons pe_str (pa_cons pe_str pa_nil)))) (pe_op op_mod (pe_ix ix_list (pv 2) pe_int (fun _ _ => rfl)) pe_int) (fun _ _ => rfl)) pa_nil))) (pe_slice sl_list (pv 0) (po_some (pv 3)) po_none)))))
                  (pss_one (ps_asg (pe_op op_add_str (pe_ix ix_list (pv 4) (pe_un un_neg pe_int) (fun _ _ => rfl)) (pe_ix ix_list (pe_lst (pa_cons pe_str (pa_cons pe_str (pa_cons pe_str (pa_cons pe_str pa_nil))))) (pe_op op_mod (pe_ix ix_list (pv 2) pe_int (fun _ _ => rfl)) pe_int) (fun _ _ => rfl))) (pg_sub (pv 4) (pe_un un_neg pe_int) set_list))))))))))))))))))
    (pss_one (ps_ret (pe_op op_cat (pe_op op_cat (pe_slice sl_list (pv 0) po_none (po_some (pv 3))) (pe_lst (pa_cons (pe_join pe_str (pv 4)) pa_nil))) (pe_slice sl_list (pv 0) (po_some (pe_op op_add (pv 3) pe_int)) po_none))))))))), ?_⟩
  try dsimp only [cxOf, Cx.nox, Cx.wish]
  refine run_def (N := N__law_no_form) (fun _ => Nat.le_of_ble_eq_true rfl) (env0 := fun x : List RowV × Int => [.p (linesW (x.1.map RowV.words)), .p (.int x.2), .u, .u, .u, .u]) (fun _ => rfl) (fun B x hp L => ?_) h
  obtain ⟨rs, c⟩ := x
  obtain ⟨hne, hrl, hok⟩ := hp
  dsimp only at hne hrl hok ⊢
  have hpos : 0 < rs.length := List.length_pos_iff.mpr hne
  repeat walk_at "v"
  walk_at "c"
  repeat walk_at "v"
  refine ⟨(c, 4), rfl, ⟨by show (1 : Int) ≤ 4; decide, by show (4 : Int) ≤ 4; decide⟩, fun _ h => h, ?_⟩
  rintro _ ⟨ns, rfl, hnl, hns⟩
  repeat walk_at "v"
  have hnl : ns.length = 4 := by
    have : (ns.length : Int) = 4 := hnl
    omega
  obtain ⟨k0, k1, k2, k3, rfl⟩ : ∃ k0 k1 k2 k3, ns = [k0, k1, k2, k3] := by
    match ns, hnl with
    | [a, b, c, d], _ => exact ⟨a, b, c, d, rfl⟩
  have b0 := (hns k0 (by simp)).1
  have b1 := (hns k1 (by simp)).1
  have b2 := (hns k2 (by simp)).1
  have b3 := (hns k3 (by simp)).1
  clear hns hnl
  refine vo_ixL (d := .int k0) rfl (atI_nat (j := 0) rfl) ?_
  repeat walk_at "v"
  case hmod =>
    show (0 : Int) < (((rs.map RowV.words).map lineW).map D.str).length
    rw [List.length_map, List.length_map, List.length_map]
    omega
  rw [List.length_map, List.length_map, List.length_map]
  have hm0 : 0 ≤ k0 % (rs.length : Int) := Int.emod_nonneg _ (by omega)
  have hm1 : k0 % (rs.length : Int) < rs.length := Int.emod_lt_of_pos _ (by omega)
  obtain ⟨j, hj⟩ := Int.eq_ofNat_of_zero_le hm0
  rw [hj]
  have hjl : j < rs.length := by omega
  have hr : rs[j]? = some rs[j] := List.getElem?_eq_getElem hjl
  obtain ⟨r, hrj⟩ : ∃ r, r = rs[j] := ⟨_, rfl⟩
  rw [← hrj] at hr
  have hro := hok r (List.mem_of_getElem? hr)
  obtain ⟨y, t, n, m, hW, hG, ht5⟩ := good_words hro
  have hlw : lineW r.words = r.line := rfl
  have hll := line_len hro
  repeat walk_at "v"
  refine ve_split ?_
  repeat walk_at "v"
  refine vo_ixL (ds := ((rs.map RowV.words).map lineW).map D.str) rfl (atI_get D.str (l := (rs.map RowV.words).map lineW) (j := j) (by rw [List.getElem?_map, List.getElem?_map, hr]; rfl)) ?_
  refine ⟨_, rfl, ?_⟩
  repeat walk_at "v"
  refine ⟨_, rfl, by decide, by rw [hlw]; omega, ?_⟩
  rw [hlw, split_line hro, hW]
  repeat walk_at "v"
  refine vo_ixL (d := .int k1) rfl (atI_nat (j := 1) rfl) ?_
  repeat ((fail_if_success (with_reducible refine vs_next ?_)); (fail_if_success (with_reducible refine vs_seq ?_)); (fail_if_success (with_reducible refine vs_asg ?_)); walk_at "u")
  refine vs_env [.p (linesW (rs.map RowV.words)), .p (.int c), .p (.lst ([k0, k1, k2, k3].map D.int)), .p (.int j), .mu (.lst ((y :: t).map D.str)), .p (.int (k1 % 9))] rfl ?_
  have htl := hG.len
  have hm9 : 0 ≤ k1 % 9 ∧ k1 % 9 < 9 := by omega
  obtain ⟨way, hway⟩ : ∃ way, way = k1 % 9 := ⟨_, rfl⟩
  rw [← hway] at hm9 ⊢
  refine vs_seq ?_
  refine vs_cut (fun e => ∃ W : List Str, e = [.p (linesW (rs.map RowV.words)), .p (.int c), .p (.lst ([k0, k1, k2, k3].map D.int)), .p (.int j), .mu (.lst (W.map D.str)), .p (.int way)] ∧ BadW W) ?_ ?_
  · refine vs_if ?_
    repeat walk_at "v"
    refine ⟨fun _ => ?_, fun h0 => ?_⟩
    · refine vs_asg ?_
      repeat walk_at "v"
      refine vo_ixL (d := .int k2) rfl (atI_nat (j := 2) rfl) ?_
      repeat walk_at "v"
      obtain ⟨z, hz, hz1, hz2⟩ := pickS (P := fun z => formOf z = none ∧ plainS z = true) (l := ["wares", "Want", "", "comes", "parts", "ware:", "WARE"]) (k := k2 % 7) (by omega) (by show k2 % 7 < 7; omega) (by decide +kernel)
      refine vo_ixL rfl hz ?_
      refine vg_subL rfl ?_
      repeat walk_at "v"
      refine ⟨0, 0, rfl, ixN_nat (j := 0) (by rw [List.length_map]; exact Nat.succ_pos _), ?_⟩
      exact ⟨z :: t, rfl, bad0 hG hz1 hz2⟩
    refine vs_if ?_
    repeat walk_at "v"
    refine ⟨fun _ => ?_, fun h1 => ?_⟩
    · refine vs_asg ?_
      repeat walk_at "v"
      refine vo_ixL (d := .int k2) rfl (atI_nat (j := 2) rfl) ?_
      repeat walk_at "v"
      obtain ⟨z, hz, hz1, hz2⟩ := pickS (P := fun z => nameS z = false ∧ plainS z = true) (l := ["Aa", "abcdefghi", "a1", "", "a-b", "a_"]) (k := k2 % 6) (by omega) (by show k2 % 6 < 6; omega) (by decide +kernel)
      refine vo_ixL rfl hz ?_
      refine vg_subL rfl ?_
      repeat walk_at "v"
      refine ⟨1, 1, rfl, ixN_nat (j := 1) (by rw [List.length_map, List.length_cons]; have := hG.l; have := hG.n1; omega), ?_⟩
      refine ⟨(y :: t).set 1 z, ?_, bad1 hG hz1 hz2⟩
      rw [List.map_set]
      rfl
    refine vs_if ?_
    repeat walk_at "v"
    refine ⟨fun _ => ?_, fun h2 => ?_⟩
    · refine vs_asg ?_
      repeat walk_at "v"
      refine vo_repS (c := 49) (n := 61) (by decide) (by decide) fun w hw => ?_
      obtain ⟨hw1, hw2⟩ := fig_61 hw
      repeat walk_at "v"
      refine vo_ixL (d := .int k2) rfl (atI_nat (j := 2) rfl) ?_
      repeat walk_at "v"
      obtain ⟨z, hz, hz1, hz2⟩ := pickS (P := fun z => numB z = false ∧ (z.length ≤ 100 ∧ ∀ c ∈ z.cps.toList, c ≠ 32 ∧ c ≠ 10)) (l := ["01", "-1", "", "1.", "x", w, "+1", "1e3"]) (k := k2 % 8) (by omega) (by show k2 % 8 < 8; omega) (fun z hz => by
        simp only [List.mem_cons, List.not_mem_nil, or_false] at hz
        rcases hz with rfl | rfl | rfl | rfl | rfl | rfl | rfl | rfl
        · exact ⟨by decide +kernel, plainS_ok (by decide +kernel)⟩
        · exact ⟨by decide +kernel, plainS_ok (by decide +kernel)⟩
        · exact ⟨by decide +kernel, plainS_ok (by decide +kernel)⟩
        · exact ⟨by decide +kernel, plainS_ok (by decide +kernel)⟩
        · exact ⟨by decide +kernel, plainS_ok (by decide +kernel)⟩
        · exact ⟨hw1, hw2⟩
        · exact ⟨by decide +kernel, plainS_ok (by decide +kernel)⟩
        · exact ⟨by decide +kernel, plainS_ok (by decide +kernel)⟩)
      refine vo_ixL rfl hz ?_
      refine vg_subL rfl ?_
      repeat walk_at "v"
      refine ⟨_, t.length, rfl, by rw [List.length_map, List.length_cons]; exact ixN_last (Nat.succ_pos _), ?_⟩
      refine ⟨(y :: t).set t.length z, ?_, bad2 hG hz1 hz2⟩
      rw [List.map_set]
      rfl
    refine vs_if ?_
    repeat walk_at "v"
    refine ⟨fun _ => ?_, fun h3 => ?_⟩
    · refine vs_append rfl ?_
      repeat walk_at "v"
      refine vo_ixL (d := .int k2) rfl (atI_nat (j := 2) rfl) ?_
      repeat walk_at "v"
      obtain ⟨z, hz, hz1⟩ := pickS (P := fun z => plainS z = true) (l := ["1", "a", ""]) (k := k2 % 3) (by omega) (by show k2 % 3 < 3; omega) (by decide +kernel)
      refine vo_ixL rfl hz ?_
      refine fz_p ⟨_, rfl, by rw [List.length_map, List.length_cons]; omega, ?_⟩
      refine ⟨y :: t ++ [z], ?_, bad3 hG hz1⟩
      rw [List.map_append]
      rfl
    refine vs_if ?_
    repeat walk_at "v"
    refine ⟨fun _ => ?_, fun h4 => ?_⟩
    · obtain ⟨z, hz⟩ : ∃ z, (y :: t)[(y :: t).length - 1]? = some z := ⟨_, List.getElem?_eq_getElem (by rw [List.length_cons]; omega)⟩
      refine vs_popD (d := .str z) rfl (by rw [List.length_map, List.getElem?_map, hz]; rfl) ?_
      refine ⟨(y :: t).dropLast, ?_, bad4 hG⟩
      rw [List.map_dropLast]
      rfl
    refine vs_if ?_
    repeat walk_at "v"
    refine ⟨fun _ => ?_, fun h5 => ?_⟩
    · obtain ⟨x, u, hxu⟩ : ∃ x u, t = x :: u := by
        cases t with
        | nil => exact absurd hG.l (by have := hG.n1; show ¬ (0 = n + m); omega)
        | cons a b => exact ⟨a, b, rfl⟩
      refine vs_asg ?_
      repeat walk_at "v"
      refine ve_join ?_
      repeat walk_at "v"
      refine ⟨_, rfl, ?_⟩
      repeat walk_at "v"
      have e2 : cutD ((y :: t).map D.str) none (some 2) = ([y, x] : List Str).map D.str := by
        rw [cutD_take D.str (y :: t) (by decide), hxu]
        rfl
      rw [e2]
      have hy60 := (hG.ok y List.mem_cons_self).1
      have hx60 := (hG.ok x (by rw [hxu]; simp)).1
      refine ⟨[y, x], .inl rfl, by show y.length + (x.length + 0) + 2 * 1 ≤ 1000000; omega, ?_⟩
      repeat walk_at "v"
      have e3 : cutD ((y :: t).map D.str) (some 2) none = u.map D.str := by
        rw [cutD_drop D.str (y :: t) (by decide), hxu]
        rfl
      rw [e3]
      have hul : u.length ≤ 6 := by rw [hxu, List.length_cons] at htl; omega
      refine vo_catE (fs := (Txt.join "\t" [y, x] :: u).map D.str) rfl rfl rfl (by rw [List.length_map, List.length_cons]; omega) ?_
      refine vg_o (Nat.le_of_ble_eq_true rfl) ?_
      exact ⟨Txt.join "\t" [y, x] :: u, rfl, bad5 hG hxu⟩
    refine vs_if ?_
    repeat walk_at "v"
    refine ⟨fun _ => ?_, fun h6 => ?_⟩
    · refine vs_insert rfl ?_
      repeat walk_at "v"
      refine vo_ixL (d := .int k2) rfl (atI_nat (j := 2) rfl) ?_
      repeat walk_at "v"
      have hd0 : (0 : Int) ≤ k2 % ((((y :: t).map D.str).length : Int) + 1) := Int.emod_nonneg _ (by omega)
      have hd1 : k2 % ((((y :: t).map D.str).length : Int) + 1) < (((y :: t).map D.str).length : Int) + 1 := Int.emod_lt_of_pos _ (by omega)
      obtain ⟨q, hq⟩ := Int.eq_ofNat_of_zero_le hd0
      rw [hq] at hd1 ⊢
      rw [List.length_map, List.length_cons] at hd1
      refine ⟨by omega, by omega, by rw [List.length_map, List.length_cons]; omega, ?_⟩
      repeat walk_at "v"
      refine ⟨_, rfl, (y :: t).take q ++ ([""] : List Str) ++ (y :: t).drop q, ?_, bad6 hG (by omega)⟩
      rw [Int.toNat_natCast, List.map_append, List.map_append, List.map_take, List.map_drop]
      rfl
    refine vs_if ?_
    repeat walk_at "v"
    refine ⟨fun _ => ?_, fun h7 => ?_⟩
    · repeat walk_at "v"
      refine vo_ixL (d := .int k3) rfl (atI_nat (j := 3) rfl) ?_
      repeat walk_at "v"
      have hln : (((rs.map RowV.words).map lineW).map D.str).length = rs.length := by rw [List.length_map, List.length_map, List.length_map]
      have hd0 : (0 : Int) ≤ k3 % (((((rs.map RowV.words).map lineW).map D.str).length : Int) + 1) := Int.emod_nonneg _ (by omega)
      have hd1 : k3 % (((((rs.map RowV.words).map lineW).map D.str).length : Int) + 1) < ((((rs.map RowV.words).map lineW).map D.str).length : Int) + 1 := Int.emod_lt_of_pos _ (by omega)
      rw [hln] at hd0 hd1 ⊢
      obtain ⟨q, hq⟩ := Int.eq_ofNat_of_zero_le hd0
      rw [hq] at hd1 ⊢
      refine vo_ixL (d := .int k2) rfl (atI_nat (j := 2) rfl) ?_
      repeat walk_at "v"
      obtain ⟨z, hz, W, hB, rfl⟩ := pickS (P := fun z => ∃ W, BadW W ∧ z = lineW W) (l := ["", " ", "shop"]) (k := k2 % 3) (by omega) (by show k2 % 3 < 3; omega) odd_lines
      refine vo_ixL rfl hz ?_
      repeat walk_at "v"
      have hkl : ((rs.map RowV.words).map lineW).length = rs.length := by rw [List.length_map, List.length_map]
      rw [cutD_take D.str ((rs.map RowV.words).map lineW) (by omega)]
      refine vo_catE (fs := (((rs.map RowV.words).take q).map lineW).map D.str ++ [.str (lineW W)]) rfl rfl (by rw [Int.toNat_natCast, ← List.map_take]) (by rw [List.length_append, List.length_map, List.length_map, List.length_take, List.length_map]; show _ + 1 ≤ 100000; omega) ?_
      repeat walk_at "v"
      rw [cutD_drop D.str ((rs.map RowV.words).map lineW) (by omega)]
      refine vo_catE (fs := (((rs.map RowV.words).take q ++ [W] ++ (rs.map RowV.words).drop q).map lineW).map D.str) rfl rfl (by rw [lines_mid, Int.toNat_natCast, ← List.map_drop]) (by rw [List.length_map, List.length_map, List.length_append, List.length_append, List.length_take, List.length_drop, List.length_map]; show _ + 1 + _ ≤ 100000; omega) ?_
      refine ⟨_, rfl, mid_bad hok (fun X hX => List.mem_of_mem_take hX) (fun X hX => List.mem_of_mem_drop hX) (by rw [List.length_take, List.length_drop, List.length_map]; omega) hB⟩
    · refine vs_asg ?_
      repeat walk_at "v"
      have hlast : ∃ z, (y :: t)[t.length]? = some z := ⟨_, List.getElem?_eq_getElem (by rw [List.length_cons]; omega)⟩
      obtain ⟨zl, hzl⟩ := hlast
      have hzlm := List.mem_of_getElem? hzl
      have hzl60 := hG.ok zl hzlm
      refine vo_ixL (d := .str zl) rfl (by
        unfold atI
        rw [List.length_map, List.length_cons, ixN_last (Nat.succ_pos _)]
        show ((y :: t).map D.str)[t.length]? = _
        rw [List.getElem?_map, hzl]
        rfl) ?_
      repeat walk_at "v"
      refine vo_ixL (d := .int k2) rfl (atI_nat (j := 2) rfl) ?_
      repeat walk_at "v"
      obtain ⟨z, hz, ⟨ch, hch, hfig⟩, hzp, hz1⟩ := pickS (P := fun z => (∃ ch ∈ z.cps.toList, figB ch = false) ∧ plainS z = true ∧ z.length = 1) (l := ["'", "\t", ",", ";"]) (k := k2 % 4) (by omega) (by show k2 % 4 < 4; omega) (fun z hz => by
        simp only [List.mem_cons, List.not_mem_nil, or_false] at hz
        rcases hz with rfl | rfl | rfl | rfl
        · exact ⟨⟨39, by decide +kernel, by decide⟩, by decide +kernel, by decide +kernel⟩
        · exact ⟨⟨9, by decide +kernel, by decide⟩, by decide +kernel, by decide +kernel⟩
        · exact ⟨⟨44, by decide +kernel, by decide⟩, by decide +kernel, by decide +kernel⟩
        · exact ⟨⟨59, by decide +kernel, by decide⟩, by decide +kernel, by decide +kernel⟩)
      refine vo_ixL rfl hz ?_
      repeat walk_at "v"
      refine vo_add_str (by omega) ?_
      refine vg_subL rfl ?_
      repeat walk_at "v"
      refine ⟨_, t.length, rfl, by rw [List.length_map, List.length_cons]; exact ixN_last (Nat.succ_pos _), ?_⟩
      have hcm : ∀ c, c ∈ (zl ++ z).cps.toList ↔ c ∈ zl.cps.toList ∨ c ∈ z.cps.toList := fun c => by rw [app_list, List.mem_append]
      refine ⟨(y :: t).set t.length (zl ++ z), ?_, bad2 hG (num_char ((hcm ch).mpr (.inr hch)) hfig) ⟨by rw [PySem.Str.length_append]; omega, fun c hc => ?_⟩⟩
      · rw [List.map_set]
        rfl
      · rcases (hcm c).mp hc with q | q
        · exact hzl60.2 c q
        · exact (plainS_ok hzp).2 c q
  · rintro e ⟨W, rfl, hB⟩
    repeat walk_at "v"
    have hjn : ((rs.map RowV.words).map lineW).length = rs.length := by rw [List.length_map, List.length_map]
    have hWl := hB.i.len
    have hsum := words_sum (ws := W) (M := 100) fun w hw => (hB.i.ok w hw).1
    refine ve_join ?_
    repeat walk_at "v"
    refine ⟨_, rfl, ?_⟩
    repeat walk_at "v"
    refine ⟨W, .inl rfl, by have e : (" " : Str).length = 1 := rfl; rw [e]; omega, ?_⟩
    repeat walk_at "v"
    rw [cutD_take D.str ((rs.map RowV.words).map lineW) (by omega)]
    refine vo_catE (fs := (((rs.map RowV.words).take j).map lineW).map D.str ++ [.str (lineW W)]) rfl rfl (by rw [Int.toNat_natCast, ← List.map_take]; rfl) (by rw [List.length_append, List.length_map, List.length_map, List.length_take, List.length_map]; show _ + 1 ≤ 100000; omega) ?_
    repeat walk_at "v"
    rw [cutD_drop D.str ((rs.map RowV.words).map lineW) (by omega)]
    refine vo_catE (fs := (((rs.map RowV.words).take j ++ [W] ++ (rs.map RowV.words).drop (j + 1)).map lineW).map D.str) rfl rfl (by rw [lines_mid, show ((j : Nat) : Int) + 1 = ((j + 1 : Nat) : Int) by omega, Int.toNat_natCast, ← List.map_drop]) (by rw [List.length_map, List.length_map, List.length_append, List.length_append, List.length_take, List.length_drop, List.length_map]; show _ + 1 + _ ≤ 100000; omega) ?_
    exact ⟨_, rfl, mid_bad hok (fun X hX => List.mem_of_mem_take hX) (fun X hX => List.mem_of_mem_drop hX) (by rw [List.length_take, List.length_drop, List.length_map]; omega) hB⟩
end
section
variable {P : Program} {w : World} {K : PySem.W.Frag} {mg : Str → Option Value} {base : Heap}
abbrev sp_read_number_tot (K : PySem.W.Frag) : Sp := SpA K (Gd K) false (fun z : Str => [.str z]) (fun z => z.length ≤ 5000) (fun z d => numB z = true ∧ d = .int (numV z)) (fun z C => numB z = false ∧ Is K "NoText" C)
theorem c_read_number_tot (Dn : Dfn K mg "read_number" s_read_number ["word"]) (Z : Glb K mg w)  : CalX P w K mg base 1 "read_number" (sp_read_number_tot K) := by
  obtain ⟨K_NoText, q_NoText, g_NoText, k_NoText, x_NoText, b_NoText, t_NoText, e_NoText⟩ := Z.x_NoText.ex
  obtain ⟨f, fd, F, hm, hb⟩ := Dn.ex
  refine ⟨f, fd, ["word"], ?_, hm, F.kp, hb⟩
  refine F.okX sc_read_number (fun vs H Q E h => spA_len (fun _ => rfl) h) (fun cdv A outer s H vs Q E hr h => ?_)
  refine ⟨_, (pss_cons (ps_if ((pw_or (pt_not (pt_val (pe_callB call_isi (by rfl) Z.b_isinstance (by decide +kernel) (pa_cons (pv 0) (pa_cons (pe_bltn (v := .ty "str") (by rfl) Z.b_str (show bootBuiltins "str" = some (.type "str") by decide +kernel) rfl) pa_nil))))) (pw_or1 (pt_not (pt_chain op_le op_le pe_int (pe_callB call_len_str (by rfl) Z.b_len PySem.boot_len (pa_cons (pv 0) pa_nil)) (pe_gc (by rfl) Z.c_MOST)))))).pt
    (pss_one (ps_raise rfl (takes_of rfl rfl rfl rfl) (pmk_own PySem.F.excBase_ValueError x_NoText g_NoText k_NoText (raises_own b_NoText t_NoText) rfl)))
    pss_nil)
    (pss_cons (ps_if (pt_not (pt_val (pe_callB (cr_all rfl) (by rfl) Z.b_all (by decide +kernel) (pa_cons (pe_lc (own := [("sign", 1)]) rfl sc_read_number.nd (pi_str (pv 0)) (blkOk_by (N := N_read_number) (sc := defScope s_read_number) (by decide +kernel)) (fun _ _ _ _ _ => (pg_name (i := 1) sc_read_number.nd rfl (.inl rfl))) (fun _ _ _ _ _ => pts_nil) (fun _ _ _ _ _ => (pe_cmpR op_in_sign (pv 1) (pe_gc (by rfl) Z.c_FIGURES) (by rfl)))) pa_nil))))
    (pss_one (ps_raise rfl (takes_of rfl rfl rfl rfl) (pmk_own PySem.F.excBase_ValueError x_NoText g_NoText k_NoText (raises_own b_NoText t_NoText) rfl)))
    pss_nil)
    (pss_cons (ps_if ((pw_and (pt_val (pe_bm PySem.F.plainAttrs_str PySem.F.slot_str_startswith PySem.F.type_str_startswith mt_startswith (pv 0) (pa_cons pe_str pa_nil))) (pw_and1 (pt_cmpR op_ne (pv 0) pe_str (nomark _))))).pt
    (pss_one (ps_raise rfl (takes_of rfl rfl rfl rfl) (pmk_own PySem.F.excBase_ValueError x_NoText g_NoText k_NoText (raises_own b_NoText t_NoText) rfl)))
    pss_nil)
    (pss_one (ps_ret (pe_callTy call_int_str (by rfl) Z.b_int (by decide +kernel) (pa_cons (pv 0) pa_nil))))))), ?_⟩
  try dsimp only [cxOf, Cx.nox, Cx.wish]
  refine run_def (N := N_read_number) (fun _ => Nat.le_of_ble_eq_true rfl) (env0 := fun z : Str => [.p (.str z), .u]) (fun _ => rfl) (fun B z hp L => ?_) h
  have nb : ∀ {q : Prop}, (numB z = true → q → False) → q → numB z = false := fun f q => by
    cases e : numB z with
    | false => rfl
    | true => exact (f e q).elim
  refine vs_seq ?_
  refine vs_if ?_
  repeat walk_at "v"
  refine and_f rfl ?_
  repeat walk_at "v"
  refine ve_chain ?_
  repeat walk_at "v"
  refine vc_lenS (by omega) ?_
  repeat walk_at "v"
  refine ⟨fun h1 => ?_, fun h1 => ?_⟩
  · have h1' : 1 ≤ z.length := by have := of_decide_eq_true h1; omega
    repeat walk_at "v"
    refine ⟨fun h2 => ?_, fun h2 => ?_⟩
    · exact vs_raise L ⟨nb (fun e _ => by have := (numB_iff.mp e).2.1; have h2 : (!decide (((z.length : Nat) : Int) ≤ 60)) = true := h2; rw [decide_eq_true (by omega)] at h2; cases h2) trivial, q_NoText⟩
    · have h2' : z.length ≤ 60 := by
        have : decide (((z.length : Nat) : Int) ≤ 60) = true := by simpa using h2
        have := of_decide_eq_true this
        omega
      repeat walk_at "v"
      refine vs_if ?_
      repeat walk_at "v"
      refine ve_lcT (xs := z.cps.toList) (g := fun c => D.str ⟨#[c]⟩) (h := D.bl) (fun c => some (figB c)) (hu1 rfl) (only_name (by decide)) (vi_str ?_)
      repeat walk_at "v"
      have hzl := slen z
      refine ⟨_, rfl, rfl, by omega, fun q i c hc => ?_, ?_⟩
      · repeat walk_at "v"
        refine ⟨.set .refl (by decide), ?_⟩
        repeat walk_at "v"
        refine and_t rfl ?_
        repeat walk_at "v"
        refine vo_inSign ?_
        rw [figs_mem]
        exact fz_p ⟨_, rfl, rfl⟩
      rw [fm_some]
      repeat walk_at "v"
      refine vc_all rfl ?_
      repeat walk_at "v"
      rw [List.all_map]
      refine ⟨fun h3 => ?_, fun h3 => ?_⟩
      · exact vs_raise L ⟨nb (fun e _ => by have := (numB_iff.mp e).2.2.1; have h3 : (!(z.cps.toList.all (id ∘ figB))) = true := h3; rw [show z.cps.toList.all (id ∘ figB) = true from this] at h3; cases h3) trivial, q_NoText⟩
      · have h3' : z.cps.toList.all figB = true := by
          have : z.cps.toList.all (id ∘ figB) = true := by simpa using h3
          exact this
        repeat walk_at "v"
        refine vs_if ?_
        repeat walk_at "v"
        refine ve_starts ?_
        repeat walk_at "v"
        refine ⟨_, rfl, ?_⟩
        repeat walk_at "v"
        refine ⟨_, rfl, ?_⟩
        rw [starts0]
        refine ⟨_, rfl, fun hb => ?_, fun hb => ?_⟩
        · have he : z.cps.toList.head? = some 48 := of_decide_eq_true hb
          repeat walk_at "v"
          refine ⟨fun hc => ?_, fun hc => ?_⟩
          · have hz0 : z ≠ "0" := fun e => by
              rw [decide_eq_true e] at hc
              cases hc
            exact vs_raise L ⟨nb (fun e _ => by
              rcases (numB_iff.mp e).2.2.2 with w | w
              · exact hz0 w
              · exact w he) trivial, q_NoText⟩
          · have hz0 : z = "0" := by
              by_cases e : z = "0"
              · exact e
              · rw [decide_eq_false e] at hc
                cases hc
            have hN : numB z = true := numB_iff.mpr ⟨h1', h2', h3', .inl hz0⟩
            obtain ⟨m, hm⟩ := numB_val hN
            repeat walk_at "v"
            refine vc_intS hm (by omega) ?_
            exact ⟨rfl, hN, by unfold numV; rw [hm]; rfl⟩
        · refine and_f rfl ?_
          have hN : numB z = true := numB_iff.mpr ⟨h1', h2', h3', .inr (of_decide_eq_false hb)⟩
          obtain ⟨m, hm⟩ := numB_val hN
          repeat walk_at "v"
          refine vc_intS hm (by omega) ?_
          exact ⟨rfl, hN, by unfold numV; rw [hm]; rfl⟩
  · repeat walk_at "v"
    refine and_t rfl ?_
    exact vs_raise L ⟨nb (fun e _ => by have := (numB_iff.mp e).1; have := of_decide_eq_false h1; omega) trivial, q_NoText⟩
end
section
variable {P : Program} {w : World} {K : PySem.W.Frag} {mg : Str → Option Value} {base : Heap}
abbrev sp_read_row_x (K : PySem.W.Frag) : Sp := SpA K (Gd K) false (fun W : List Str => [.str (lineW W)]) (fun W => WordsIn W) (fun W d => ∃ ds, parseRow W = some ds ∧ d = .lst ds) (fun W C => parseRow W = none ∧ Is K "NoText" C)
theorem c_read_row_x (Dn : Dfn K mg "read_row" s_read_row ["row"]) (Z : Glb K mg w) (C_read_number_tot : CalX P w K mg base 1 "read_number" (sp_read_number_tot K)) (C_is_name : Cal P w K mg base 1 "is_name" (sp_is_name K) []) : CalX P w K mg base 2 "read_row" (sp_read_row_x K) := by
  obtain ⟨d_FORMS, es_FORMS, n_FORMS, m_FORMS, D_FORMS, z_FORMS, v_FORMS⟩ := Z.t_FORMS.ex
  obtain ⟨K_NoText, q_NoText, g_NoText, k_NoText, x_NoText, b_NoText, t_NoText, e_NoText⟩ := Z.x_NoText.ex
  obtain ⟨f, fd, F, hm, hb⟩ := Dn.ex
  refine ⟨f, fd, ["row"], ?_, hm, F.kp, hb⟩
  refine F.okX sc_read_row (fun vs H Q E h => spA_len (fun _ => rfl) h) (fun cdv A outer s H vs Q E hr h => ?_)
  refine ⟨_, (pss_cons (ps_set (i := 1) sc_read_row.nd rfl (.inl rfl) (pe_split (pv 0) pe_str))
    (pss_cons (ps_if (pt_cmpR (op_notIn_kd D_FORMS) (pe_ix ix_list (pv 1) pe_int (fun _ _ => rfl)) (pe_glob (v := .ref d_FORMS) (by rfl) m_FORMS rfl) (by rfl))
    (pss_one (ps_raise rfl (takes_of rfl rfl rfl rfl) (pmk_own PySem.F.excBase_ValueError x_NoText g_NoText k_NoText (raises_own b_NoText t_NoText) rfl)))
    pss_nil)
    (pss_cons (ps_asg (pe_ix (ix_kd D_FORMS) (pe_glob (v := .ref d_FORMS) (by rfl) m_FORMS rfl) (pe_ix ix_list (pv 1) pe_int (fun _ _ => rfl)) (fun _ _ => rfl)) (pg_tup rfl (pgs_cons (pg_name (i := 2) sc_read_row.nd rfl (.inl rfl)) (pgs_cons (pg_name (i := 3) sc_read_row.nd rfl (.inl rfl)) pgs_nil))))
    (pss_cons (ps_if (pt_cmpR op_ne (pe_callB call_len_seq (by rfl) Z.b_len PySem.boot_len (pa_cons (pv 1) pa_nil)) (pe_op op_add (pe_op op_add pe_int (pv 2)) (pv 3)) (nomark _))
    (pss_one (ps_raise rfl (takes_of rfl rfl rfl rfl) (pmk_own PySem.F.excBase_ValueError x_NoText g_NoText k_NoText (raises_own b_NoText t_NoText) rfl)))
    pss_nil)
    (pss_cons (ps_if (pt_not (pt_val (pe_callB (cr_all rfl) (by rfl) Z.b_all (by decide +kernel) (pa_cons (pe_lc (own := [("word", 4)]) rfl sc_read_row.nd (pi_list (pe_slice sl_list (pv 1) (po_some pe_int) (po_some (pe_op op_add pe_int (pv 2))))) (blkOk_by (N := N_read_row) (sc := defScope s_read_row) (by decide +kernel)) (fun _ _ _ _ _ => (pg_name (i := 4) sc_read_row.nd rfl (.inl rfl))) (fun _ _ _ _ _ => pts_nil) (fun _ _ _ _ _ => (pe_c C_is_name hr (by first | decide | omega) (by rfl) (pa_cons (pv 4) pa_nil)))) pa_nil))))
    (pss_one (ps_raise rfl (takes_of rfl rfl rfl rfl) (pmk_own PySem.F.excBase_ValueError x_NoText g_NoText k_NoText (raises_own b_NoText t_NoText) rfl)))
    pss_nil)
    (pss_one (ps_ret (pe_op op_cat (pe_slice sl_list (pv 1) po_none (po_some (pe_op op_add pe_int (pv 2)))) (pe_lcX (own := [("word", 4)]) rfl rfl (takes_of rfl rfl rfl rfl) rfl sc_read_row.nd (pi_list (pe_slice sl_list (pv 1) (po_some (pe_op op_add pe_int (pv 2))) po_none)) (blkOk_by (N := N_read_row) (sc := defScope s_read_row) (by decide +kernel)) (fun _ _ _ _ _ _ => (pg_name (i := 4) sc_read_row.nd rfl (.inl rfl))) (fun _ _ _ _ _ _ => pts_nil) (fun _ _ _ _ _ _ pq => (pe_cX C_read_number_tot hr (by first | decide | omega) (by rfl) pq (pa_cons (pv 4) pa_nil)))))))))))), ?_⟩
  try dsimp only [cxOf, Cx.nox, Cx.wish]
  refine run_def (N := N_read_row) (fun _ => Nat.le_of_ble_eq_true rfl) (env0 := fun W : List Str => [.p (.str (lineW W)), .u, .u, .u, .u]) (fun _ => rfl) (fun B W hp L => ?_) h
  have hll := lineW_len hp
  obtain ⟨y, r, hW⟩ := List.exists_cons_of_ne_nil hp.ne
  have hlen := hp.len
  rw [hW, List.length_cons] at hlen
  have hok : ∀ w ∈ y :: r, w.length ≤ 100 := fun w hw => (hp.ok w (by rw [hW]; exact hw)).1
  refine vs_seq ?_
  refine vs_asg ?_
  refine ve_split ?_
  repeat walk_at "v"
  refine ⟨_, rfl, ?_⟩
  repeat walk_at "v"
  refine ⟨_, rfl, by decide, by omega, ?_⟩
  rw [lineW_split hp, hW]
  refine vg_o (Nat.le_of_ble_eq_true rfl) ?_
  refine vs_frz 1 (.inr rfl) ?_
  refine vs_seq ?_
  refine vs_if ?_
  repeat walk_at "v"
  refine vo_ixL (d := .str y) rfl (atI_nat (j := 0) rfl) ?_
  repeat walk_at "v"
  have none_of : ∀ n m, formOf y = some (n, m) → ¬ (r.length = n + m ∧ (∀ w ∈ r.take n, nameS w = true) ∧ ∀ w ∈ r.drop n, numB w = true) → parseRow (y :: r) = none := fun n m hf hno => by
    cases e : parseRow (y :: r) with
    | none => rfl
    | some ds =>
      obtain ⟨y', r', n', m', e1, e2, e3, e4, e5, _⟩ := parse_row e
      obtain ⟨rfl, rfl⟩ := List.cons.inj e1
      rw [hf] at e2
      cases e2
      exact absurd ⟨e3, e4, e5⟩ hno
  cases hf : formOf y with
  | none =>
    have hno : y ∉ formTab.map (·.1) := fun hm => by
      unfold formOf at hf
      have e : formTab.map (·.1) = (["ware", "coming", "part", "want"] : List Str) := rfl
      rw [e] at hm
      simp only [List.mem_cons, List.not_mem_nil, or_false] at hm
      rcases hm with rfl | rfl | rfl | rfl <;> revert hf <;> decide +kernel
    refine vo_notInKd (z_FORMS y hno) ?_
    repeat walk_at "v"
    refine and_t rfl ?_
    exact vs_raise L ⟨by rw [hW]; unfold parseRow; dsimp only; rw [hf], q_NoText⟩
  | some nm =>
    obtain ⟨n, m⟩ := nm
    obtain ⟨hmem, n1, n2, m1, m2⟩ := form_mem hf
    obtain ⟨t, ht1, ht2⟩ := v_FORMS _ hmem
    clear z_FORMS v_FORMS hmem
    refine vo_notInKd ht1 ?_
    repeat walk_at "v"
    refine and_f rfl ?_
    repeat walk_at "v"
    refine vo_ixL (d := .str y) rfl (atI_nat (j := 0) rfl) ?_
    repeat walk_at "v"
    refine vo_itKd ht1 ht2 (ds := [.int n, .int m]) (fun R => .cons (.int _) (.cons (.int _) .nil)) ?_
    repeat walk_at "v"
    refine vs_if ?_
    repeat walk_at "v"
    refine ⟨fun hb => ?_, fun hb => ?_⟩
    · have hl : r.length ≠ n + m := fun e => by
        rw [List.length_map, List.length_cons, e] at hb
        revert hb
        simp
        omega
      exact vs_raise L ⟨by rw [hW]; exact none_of n m hf fun z => hl z.1, q_NoText⟩
    · have hr : r.length = n + m := by
        rw [List.length_map, List.length_cons] at hb
        have : ¬ ((r.length + 1 : Nat) : Int) ≠ 1 + n + m := by simpa using hb
        omega
      refine vs_next ?_
      refine vs_seq ?_
      refine vs_if ?_
      repeat walk_at "v"
      have hdrop : ((y :: r).take (1 + (n : Int)).toNat).drop (1 : Int).toNat = r.take n := by
        rw [show (1 + (n : Int)).toNat = n + 1 by omega]
        rfl
      refine ve_lcT (xs := r.take n) (g := D.str) (h := D.bl) (fun w => some (nameS w)) (hu1 rfl) (only_name (by decide)) (vi_l ?_)
      repeat walk_at "v"
      rw [cutD_mid D.str (y :: r) (by decide) (by omega), hdrop]
      have hr9 : r.length ≤ 9 := by omega
      refine ⟨_, rfl, rfl, by rw [List.length_take]; omega, fun q i w hw => ?_, ?_⟩
      · have hlw := hok w (List.mem_cons_of_mem _ (List.mem_of_mem_take (List.mem_of_getElem? hw)))
        repeat walk_at "v"
        refine ⟨.set .refl (by decide), ?_⟩
        repeat walk_at "v"
        refine and_t rfl ?_
        walk_at "c"
        repeat walk_at "v"
        refine ⟨.str w, rfl, .str (by omega), fun _ h => h.elim, ?_⟩
        rintro _ rfl
        exact fz_p ⟨_, rfl, rfl⟩
      rw [fm_some]
      repeat walk_at "v"
      refine vc_all rfl ?_
      rw [List.all_map]
      repeat walk_at "v"
      refine ⟨fun hb => ?_, fun hb => ?_⟩
      · have hna : ¬ ∀ w ∈ r.take n, nameS w = true := fun z => by
          have e : (r.take n).all (id ∘ nameS) = true := List.all_eq_true.mpr z
          rw [e] at hb
          cases hb
        exact vs_raise L ⟨by rw [hW]; exact none_of n m hf fun z => hna z.2.1, q_NoText⟩
      · have hn : ∀ w ∈ r.take n, nameS w = true := by
          have e : (r.take n).all (id ∘ nameS) = true := by simpa using hb
          exact List.all_eq_true.mp e
        repeat walk_at "v"
        have hdrop2 : (y :: r).drop (1 + (n : Int)).toNat = r.drop n := by
          rw [show (1 + (n : Int)).toNat = n + 1 by omega]
          rfl
        have htake2 : (y :: r).take (1 + (n : Int)).toNat = y :: r.take n := by
          rw [show (1 + (n : Int)).toNat = n + 1 by omega]
          rfl
        rw [cutD_take D.str (y :: r) (by omega), htake2]
        refine ve_lc (hu1 rfl) (only_name (by decide)) (vi_l ?_)
        repeat walk_at "v"
        rw [cutD_drop D.str (y :: r) (by omega), hdrop2]
        refine ⟨_, rfl, by rw [List.length_map, List.length_drop]; omega, fun j acc => acc = ((r.drop n).take j).map (fun w => D.int (numV w)) ∧ ∀ w ∈ (r.drop n).take j, numB w = true, ⟨rfl, fun w hw => by rw [List.take_zero] at hw; cases hw⟩, ?_, ?_⟩
        · rintro q i d acc hi ⟨rfl, hall⟩
          obtain ⟨w, hw, rfl⟩ := map_get hi
          have hwm := List.mem_of_getElem? hw
          have hlw := hok w (List.mem_cons_of_mem _ (List.mem_of_mem_drop hwm))
          repeat walk_at "v"
          refine ⟨.set .refl (by decide), ?_⟩
          repeat walk_at "v"
          refine and_t rfl ?_
          refine ve_call (lets_pr L) ?_
          repeat walk_at "v"
          refine ⟨w, rfl, (by show w.length ≤ 5000; omega), fun C hC => ⟨by rw [hW]; exact none_of n m hf fun z => by rw [z.2.2 w hwm] at hC; exact absurd hC.1 (by decide), hC.2⟩, ?_⟩
          rintro _ ⟨hN, rfl⟩
          repeat walk_at "v"
          refine ⟨_, rfl, ?_, ?_⟩
          · rw [take_one hw, List.map_append]
            rfl
          · rw [take_one hw]
            intro v hv
            rcases List.mem_append.mp hv with hv | hv
            · exact hall v hv
            · rw [List.mem_singleton.mp hv]
              exact hN
        · rintro acc ⟨rfl, hall⟩
          rw [List.length_map, List.take_length] at hall ⊢
          refine fz_o ?_
          refine vo_cat rfl rfl (by rw [List.length_map, List.length_cons, List.length_take, List.length_map, List.length_drop]; omega) ?_
          refine ⟨_, ?_, rfl⟩
          unfold parseRow
          dsimp only
          rw [hf]
          dsimp only
          rw [if_pos (by rw [Bool.and_eq_true, Bool.and_eq_true]; exact ⟨decide_eq_true hr, List.all_eq_true.mpr hn, List.all_eq_true.mpr hall⟩)]
          rfl
end
/-- what is handed in to be read: a text of words, or no text -/
inductive RIn where
  | txt (wss : List (List Str)) | odd (d : D)
def RIn.d : RIn → D
  | .txt wss => .str (txtW wss)
  | .odd d => d
inductive OddD : D → Prop
  | non : OddD .non
  | int (n : Int) : OddD (.int n)
  | lst (ds : List D) : OddD (.lst ds)
  | tup (ds : List D) : OddD (.tup ds)
def RIn.ok : RIn → Prop
  | .txt wss => wss ≠ [] ∧ wss.length ≤ 400 ∧ ∀ W ∈ wss, WordsIn W
  | .odd d => OddD d
section
variable {P : Program} {w : World} {K : PySem.W.Frag} {mg : Str → Option Value} {base : Heap}
abbrev sp_read_shop_x (K : PySem.W.Frag) : Sp := SpA K (Gd K) false (fun x : RIn => [x.d]) (fun x => x.ok) (fun x d => ∃ wss rs, x = .txt wss ∧ Parsed wss rs ∧ GoodRs rs ∧ d = shopD (shopOf rs))
  (fun x C => (((∃ d, x = .odd d) ∨ ∃ wss, x = .txt wss ∧ ∃ W ∈ wss, parseRow W = none) ∧ Is K "NoText" C) ∨ ∃ wss rs, x = .txt wss ∧ Parsed wss rs ∧ ¬ GoodRs rs ∧ Is K "NoShop" C)
theorem c_read_shop_x (Dn : Dfn K mg "read_shop" s_read_shop ["text"]) (Z : Glb K mg w) (C_is_shop : Cal P w K mg base 7 "is_shop" (sp_is_shop K) []) (C_pairs_of : Cal P w K mg base 1 "pairs_of" (sp_pairs_of K) []) (C_read_row_x : CalX P w K mg base 2 "read_row" (sp_read_row_x K)) : CalX P w K mg base 8 "read_shop" (sp_read_shop_x K) := by
  obtain ⟨K_NoShop, q_NoShop, g_NoShop, k_NoShop, x_NoShop, b_NoShop, t_NoShop, e_NoShop⟩ := Z.x_NoShop.ex
  obtain ⟨K_NoText, q_NoText, g_NoText, k_NoText, x_NoText, b_NoText, t_NoText, e_NoText⟩ := Z.x_NoText.ex
  obtain ⟨f, fd, F, hm, hb⟩ := Dn.ex
  refine ⟨f, fd, ["text"], ?_, hm, F.kp, hb⟩
  refine F.okX sc_read_shop (fun vs H Q E h => spA_len (fun _ => rfl) h) (fun cdv A outer s H vs Q E hr h => ?_)
  refine ⟨_, (pss_cons (ps_if (pt_not (pt_val (pe_callB call_isi (by rfl) Z.b_isinstance (by decide +kernel) (pa_cons (pv 0) (pa_cons (pe_bltn (v := .ty "str") (by rfl) Z.b_str (show bootBuiltins "str" = some (.type "str") by decide +kernel) rfl) pa_nil)))))
    (pss_one (ps_raise rfl (takes_of rfl rfl rfl rfl) (pmk_own PySem.F.excBase_ValueError x_NoText g_NoText k_NoText (raises_own b_NoText t_NoText) rfl)))
    pss_nil)
    (pss_cons (ps_setLcX (i := 1) (own := [("row", 4)]) rfl rfl (takes_of rfl rfl rfl rfl) rfl sc_read_shop.nd rfl rfl (sw_true rfl rfl rfl (by decide +kernel)) (pi_list (pe_split (pv 0) pe_str)) (blkOk_by (N := N_read_shop) (sc := defScope s_read_shop) (by decide +kernel)) (fun _ _ _ _ _ _ => (pg_name (i := 4) sc_read_shop.nd rfl (.inl rfl))) (fun _ _ _ _ _ _ => pts_nil) (fun _ _ _ _ _ _ pq => (pe_cX C_read_row_x hr (by first | decide | omega) (by rfl) pq (pa_cons (pv 4) pa_nil))))
    (pss_cons (ps_setLc (i := 2) (own := [("row", 4)]) rfl sc_read_shop.nd rfl rfl (sw_true rfl rfl rfl (by decide +kernel)) (pi_list (pv 1)) (blkOk_by (N := N_read_shop) (sc := defScope s_read_shop) (by decide +kernel)) (fun _ _ _ _ _ => (pg_name (i := 4) sc_read_shop.nd rfl (.inl rfl))) (fun _ _ _ _ _ => (pts_one (pt_cmpR op_eq (pe_ix (show IxR _ (rIxL K) from ix_list) (pv 4) pe_int (fun _ _ => rfl)) pe_str (nomark _)))) (fun _ _ _ _ _ => (pe_ix (show IxR _ (rIxL K) from ix_list) (pv 4) pe_int (fun _ _ => rfl))))
    (pss_cons (ps_set (i := 3) sc_read_shop.nd rfl (.inl rfl) (pe_lst pa_nil))
    (pss_cons (ps_for (passes_of rfl) rfl (pi_list (pv 1)) (pg_name (i := 4) sc_read_shop.nd rfl (.inl rfl))
    (pss_one (ps_if (pt_cmpR op_eq (pe_ix ix_list (pv 4) pe_int (fun _ _ => rfl)) pe_str (nomark _))
      (pss_cons (ps_set (i := 5) sc_read_shop.nd rfl (.inl rfl) (pe_c C_pairs_of hr (by first | decide | omega) (by rfl) (pa_cons (pv 1) (pa_cons pe_str (pa_cons (pe_ix ix_list (pv 4) pe_int (fun _ _ => rfl)) pa_nil)))))
        (pss_one (ps_expr (pe_bm PySem.F.plainAttrs_list PySem.F.slot_list_append PySem.F.type_list_append mt_append (pv 3) (pa_cons (pe_op op_catA (pe_callTy call_tuple_of (by rfl) Z.b_tuple (by decide +kernel) (pa_cons (pe_slice sl_list (pv 4) (po_some pe_int) po_none) pa_nil)) (pe_tup (pa_cons (pv 5) (pa_cons (pe_c C_pairs_of hr (by first | decide | omega) (by rfl) (pa_cons (pv 1) (pa_cons pe_str (pa_cons (pe_ix ix_list (pv 4) pe_int (fun _ _ => rfl)) pa_nil)))) pa_nil)))) pa_nil)))))
      (pss_one (ps_if (pt_cmpR op_notIn_seq (pe_ix ix_list (pv 4) pe_int (fun _ _ => rfl)) (pv 2) (by rfl))
        (pss_one (ps_raise rfl (takes_of rfl rfl rfl rfl) (pmk_own PySem.F.excBase_ValueError x_NoShop g_NoShop k_NoShop (raises_own b_NoShop t_NoShop) rfl)))
        pss_nil)))))
    (pss_cons (ps_set (i := 6) sc_read_shop.nd rfl (.inl rfl) (pe_tup (pa_cons (pe_callTy call_tuple_of (by rfl) Z.b_tuple (by decide +kernel) (pa_cons (pv 3) pa_nil)) (pa_cons (pe_callTy call_tuple_of (by rfl) Z.b_tuple (by decide +kernel) (pa_cons (pe_lc (own := [("row", 4)]) rfl sc_read_shop.nd (pi_list (pv 1)) (blkOk_by (N := N_read_shop) (sc := defScope s_read_shop) (by decide +kernel)) (fun _ _ _ _ _ => (pg_name (i := 4) sc_read_shop.nd rfl (.inl rfl))) (fun _ _ _ _ _ => (pts_one (pt_cmpR op_eq (pe_ix (show IxR _ (rIxL K) from ix_list) (pv 4) pe_int (fun _ _ => rfl)) pe_str (nomark _)))) (fun _ _ _ _ _ => (pe_callTy (show CallR _ _ (fun xs H Q => ∃ p ys, xs = [.ref p] ∧ ((SqL K H p ys ∧ ∀ l, H l = none → Q (.ref l) (upd H l (.tup ys))) ∨ (SqT K H p ys ∧ Q (.ref p) H))) from call_tuple_of) (by rfl) Z.b_tuple (by decide +kernel) (pa_cons (pe_slice (show SlR _ (rSlL K) from sl_list) (pv 4) (po_some pe_int) po_none) pa_nil)))) pa_nil)) pa_nil))))
    (pss_cons (ps_if (pt_not (pt_val (pe_c C_is_shop hr (by first | decide | omega) (by rfl) (pa_cons (pv 6) pa_nil))))
    (pss_one (ps_raise rfl (takes_of rfl rfl rfl rfl) (pmk_own PySem.F.excBase_ValueError x_NoShop g_NoShop k_NoShop (raises_own b_NoShop t_NoShop) rfl)))
    pss_nil)
    (pss_one (ps_ret (pv 6)))))))))), ?_⟩
  try dsimp only [cxOf, Cx.nox, Cx.wish]
  refine run_def (N := N_read_shop) (fun _ => Nat.le_of_ble_eq_true rfl) (env0 := fun x : RIn => [.p x.d, .u, .u, .u, .u, .u, .u]) (fun _ => rfl) (fun B x hp L => ?_) h
  refine vs_seq ?_
  refine vs_if ?_
  cases x with
  | odd d =>
    have hd : OddD d := hp
    dsimp only [RIn.d]
    cases hd with
    | non =>
      repeat walk_at "v"
      refine and_t rfl ?_
      exact vs_raise L (.inl ⟨.inl ⟨_, rfl⟩, q_NoText⟩)
    | int n =>
      repeat walk_at "v"
      refine and_t rfl ?_
      exact vs_raise L (.inl ⟨.inl ⟨_, rfl⟩, q_NoText⟩)
    | lst ds =>
      repeat walk_at "v"
      refine and_t rfl ?_
      exact vs_raise L (.inl ⟨.inl ⟨_, rfl⟩, q_NoText⟩)
    | tup ds =>
      repeat walk_at "v"
      refine and_t rfl ?_
      exact vs_raise L (.inl ⟨.inl ⟨_, rfl⟩, q_NoText⟩)
  | txt wss =>
  obtain ⟨hne, hl, hok⟩ := hp
  dsimp only [RIn.d]
  have htl := txtW_len hok
  have hsp := txtW_split hne hok
  repeat walk_at "v"
  refine and_f rfl ?_
  refine vs_next ?_
  refine vs_seq ?_
  refine vs_asg ?_
  refine ve_lc (hu1 rfl) (only_name (by decide)) (vi_l ?_)
  refine ve_splitL ?_
  repeat walk_at "v"
  refine ⟨_, rfl, ?_⟩
  repeat walk_at "v"
  refine ⟨_, rfl, by decide, by omega, ?_⟩
  rw [hsp]
  refine fz_o ⟨_, rfl, by rw [List.length_map, List.length_map]; omega, fun j acc => ∃ rs, acc = rs.map RowV.d ∧ Parsed (wss.take j) rs, ⟨[], rfl, by rw [List.take_zero]; exact ⟨rfl, fun r hr => (by cases hr)⟩⟩, ?_, ?_⟩
  · rintro q i d acc hi ⟨rs, rfl, hpr⟩
    obtain ⟨z, hz, rfl⟩ := map_get hi
    obtain ⟨W, hW, rfl⟩ := map_get hz
    have hWm := List.mem_of_getElem? hW
    repeat walk_at "v"
    refine ⟨.set .refl (by decide), ?_⟩
    repeat walk_at "v"
    refine and_t rfl ?_
    refine ve_call (lets_pr L) ?_
    repeat walk_at "v"
    refine ⟨W, rfl, hok W hWm, fun C hC => .inl ⟨.inr ⟨wss, rfl, W, hWm, hC.1⟩, hC.2⟩, ?_⟩
    rintro _ ⟨ds, hds, rfl⟩
    repeat walk_at "v"
    obtain ⟨r, hro, rfl⟩ := row_of hds
    exact ⟨_, rfl, rs ++ [r], by rw [List.map_append]; rfl, parsed_snoc hpr hW hds hro⟩
  rintro acc ⟨rs, rfl, hpr⟩
  rw [List.length_map, List.length_map, List.take_length] at hpr
  have hrl : rs.length ≤ 400 := by
    have := congrArg List.length hpr.1
    rw [List.length_map, List.length_map] at this
    omega
  have hrok := hpr.2
  refine vg_o (Nat.le_of_ble_eq_true rfl) ?_
  refine vs_frz 1 (.inr rfl) ?_
  refine vs_seq ?_
  refine vs_asg ?_
  refine ve_lcT (xs := rs) (g := RowV.d) (h := D.str) RowV.head? (hu1 rfl) (only_name (by decide)) (vi_l ?_)
  repeat walk_at "v"
  refine ⟨_, rfl, rfl, by omega, fun q i r hr => ?_, ?_⟩
  · repeat walk_at "v"
    refine ⟨.set .refl (by decide), ?_⟩
    cases r with
    | ware x a b c d =>
      repeat walk_at "v"
      refine vo_ixL (d := .str "ware") rfl (atI_nat (j := 0) rfl) ?_
      repeat walk_at "v"
      refine and_t (by decide) ?_
      repeat walk_at "v"
      refine vo_ixL (d := .str x) rfl (atI_nat (j := 1) rfl) ?_
      exact fz_p ⟨_, rfl, rfl⟩
    | coming x a d =>
      repeat walk_at "v"
      refine vo_ixL (d := .str "coming") rfl (atI_nat (j := 0) rfl) ?_
      repeat walk_at "v"
      exact and_f (by decide) rfl
    | part x a d =>
      repeat walk_at "v"
      refine vo_ixL (d := .str "part") rfl (atI_nat (j := 0) rfl) ?_
      repeat walk_at "v"
      exact and_f (by decide) rfl
    | want x a d =>
      repeat walk_at "v"
      refine vo_ixL (d := .str "want") rfl (atI_nat (j := 0) rfl) ?_
      repeat walk_at "v"
      exact and_f (by decide) rfl
  refine vg_o (Nat.le_of_ble_eq_true rfl) ?_
  refine vs_frz 2 (.inr rfl) ?_
  repeat walk_at "v"
  refine vs_for (vi_l ?_)
  repeat walk_at "v"
  refine ⟨_, rfl, fun i e => ∃ (x4 x5 : Slot), e = [.p (.str (txtW wss)), .p (.lst (rs.map RowV.d)), .p (.lst ((headsV rs).map D.str)), .mu (.lst (((rs.take i).filterMap (RowV.ware? rs)).map wareD)), x4, x5, .u] ∧ ∀ r ∈ rs.take i, r.nm ∈ headsV rs, ⟨_, _, rfl, fun r hr => by rw [List.take_zero] at hr; cases hr⟩, ?_, ?_⟩
  · rintro i d e hi ⟨x4, x5, rfl, hsofar⟩
    obtain ⟨r, hr, rfl⟩ := map_get hi
    have heard : ∀ q : RowV, rs[i]? = some q → q.nm ∈ headsV rs → ∀ r ∈ rs.take (i + 1), r.nm ∈ headsV rs := fun q hq hn r hr => by
      rw [take_one hq] at hr
      rcases List.mem_append.mp hr with hr | hr
      · exact hsofar r hr
      · rw [List.mem_singleton.mp hr]
        exact hn
    have hrm := List.mem_of_getElem? hr
    have hfl : ((rs.take i).filterMap (RowV.ware? rs)).length ≤ 400 := Nat.le_trans (List.length_filterMap_le _ _) (by rw [List.length_take]; omega)
    have hstep : (rs.take (i + 1)).filterMap (RowV.ware? rs) = (rs.take i).filterMap (RowV.ware? rs) ++ (RowV.ware? rs r).toList := by
      rw [take_one hr, List.filterMap_append]
      cases e : RowV.ware? rs r <;> simp [e]
    cases r with
    | ware x a b c d =>
      repeat walk_at "v"
      refine vs_if ?_
      repeat walk_at "v"
      refine vo_ixL (d := .str "ware") rfl (atI_nat (j := 0) rfl) ?_
      repeat walk_at "v"
      refine and_t (by decide) ?_
      repeat walk_at "v"
      walk_at "c"
      repeat walk_at "v"
      refine vo_ixL (d := .str x) rfl (atI_nat (j := 1) rfl) ?_
      repeat walk_at "v"
      refine ⟨(rs, false, x), rfl, by show rs.length ≤ 1000; omega, fun _ h => h, ?_⟩
      rintro _ rfl
      repeat walk_at "v"
      walk_at "c"
      repeat walk_at "v"
      refine vo_ixL (d := .str x) rfl (atI_nat (j := 1) rfl) ?_
      repeat walk_at "v"
      refine ⟨(rs, true, x), rfl, by show rs.length ≤ 1000; omega, fun _ h => h, ?_⟩
      rintro _ rfl
      repeat walk_at "v"
      refine vo_catA (by show 5 + 2 ≤ 100000; decide) ?_
      refine fz_p ⟨_, rfl, by rw [List.length_map]; omega, ?_⟩
      dsimp only
      rw [hstep, List.map_append]
      exact ⟨_, _, rfl, heard _ hr (List.mem_filterMap.mpr ⟨_, hrm, rfl⟩)⟩
    | coming x a d =>
      repeat walk_at "v"
      refine vs_if ?_
      repeat walk_at "v"
      refine vo_ixL (d := .str "coming") rfl (atI_nat (j := 0) rfl) ?_
      repeat walk_at "v"
      refine and_f (by decide) ?_
      repeat walk_at "v"
      refine vs_if ?_
      repeat walk_at "v"
      refine vo_ixL (d := .str x) rfl (atI_nat (j := 1) rfl) ?_
      repeat walk_at "v"
      refine vo_notInS rfl ?_
      repeat walk_at "v"
      refine ⟨fun hb => ?_, fun hb => ?_⟩
      · have hno : x ∉ headsV rs := by simpa using hb
        exact vs_raise L (.inr ⟨wss, rs, rfl, hpr, fun g => hno (g.1 _ hrm), q_NoShop⟩)
      · have hin : x ∈ headsV rs := by simpa using hb
        repeat walk_at "v"
        dsimp only
        rw [hstep, show (RowV.ware? rs (RowV.coming x a d)).toList = [] from rfl, List.append_nil]
        exact ⟨_, _, rfl, heard _ hr hin⟩
    | part x a d =>
      repeat walk_at "v"
      refine vs_if ?_
      repeat walk_at "v"
      refine vo_ixL (d := .str "part") rfl (atI_nat (j := 0) rfl) ?_
      repeat walk_at "v"
      refine and_f (by decide) ?_
      repeat walk_at "v"
      refine vs_if ?_
      repeat walk_at "v"
      refine vo_ixL (d := .str x) rfl (atI_nat (j := 1) rfl) ?_
      repeat walk_at "v"
      refine vo_notInS rfl ?_
      repeat walk_at "v"
      refine ⟨fun hb => ?_, fun hb => ?_⟩
      · have hno : x ∉ headsV rs := by simpa using hb
        exact vs_raise L (.inr ⟨wss, rs, rfl, hpr, fun g => hno (g.1 _ hrm), q_NoShop⟩)
      · have hin : x ∈ headsV rs := by simpa using hb
        repeat walk_at "v"
        dsimp only
        rw [hstep, show (RowV.ware? rs (RowV.part x a d)).toList = [] from rfl, List.append_nil]
        exact ⟨_, _, rfl, heard _ hr hin⟩
    | want x a d =>
      repeat walk_at "v"
      refine vs_if ?_
      repeat walk_at "v"
      refine vo_ixL (d := .str "want") rfl (atI_nat (j := 0) rfl) ?_
      repeat walk_at "v"
      refine and_f (by decide) ?_
      repeat walk_at "v"
      refine vs_if ?_
      repeat walk_at "v"
      refine vo_ixL (d := .str x) rfl (atI_nat (j := 1) rfl) ?_
      repeat walk_at "v"
      refine vo_notInS rfl ?_
      repeat walk_at "v"
      refine ⟨fun hb => ?_, fun hb => ?_⟩
      · have hno : x ∉ headsV rs := by simpa using hb
        exact vs_raise L (.inr ⟨wss, rs, rfl, hpr, fun g => hno (g.1 _ hrm), q_NoShop⟩)
      · have hin : x ∈ headsV rs := by simpa using hb
        repeat walk_at "v"
        dsimp only
        rw [hstep, show (RowV.ware? rs (RowV.want x a d)).toList = [] from rfl, List.append_nil]
        exact ⟨_, _, rfl, heard _ hr hin⟩
  · rintro e ⟨x4, x5, rfl, hall⟩
    rw [List.length_map, List.take_length] at *
    refine vs_forget 4 (vs_frz 3 (.inr rfl) ?_)
    refine vs_seq ?_
    refine vs_asg ?_
    repeat walk_at "v"
    refine ve_lcT (xs := rs) (g := RowV.d) (h := wantD) RowV.want? (hu1 rfl) (only_name (by decide)) (vi_l ?_)
    repeat walk_at "v"
    refine ⟨_, rfl, rfl, by omega, fun q i r hr => ?_, ?_⟩
    · repeat walk_at "v"
      refine ⟨.set .refl (by decide), ?_⟩
      cases r with
      | want x a d =>
        repeat walk_at "v"
        refine vo_ixL (d := .str "want") rfl (atI_nat (j := 0) rfl) ?_
        repeat walk_at "v"
        refine and_t (by decide) ?_
        repeat walk_at "v"
        exact ⟨(x, a, d), rfl, rfl⟩
      | coming x a d =>
        repeat walk_at "v"
        refine vo_ixL (d := .str "coming") rfl (atI_nat (j := 0) rfl) ?_
        repeat walk_at "v"
        exact and_f (by decide) rfl
      | part x a d =>
        repeat walk_at "v"
        refine vo_ixL (d := .str "part") rfl (atI_nat (j := 0) rfl) ?_
        repeat walk_at "v"
        exact and_f (by decide) rfl
      | ware x a b c d =>
        repeat walk_at "v"
        refine vo_ixL (d := .str "ware") rfl (atI_nat (j := 0) rfl) ?_
        repeat walk_at "v"
        exact and_f (by decide) rfl
    repeat walk_at "v"
    refine vs_if ?_
    repeat walk_at "v"
    walk_at "c"
    repeat walk_at "v"
    refine ⟨(shopD (shopOf rs)), rfl, any_shopOf hrok (by omega), fun _ h => (by first | exact h | exact h.elim), ?_⟩
    rintro _ rfl
    repeat walk_at "v"
    refine ⟨fun hb => ?_, fun hb => ?_⟩
    · have hno : ¬ shopB (shopD (shopOf rs)) = true := fun z => by
        rw [z] at hb
        cases hb
      exact vs_raise L (.inr ⟨wss, rs, rfl, hpr, fun g => hno g.2, q_NoShop⟩)
    · have hyes : shopB (shopD (shopOf rs)) = true := by
        cases e : shopB (shopD (shopOf rs)) with
        | true => rfl
        | false =>
          rw [e] at hb
          cases hb
      repeat walk_at "v"
      exact ⟨rfl, wss, rs, rfl, hpr, ⟨hall, hyes⟩, rfl⟩
end
abbrev s__law_refusal : Stmt := topS 48
abbrev N__law_refusal : List Str := ["text", "kinds", "e"]
theorem sc__law_refusal : FnScope N__law_refusal ["text"] (defScope s__law_refusal) := ⟨rfl, rfl, rfl, by decide +kernel, rfl, by decide +kernel, by decide +kernel⟩
section
variable {P : Program} {w : World} {K : PySem.W.Frag} {mg : Str → Option Value} {base : Heap}
/-- what is told of a refusal -/
def kindsD (t s : Bool) : D := .lst [.bl t, .bl s, .bl true, .bl false]
abbrev sp__law_refusal (K : PySem.W.Frag) : Sp := SpA K (Gd K) true (fun x : RIn => [x.d]) (fun x => x.ok ∧ ∀ wss rs, x = .txt wss → Parsed wss rs → ¬ GoodRs rs) (fun x d => (((∃ d, x = .odd d) ∨ ∃ wss, x = .txt wss ∧ ∃ W ∈ wss, parseRow W = none) ∧ d = kindsD true false) ∨ ((∃ wss rs, x = .txt wss ∧ Parsed wss rs) ∧ d = kindsD false true)) noRs
theorem c__law_refusal (Dn : Dfn K mg "_law_refusal" s__law_refusal ["text"]) (Z : Glb K mg w) (C_read_shop_x : CalX P w K mg base 8 "read_shop" (sp_read_shop_x K)) : CalX P w K mg base 9 "_law_refusal" (sp__law_refusal K) := by
  obtain ⟨K_NeedError, q_NeedError, g_NeedError, k_NeedError, x_NeedError, b_NeedError, t_NeedError, e_NeedError⟩ := Z.x_NeedError.ex
  obtain ⟨K_NoBuy, q_NoBuy, g_NoBuy, k_NoBuy, x_NoBuy, b_NoBuy, t_NoBuy, e_NoBuy⟩ := Z.x_NoBuy.ex
  obtain ⟨K_NoDay, q_NoDay, g_NoDay, k_NoDay, x_NoDay, b_NoDay, t_NoDay, e_NoDay⟩ := Z.x_NoDay.ex
  obtain ⟨K_NoName, q_NoName, g_NoName, k_NoName, x_NoName, b_NoName, t_NoName, e_NoName⟩ := Z.x_NoName.ex
  obtain ⟨K_NoPlan, q_NoPlan, g_NoPlan, k_NoPlan, x_NoPlan, b_NoPlan, t_NoPlan, e_NoPlan⟩ := Z.x_NoPlan.ex
  obtain ⟨K_NoShop, q_NoShop, g_NoShop, k_NoShop, x_NoShop, b_NoShop, t_NoShop, e_NoShop⟩ := Z.x_NoShop.ex
  obtain ⟨K_NoText, q_NoText, g_NoText, k_NoText, x_NoText, b_NoText, t_NoText, e_NoText⟩ := Z.x_NoText.ex
  obtain ⟨K_Ring, q_Ring, g_Ring, k_Ring, x_Ring, b_Ring, t_Ring, e_Ring⟩ := Z.x_Ring.ex
  obtain ⟨f, fd, F, hm, hb⟩ := Dn.ex
  refine ⟨f, fd, ["text"], ?_, hm, F.kp, hb⟩
  refine F.okX sc__law_refusal (fun vs H Q E h => spA_len (fun _ => rfl) h) (fun cdv A outer s H vs Q E hr h => ?_)
  refine ⟨_, (pss_cons (ps_set (i := 1) sc__law_refusal.nd rfl (.inl rfl) (pe_lst pa_nil))
    (pss_cons (ps_try (i := 2) (c := .ref K_NeedError) rfl rfl sc__law_refusal.nd rfl rfl ⟨by rfl, by decide, .inl g_NeedError⟩ (takes_of rfl rfl rfl rfl) (fun W pn xe tk po => (pss_one (ps_expr (pe_cT C_read_shop_x hr (by first | decide | omega) (by rfl) tk (pa_cons (pv 0) pa_nil))))) (fun a oe cls d pn hz hf => (pss_cons (ps_set (i := 1) sc__law_refusal.nd rfl (.inl rfl) (pe_lst (pa_cons (pe_callB (show CallR _ _ (rIsX K cls d a) from call_isX hz hf) (by rfl) Z.b_isinstance (by decide +kernel) (pa_cons (pv 2) (pa_cons (pe_glob (v := .ref K_NoText) (by rfl) g_NoText rfl) pa_nil))) (pa_cons (pe_callB (show CallR _ _ (rIsX K cls d a) from call_isX hz hf) (by rfl) Z.b_isinstance (by decide +kernel) (pa_cons (pv 2) (pa_cons (pe_glob (v := .ref K_NoShop) (by rfl) g_NoShop rfl) pa_nil))) (pa_cons (pe_callB (show CallR _ _ (rIsX K cls d a) from call_isX hz hf) (by rfl) Z.b_isinstance (by decide +kernel) (pa_cons (pv 2) (pa_cons (pe_bltn (v := .ty "ValueError") (by rfl) Z.b_ValueError (show bootBuiltins "ValueError" = some (.type "ValueError") by decide +kernel) rfl) pa_nil))) pa_nil)))))
      (pss_one (ps_expr (show PE _ _ (tBM K _ rAppend _ _) from pe_bm PySem.F.plainAttrs_list PySem.F.slot_list_append PySem.F.type_list_append mt_append (pv 1) (pa_cons (pe_callB (show CallR _ _ (rIsX K cls d a) from call_isX hz hf) (by rfl) Z.b_isinstance (by decide +kernel) (pa_cons (pv 2) (pa_cons (pe_tup (pa_cons (pe_glob (v := .ref K_Ring) (by rfl) g_Ring rfl) (pa_cons (pe_glob (v := .ref K_NoName) (by rfl) g_NoName rfl) (pa_cons (pe_glob (v := .ref K_NoDay) (by rfl) g_NoDay rfl) (pa_cons (pe_glob (v := .ref K_NoBuy) (by rfl) g_NoBuy rfl) (pa_cons (pe_glob (v := .ref K_NoPlan) (by rfl) g_NoPlan rfl) pa_nil)))))) pa_nil))) pa_nil)))))))
    (pss_one (ps_ret (pv 1))))), ?_⟩
  try dsimp only [cxOf, Cx.nox, Cx.wish]
  refine run_def (N := N__law_refusal) (fun _ => Nat.le_of_ble_eq_true rfl) (env0 := fun x : RIn => [.p x.d, .u, .u]) (fun _ => rfl) (fun B x hp L => ?_) h
  obtain ⟨hok, hbad⟩ := hp
  repeat walk_at "v"
  refine vs_try (by show 2 < 3; decide) ?_
  refine vsx_call ?_
  repeat walk_at "v"
  refine ⟨x, rfl, hok, fun C hC => ?_, fun d hd => ?_⟩
  · rcases hC with ⟨hcase, hC⟩ | ⟨wss, rs, hx, hp1, hp2, hC⟩
    · cases Is.uniq hC q_NoText
      refine ⟨Z.f_exm_NoText_NeedError _ _ q_NoText q_NeedError, by show 2 < 3; decide, fun a => ?_⟩
      repeat walk_at "v"
      refine vc_isX e_NoText rfl (Z.f_kit_NoText_NoText _ q_NoText) ?_
      repeat walk_at "v"
      refine vc_isX e_NoText rfl (Z.f_kit_NoText_NoShop _ _ q_NoText q_NoShop) ?_
      repeat walk_at "v"
      refine vc_isX e_NoText rfl (Z.f_kit_NoText_ValueError _ q_NoText) ?_
      repeat walk_at "v"
      refine vc_isXT (us := [.ref K_Ring, .ref K_NoName, .ref K_NoDay, .ref K_NoBuy, .ref K_NoPlan]) (b := false) e_NoText rfl ?_ ?_
      · refine kitAny_cons (Z.f_kit_NoText_Ring _ _ q_NoText q_Ring) (fun _ => ?_) (fun z => z)
        refine kitAny_cons (Z.f_kit_NoText_NoName _ _ q_NoText q_NoName) (fun _ => ?_) (fun z => z)
        refine kitAny_cons (Z.f_kit_NoText_NoDay _ _ q_NoText q_NoDay) (fun _ => ?_) (fun z => z)
        refine kitAny_cons (Z.f_kit_NoText_NoBuy _ _ q_NoText q_NoBuy) (fun _ => ?_) (fun z => z)
        exact kitAny_cons (Z.f_kit_NoText_NoPlan _ _ q_NoText q_NoPlan) (fun _ => rfl) (fun z => z)
      repeat walk_at "v"
      refine ⟨_, rfl, by show 3 < 100000; decide, ?_⟩
      repeat walk_at "v"
      exact .inl ⟨hcase, rfl⟩
    · cases Is.uniq hC q_NoShop
      refine ⟨Z.f_exm_NoShop_NeedError _ _ q_NoShop q_NeedError, by show 2 < 3; decide, fun a => ?_⟩
      repeat walk_at "v"
      refine vc_isX e_NoShop rfl (Z.f_kit_NoShop_NoText _ _ q_NoShop q_NoText) ?_
      repeat walk_at "v"
      refine vc_isX e_NoShop rfl (Z.f_kit_NoShop_NoShop _ q_NoShop) ?_
      repeat walk_at "v"
      refine vc_isX e_NoShop rfl (Z.f_kit_NoShop_ValueError _ q_NoShop) ?_
      repeat walk_at "v"
      refine vc_isXT (us := [.ref K_Ring, .ref K_NoName, .ref K_NoDay, .ref K_NoBuy, .ref K_NoPlan]) (b := false) e_NoShop rfl ?_ ?_
      · refine kitAny_cons (Z.f_kit_NoShop_Ring _ _ q_NoShop q_Ring) (fun _ => ?_) (fun z => z)
        refine kitAny_cons (Z.f_kit_NoShop_NoName _ _ q_NoShop q_NoName) (fun _ => ?_) (fun z => z)
        refine kitAny_cons (Z.f_kit_NoShop_NoDay _ _ q_NoShop q_NoDay) (fun _ => ?_) (fun z => z)
        refine kitAny_cons (Z.f_kit_NoShop_NoBuy _ _ q_NoShop q_NoBuy) (fun _ => ?_) (fun z => z)
        exact kitAny_cons (Z.f_kit_NoShop_NoPlan _ _ q_NoShop q_NoPlan) (fun _ => rfl) (fun z => z)
      repeat walk_at "v"
      refine ⟨_, rfl, by show 3 < 100000; decide, ?_⟩
      repeat walk_at "v"
      exact .inr ⟨⟨wss, rs, hx, hp1⟩, rfl⟩
  · obtain ⟨wss, rs, hx, h1, h2, _⟩ := hd
    exact absurd h2 (hbad wss rs hx h1)
end
abbrev s_law : Stmt := topS 49
abbrev N_law : List Str := ["script", "state", "shop", "lines", "some", "cell", "xs", "spoilt", "due", "thing"]
theorem sc_law : FnScope N_law ["script"] (defScope s_law) := ⟨rfl, rfl, rfl, by decide +kernel, rfl, by decide +kernel, by decide +kernel⟩
theorem lines_bound {wss : List (List Str)} (h : wss.length ≤ 301) (hW : ∀ W ∈ wss, WordsIn W) : ((wss.map lineW).map (·.length)).sum + (wss.map lineW).length * ("\n" : Str).length ≤ 1000000 := by
  have b := words_sum (ws := wss.map lineW) (M := 1010) fun w hw => by
    obtain ⟨W, hm, rfl⟩ := List.mem_map.mp hw
    exact lineW_len (hW W hm)
  have e : ("\n" : Str).length = 1 := rfl
  rw [List.length_map] at b ⊢
  rw [e]
  omega
theorem things {Q : List (List Str)} {d : D} (h : d ∈ [D.str "", .non, .int 7, linesW Q, .tup ((Q.map lineW).map D.str), D.str " "]) : ∃ x : RIn, x.d = d ∧ x.ok ∧ ((∃ d, x = .odd d) ∨ ∃ wss, x = .txt wss ∧ ∃ W ∈ wss, parseRow W = none) := by
  have mk : ∀ W : List Str, W ≠ [] → W.length ≤ 10 → (W.all plainS = true) → parseRow W = none → ∀ z, txtW [W] = z → ∃ x : RIn, x.d = .str z ∧ x.ok ∧ ((∃ d, x = .odd d) ∨ ∃ wss, x = .txt wss ∧ ∃ W ∈ wss, parseRow W = none) := fun W h1 h2 h3 h4 z hz => by
    refine ⟨.txt [W], by rw [← hz]; rfl, ⟨by simp, by show 1 ≤ 400; decide, fun W2 hW2 => ?_⟩, .inr ⟨[W], rfl, W, by simp, h4⟩⟩
    rw [List.mem_singleton.mp hW2]
    exact ⟨h1, h2, fun w hw => plainS_ok (List.all_eq_true.mp h3 w hw)⟩
  simp only [List.mem_cons, List.not_mem_nil, or_false] at h
  rcases h with rfl | rfl | rfl | rfl | rfl | rfl
  · exact mk [""] (by simp) (by decide) (by decide +kernel) (pn_head (by decide +kernel)) _ (by decide +kernel)
  · exact ⟨.odd .non, rfl, .non, .inl ⟨_, rfl⟩⟩
  · exact ⟨.odd (.int 7), rfl, .int 7, .inl ⟨_, rfl⟩⟩
  · exact ⟨.odd (linesW Q), rfl, .lst _, .inl ⟨_, rfl⟩⟩
  · exact ⟨.odd (.tup ((Q.map lineW).map D.str)), rfl, .tup _, .inl ⟨_, rfl⟩⟩
  · exact mk ["", ""] (by simp) (by decide) (by decide +kernel) (pn_head (by decide +kernel)) _ (by decide +kernel)
section
variable {P : Program} {w : World} {K : PySem.W.Frag} {mg : Str → Option Value} {base : Heap}
abbrev sp_law (K : PySem.W.Frag) : Sp := SpA K (Gd K) false (fun ns : List Int => [.ro (ns.map D.int)]) (fun ns => ns.length ≤ 63) (fun _ d => d = .bl true) noRs
theorem c_law {fl : Addr} {fdl : FuncData} (F : Fun K "law" "law" s_law fl fdl) (Z : Glb K mg w) (C_read_shop : Cal P w K mg base 8 "read_shop" (sp_read_shop K) []) (C__law_refusal : CalX P w K mg base 9 "_law_refusal" (sp__law_refusal K)) (C__law_no_form : Cal P w K mg base 2 "_law_no_form" (sp__law_no_form K) []) (C__law_no_shop : Cal P w K mg base 2 "_law_no_shop" (sp__law_no_shop K) []) (C__law_mixed_n : Cal P w K mg base 1 "_law_mixed" (sp__law_mixed_n K) []) (C__law_rows_p : Cal P w K mg base 1 "_law_rows" (sp__law_rows_p K) []) (C__law_any_shop_na : Cal P w K mg base 4 "_law_any_shop" (sp__law_any_shop_na K) []) (C__law_drawn : Cal P w K mg base 1 "_law_drawn" (sp__law_drawn K) []) : FnOk P w K mg base CX0 10 fl fdl ["script"] (sp_law K) := by
  refine F.ok sc_law (fun vs H Q E h => spA_len (fun _ => rfl) h) (fun cdv A outer s H vs Q E hr h => ?_)
  refine ⟨_, (pss_cons (ps_set (i := 1) sc_law.nd rfl (.inl rfl) (pe_c C__law_drawn hr (by first | decide | omega) (by rfl) (pa_cons (pv 0) pa_nil)))
    (pss_cons (ps_set (i := 2) sc_law.nd rfl (.inl rfl) (pe_c C__law_any_shop_na hr (by first | decide | omega) (by rfl) (pa_cons (pv 1) pa_nil)))
    (pss_cons (ps_set (i := 3) sc_law.nd rfl (.inl rfl) (pe_lst pa_nil))
    (pss_cons (ps_for PassesOwn.never rfl (pi_list (pe_c C__law_rows_p hr (by first | decide | omega) (by rfl) (pa_cons (pv 2) pa_nil))) (pg_name (i := 4) sc_law.nd rfl (.inl rfl))
    (pss_one (ps_expr (pe_bm PySem.F.plainAttrs_list PySem.F.slot_list_extend PySem.F.type_list_extend mt_extend (pv 3) (pa_cons (pv 4) pa_nil)))))
    (pss_cons (ps_for PassesOwn.never rfl (pi_list (pe_op op_cat (pe_slice sl_list (pv 0) (po_some pe_int) (po_some pe_int)) (pe_lst (pa_cons pe_int pa_nil)))) (pg_name (i := 5) sc_law.nd rfl (.inl rfl))
    (pss_cons (ps_set (i := 6) sc_law.nd rfl (.inl rfl) (pe_c C__law_mixed_n hr (by first | decide | omega) (by rfl) (pa_cons (pv 5) (pa_cons pe_int pa_nil))))
      (pss_cons (ps_set (i := 7) sc_law.nd rfl (.inl rfl) (pv 3))
      (pss_cons (ps_if (pt_cmpR op_gt (pe_op op_mod (pe_ix ix_list (pv 6) pe_int (fun _ _ => rfl)) pe_int) pe_int (nomark _))
      (pss_one (ps_set (i := 7) sc_law.nd rfl (.inl rfl) (pe_c C__law_no_shop hr (by first | decide | omega) (by rfl) (pa_cons (pv 7) (pa_cons (pe_ix ix_tup (pe_ix ix_tup (pe_ix ix_tup (pv 2) pe_int (fun _ _ => rfl)) pe_int (fun _ _ => rfl)) pe_int (fun _ _ => rfl)) (pa_cons (pe_ix ix_list (pv 6) pe_int (fun _ _ => rfl)) pa_nil))))))
      pss_nil)
      (pss_cons (ps_set (i := 8) sc_law.nd rfl (.inl rfl) (pe_lst (pa_cons pe_bl (pa_cons pe_bl (pa_cons pe_bl (pa_cons pe_bl pa_nil))))))
      (pss_cons (ps_if (pt_cmpR op_lt (pe_op op_mod (pe_ix ix_list (pv 6) pe_int (fun _ _ => rfl)) pe_int) pe_int (nomark _))
      (pss_cons (ps_set (i := 7) sc_law.nd rfl (.inl rfl) (pe_c C__law_no_form hr (by first | decide | omega) (by rfl) (pa_cons (pv 7) (pa_cons (pe_ix ix_list (pv 6) pe_int (fun _ _ => rfl)) pa_nil))))
        (pss_one (ps_set (i := 8) sc_law.nd rfl (.inl rfl) (pe_lst (pa_cons pe_bl (pa_cons pe_bl (pa_cons pe_bl (pa_cons pe_bl pa_nil))))))))
      pss_nil)
      (pss_one (ps_if (pt_cmpR (op_neD hr.units) (pe_cX C__law_refusal hr (by first | decide | omega) (by rfl) passL (pa_cons (pe_join pe_str (pv 7)) pa_nil)) (pv 8) (nomark _))
      (pss_one (ps_ret pe_bl))
      pss_nil))))))))
    (pss_cons (ps_for PassesOwn.never rfl (pi_list (pe_lst (pa_cons pe_str (pa_cons pe_non (pa_cons pe_int (pa_cons (pv 3) (pa_cons (pe_callTy call_tuple_of (by rfl) Z.b_tuple (by decide +kernel) (pa_cons (pv 3) pa_nil)) (pa_cons pe_str pa_nil)))))))) (pg_name (i := 9) sc_law.nd rfl (.inl rfl))
    (pss_one (ps_if (pt_cmpR (op_neD hr.units) (pe_cX C__law_refusal hr (by first | decide | omega) (by rfl) passL (pa_cons (pv 9) pa_nil)) (pe_lst (pa_cons pe_bl (pa_cons pe_bl (pa_cons pe_bl (pa_cons pe_bl pa_nil))))) (nomark _))
      (pss_one (ps_ret pe_bl))
      pss_nil)))
    (pss_one (ps_ret (pe_cmpR (op_eqD hr.units) (pe_c C_read_shop hr (by first | decide | omega) (by rfl) (pa_cons (pe_join pe_str (pv 3)) pa_nil)) (pv 2) (nomark _)))))))))), ?_⟩
  try dsimp only [cxOf, Cx.nox, Cx.wish]
  refine run_def (N := N_law) (fun _ => Nat.le_of_ble_eq_true rfl) (env0 := fun ns => [.p (.ro (ns.map D.int)), .u, .u, .u, .u, .u, .u, .u, .u, .u]) (fun _ => rfl) (fun B ns hp L => ?_) h
  repeat walk_at "u"
  refine vs_seq ?_
  repeat walk_at "u"
  walk_at "co"
  repeat walk_at "v"
  refine ⟨ns, rfl, hp, fun _ h => h, ?_⟩
  rintro _ ⟨st, rfl, gs⟩
  refine ⟨flat_ints _, .inl ⟨_, rfl⟩, ?_⟩
  repeat walk_at "u"
  refine vs_toSt 1 rfl gs ?_
  repeat walk_at "v"
  walk_at "c"
  repeat walk_at "v"
  refine ⟨(), rfl, trivial, fun _ h => h, ?_⟩
  rintro _ ⟨s, rfl, hg, hna⟩
  repeat walk_at "v"
  obtain ⟨rs, hrs⟩ : ∃ rs, rs = (gAll s).flatten := ⟨_, rfl⟩
  obtain ⟨w0, hw0⟩ : ∃ w0, s.ws[0]? = some w0 := ⟨_, List.getElem?_eq_getElem hg.lo⟩
  have hR : RowsIn s rs w0.nm := ⟨hg, by rw [hrs]; exact gAll_alike s, by rw [hrs]; exact gAll_perm s, List.mem_map_of_mem (List.mem_of_getElem? hw0), hna⟩
  have hrl := hR.len
  refine vs_for (vi_l ?_)
  repeat walk_at "v"
  walk_at "c"
  repeat walk_at "v"
  refine ⟨s, rfl, hg, fun _ h => h, ?_⟩
  rintro _ rfl
  repeat walk_at "v"
  refine ⟨(gAll s).map linesD, rfl, fun i e => ∃ x4, e = [.p (.ro (ns.map D.int)), .p .st, .p (shopD s), .mu (.lst (((gAll s).take i).flatten.map lineD)), x4, .u, .u, .u, .u, .u], ⟨_, rfl⟩, ?_, ?_⟩
  · rintro i d e hi ⟨x4, rfl⟩
    obtain ⟨g, hgi, rfl⟩ := map_get hi
    have e1 : ((gAll s).take (i + 1)).flatten = ((gAll s).take i).flatten ++ g := by
      rw [take_one hgi, List.flatten_append]
      show _ ++ (g ++ []) = _
      rw [List.append_nil]
    have e2 : ((gAll s).take (i + 1)).flatten.length ≤ 248 := by
      have e3 : (gAll s).flatten = ((gAll s).take (i + 1)).flatten ++ ((gAll s).drop (i + 1)).flatten := by rw [← List.flatten_append, List.take_append_drop]
      have e4 := congrArg List.length e3
      rw [← hrs, List.length_append] at e4
      omega
    rw [e1, List.length_append] at e2
    refine vg_p (Nat.le_of_ble_eq_true rfl) ?_
    refine vs_extend rfl ?_
    repeat walk_at "v"
    refine ⟨_, rfl, by rw [List.length_map, List.length_map]; omega, .p (linesD g), ?_⟩
    rw [e1, List.map_append]
    rfl
  rintro e ⟨x4, rfl⟩
  have et : (gAll s).take ((gAll s).map linesD).length = gAll s := by rw [List.length_map, List.take_length]
  rw [et, ← hrs]
  refine vs_freeze 3 rfl ?_
  refine vs_env [.p (.ro (ns.map D.int)), .p .st, .p (shopD s), .p (linesW (rs.map RowV.words)), x4, .u, .u, .u, .u, .u] (by
    show _ = [Slot.p _, _, _, Slot.p (.lst (((rs.map RowV.words).map lineW).map D.str)), _, _, _, _, _, _]
    rw [List.map_map, List.map_map]
    rfl) ?_
  repeat ((fail_if_success (with_reducible refine vs_next ?_)); (fail_if_success (with_reducible refine vs_seq ?_)); (fail_if_success (with_reducible refine vs_asg ?_)); walk_at "u")
  refine vs_seq ?_
  refine vs_for (vi_l ?_)
  repeat walk_at "v"
  refine vo_catE (fs := (((ns.take 21).drop 1) ++ [0]).map D.int) rfl rfl (by
    rw [cutD_mid D.int ns (by decide) (by decide), List.map_append]
    rfl) (by
    rw [List.length_map, List.length_append, List.length_drop, List.length_take]
    show _ + 1 ≤ 100000
    omega) ?_
  repeat walk_at "v"
  refine ⟨_, rfl, fun i e => ∃ (x4 x5 x6 x7 x8 : Slot), e = [.p (.ro (ns.map D.int)), .p .st, .p (shopD s), .p (linesW (rs.map RowV.words)), x4, x5, x6, x7, x8, .u], ⟨_, _, _, _, _, rfl⟩, ?_, ?_⟩
  · rintro i d e hi ⟨x4, x5, x6, x7, x8, rfl⟩
    obtain ⟨cell, hc, rfl⟩ := map_get hi
    refine vg_p (Nat.le_of_ble_eq_true rfl) ?_
    refine vs_seq ?_
    refine vs_asg ?_
    walk_at "c"
    repeat walk_at "v"
    refine ⟨(cell, 3), rfl, ⟨by show (1 : Int) ≤ 3; decide, by show (3 : Int) ≤ 4; decide⟩, fun _ h => h, ?_⟩
    rintro _ ⟨ks, rfl, hnl, hns⟩
    repeat walk_at "v"
    have hnl : ks.length = 3 := by
      have : (ks.length : Int) = 3 := hnl
      omega
    obtain ⟨k0, k1, k2, rfl⟩ : ∃ k0 k1 k2, ks = [k0, k1, k2] := by
      match ks, hnl with
      | [a, b, c], _ => exact ⟨a, b, c, rfl⟩
    have b0 := (hns k0 (by simp)).1
    clear hns hnl
    obtain ⟨w3, hw3⟩ : ∃ w3, w3 = k0 % 3 := ⟨_, rfl⟩
    refine vs_env [.p (.ro (ns.map D.int)), .p .st, .p (shopD s), .p (linesW (rs.map RowV.words)), x4, .p (.int cell), .p (.lst ([k0, k1, k2].map D.int)), .p (linesW (rs.map RowV.words)), x8, .u] rfl ?_
    refine vs_cut (fun e => ∃ qs : List RowV, e = [.p (.ro (ns.map D.int)), .p .st, .p (shopD s), .p (linesW (rs.map RowV.words)), x4, .p (.int cell), .p (.lst ([k0, k1, k2].map D.int)), .p (linesW (qs.map RowV.words)), x8, .u] ∧ qs ≠ [] ∧ qs.length ≤ 269 ∧ (∀ r ∈ qs, r.ok) ∧ (0 < w3 → ¬ GoodRs qs)) ?_ ?_
    · refine vs_if ?_
      repeat walk_at "v"
      refine vo_ixL (d := .int k0) rfl (atI_nat (j := 0) rfl) ?_
      repeat walk_at "v"
      rw [← hw3]
      refine ⟨fun h0 => ?_, fun h0 => ?_⟩
      · refine vs_asg ?_
        walk_at "c"
        repeat walk_at "v"
        refine vo_ixT (d := .tup (s.ws.map wareD)) (atI_nat (j := 0) rfl) ?_
        repeat walk_at "v"
        refine vo_ixT (d := wareD w0) (atI_get wareD (l := s.ws) (j := 0) hw0) ?_
        repeat walk_at "v"
        refine vo_ixT (d := .str w0.nm) (atI_nat (j := 0) rfl) ?_
        repeat walk_at "v"
        refine vo_ixL (d := .int k1) rfl (atI_nat (j := 1) rfl) ?_
        repeat walk_at "v"
        refine ⟨(rs, w0.nm, k1), rfl, ⟨s, hR⟩, fun _ h => h, ?_⟩
        rintro _ ⟨es, rfl, hel, heok, hno⟩
        dsimp only at hno
        repeat walk_at "v"
        refine ⟨rs ++ es, rfl, fun z => hR.ne (List.append_eq_nil_iff.mp z).1, by rw [List.length_append]; omega, fun r hr => ?_, fun _ => hno⟩
        rcases List.mem_append.mp hr with hr | hr
        · exact hR.ok r hr
        · exact heok r hr
      · repeat walk_at "v"
        have h0 := of_decide_eq_false h0
        exact ⟨rs, rfl, hR.ne, by omega, hR.ok, fun z => absurd z h0⟩
    rintro e ⟨qs, rfl, hqne, hql, hqok, hqno⟩
    repeat walk_at "v"
    refine vs_env [.p (.ro (ns.map D.int)), .p .st, .p (shopD s), .p (linesW (rs.map RowV.words)), x4, .p (.int cell), .p (.lst ([k0, k1, k2].map D.int)), .p (linesW (qs.map RowV.words)), .mu (.lst [.bl false, .bl true, .bl true, .bl false]), .u] rfl ?_
    refine vs_cut (fun e => ∃ (wss : List (List Str)) (b : Bool), e = [.p (.ro (ns.map D.int)), .p .st, .p (shopD s), .p (linesW (rs.map RowV.words)), x4, .p (.int cell), .p (.lst ([k0, k1, k2].map D.int)), .p (linesW wss), .mu (kindsD b (!b)), .u] ∧ wss ≠ [] ∧ wss.length ≤ 301 ∧ (∀ W ∈ wss, WordsIn W) ∧ (b = true → ∃ W ∈ wss, parseRow W = none) ∧ (b = false → ∃ qs, wss = qs.map RowV.words ∧ (∀ r ∈ qs, r.ok) ∧ ¬ GoodRs qs)) ?_ ?_
    · refine vs_if ?_
      repeat walk_at "v"
      refine vo_ixL (d := .int k0) rfl (atI_nat (j := 0) rfl) ?_
      repeat walk_at "v"
      rw [← hw3]
      refine ⟨fun h0 => ?_, fun h0 => ?_⟩
      · refine vs_seq ?_
        refine vs_asg ?_
        walk_at "c"
        repeat walk_at "v"
        refine vo_ixL (d := .int k2) rfl (atI_nat (j := 2) rfl) ?_
        repeat walk_at "v"
        refine ⟨(qs, k2), rfl, ⟨hqne, by show qs.length ≤ 300; omega, hqok⟩, fun _ h => h, ?_⟩
        rintro _ ⟨wss, rfl, h1, h2, h3, h4⟩
        repeat walk_at "v"
        exact ⟨wss, true, rfl, h1, h2, h3, fun _ => h4, fun z => (by cases z)⟩
      · repeat walk_at "v"
        have h0 := of_decide_eq_false h0
        refine ⟨qs.map RowV.words, false, rfl, fun z => hqne (List.map_eq_nil_iff.mp z), by rw [List.length_map]; omega, fun W hW => ?_, fun z => (by cases z), fun _ => ⟨qs, rfl, hqok, hqno (by omega)⟩⟩
        obtain ⟨r, hr, rfl⟩ := List.mem_map.mp hW
        exact words_in (hqok r hr)
    rintro e ⟨wss, b, rfl, h1, h2, h3, h4, h5⟩
    refine vs_if ?_
    repeat walk_at "v"
    walk_at "c"
    repeat walk_at "v"
    refine ve_join ?_
    repeat walk_at "v"
    refine ⟨_, rfl, ?_⟩
    repeat walk_at "v"
    refine ⟨wss.map lineW, .inl rfl, lines_bound h2 h3, ?_⟩
    repeat walk_at "v"
    refine ⟨RIn.txt wss, rfl, ⟨⟨h1, by omega, h3⟩, fun wss' rs' e hp' hgd => ?_⟩, fun _ h => h, ?_⟩
    · cases e
      cases b with
      | true =>
        obtain ⟨W, hW, hn⟩ := h4 rfl
        exact parsed_none hp' W hW hn
      | false =>
        obtain ⟨q2, rfl, ok2, no2⟩ := h5 rfl
        rw [parsed_uniq hp' (parsed_rows ok2)] at hgd
        exact no2 hgd
    rintro d hd
    have hd2 : d = kindsD b (!b) := by
      rcases hd with ⟨h, rfl⟩ | ⟨⟨wss', rs', e, hp'⟩, rfl⟩
      · cases b with
        | true => rfl
        | false =>
          obtain ⟨q2, e2, ok2, no2⟩ := h5 rfl
          rcases h with ⟨d, e⟩ | ⟨w', e, W, hW, hn⟩
          · cases e
          · cases e
            subst e2
            exact absurd hn (parsed_none (parsed_rows ok2) W hW)
      · cases e
        cases b with
        | true =>
          obtain ⟨W, hW, hn⟩ := h4 rfl
          exact absurd hn (parsed_none hp' W hW)
        | false => rfl
    subst hd2
    repeat walk_at "v"
    refine vo_neS (d := kindsD b (!b)) rfl rfl (by cases b <;> decide) ?_
    refine ⟨false, rfl, fun z => (by cases z), fun _ => ?_⟩
    repeat walk_at "v"
    exact ⟨_, _, _, _, _, rfl⟩
  · rintro e ⟨x4, x5, x6, x7, x8, rfl⟩
    refine vs_seq ?_
    refine vs_for (vi_l ?_)
    repeat walk_at "v"
    refine ⟨_, rfl, fun i e => ∃ (x4 x5 x6 x7 x8 x9 : Slot), e = [.p (.ro (ns.map D.int)), .p .st, .p (shopD s), .p (linesW (rs.map RowV.words)), x4, x5, x6, x7, x8, x9], ⟨_, _, _, _, _, _, rfl⟩, ?_, ?_⟩
    · rintro i d e hi ⟨x4, x5, x6, x7, x8, x9, rfl⟩
      obtain ⟨x, rfl, hxo, ho⟩ := things (List.mem_of_getElem? hi)
      refine vg_p (Nat.le_of_ble_eq_true rfl) ?_
      refine vs_if ?_
      repeat walk_at "v"
      walk_at "c"
      repeat walk_at "v"
      refine ⟨x, rfl, ⟨hxo, fun wss' rs' e hp' hgd => ?_⟩, fun _ h => h, ?_⟩
      · rcases ho with ⟨d, e2⟩ | ⟨w', e2, W, hW, hn⟩
        · rw [e] at e2
          cases e2
        · rw [e] at e2
          cases e2
          exact parsed_none hp' W hW hn
      rintro d hd
      have hd2 : d = kindsD true false := by
        rcases hd with ⟨h, rfl⟩ | ⟨⟨wss', rs', e, hp'⟩, rfl⟩
        · rfl
        · rcases ho with ⟨d, e2⟩ | ⟨w', e2, W, hW, hn⟩
          · rw [e] at e2
            cases e2
          · rw [e] at e2
            cases e2
            exact absurd hn (parsed_none hp' W hW)
      subst hd2
      repeat walk_at "v"
      refine vo_neS (d := kindsD true false) rfl rfl (by decide) ?_
      refine ⟨false, rfl, fun z => (by cases z), fun _ => ?_⟩
      repeat walk_at "v"
      exact ⟨_, _, _, _, _, _, rfl⟩
    · rintro e ⟨x4, x5, x6, x7, x8, x9, rfl⟩
      repeat walk_at "v"
      walk_at "c"
      repeat walk_at "v"
      refine ve_join ?_
      repeat walk_at "v"
      refine ⟨_, rfl, ?_⟩
      repeat walk_at "v"
      refine ⟨(rs.map RowV.words).map lineW, .inl rfl, lines_bound (by rw [List.length_map]; omega) (fun W hW => by
        obtain ⟨r, hr, rfl⟩ := List.mem_map.mp hW
        exact words_in (hR.ok r hr)), ?_⟩
      repeat walk_at "v"
      rw [show Txt.join "\n" ((rs.map RowV.words).map lineW) = textOf rs from txtW_rows rs]
      obtain ⟨hrd, hsh⟩ := alike_read hg hR.al hR.pm
      refine ⟨rs, rfl, hrd, fun _ h => h, ?_⟩
      rintro _ rfl
      rw [hsh]
      repeat walk_at "v"
      refine vo_eqS (d := shopD s) rfl rfl (cmp_shop hg.cmpW fun v hv => hg.strs _ (hg.wants.ok v hv).1) ?_
      exact ⟨rfl, rfl⟩
end
theorem all_mk {l : PySem.W.OpenLaw} {w : World} {K : PySem.W.Frag} {h : Heap} {mg : Str → Option Value} {fa : Addr}
{od0 an0 : Option Addr} {sl0 : Array (Option Value)} {oc0 kV0 dc0 pm0 cd0 ct0 : Value} {f0 : Addr}
    {od1 an1 : Option Addr} {sl1 : Array (Option Value)} {oc1 kV1 dc1 pm1 cd1 ct1 : Value} {f1 : Addr}
    {od2 an2 : Option Addr} {sl2 : Array (Option Value)} {oc2 kV2 dc2 pm2 cd2 ct2 : Value} {f2 : Addr}
    {od3 an3 : Option Addr} {sl3 : Array (Option Value)} {oc3 kV3 dc3 pm3 cd3 ct3 : Value} {f3 : Addr}
    {od4 an4 : Option Addr} {sl4 : Array (Option Value)} {oc4 kV4 dc4 pm4 cd4 ct4 : Value} {f4 : Addr}
    {od5 an5 : Option Addr} {sl5 : Array (Option Value)} {oc5 kV5 dc5 pm5 cd5 ct5 : Value} {f5 : Addr}
    {od6 an6 : Option Addr} {sl6 : Array (Option Value)} {oc6 kV6 dc6 pm6 cd6 ct6 : Value} {f6 : Addr}
    {od7 an7 : Option Addr} {sl7 : Array (Option Value)} {oc7 kV7 dc7 pm7 cd7 ct7 : Value} {f7 : Addr}
    {od8 an8 : Option Addr} {sl8 : Array (Option Value)} {oc8 kV8 dc8 pm8 cd8 ct8 : Value} {f8 : Addr}
    {od9 an9 : Option Addr} {sl9 : Array (Option Value)} {oc9 kV9 dc9 pm9 cd9 ct9 : Value} {f9 : Addr}
    {od10 an10 : Option Addr} {sl10 : Array (Option Value)} {oc10 kV10 dc10 pm10 cd10 ct10 : Value} {f10 : Addr}
    {od11 an11 : Option Addr} {sl11 : Array (Option Value)} {oc11 kV11 dc11 pm11 cd11 ct11 : Value} {f11 : Addr}
    {od12 an12 : Option Addr} {sl12 : Array (Option Value)} {oc12 kV12 dc12 pm12 cd12 ct12 : Value} {f12 : Addr}
    {od13 an13 : Option Addr} {sl13 : Array (Option Value)} {oc13 kV13 dc13 pm13 cd13 ct13 : Value} {f13 : Addr}
    {od14 an14 : Option Addr} {sl14 : Array (Option Value)} {oc14 kV14 dc14 pm14 cd14 ct14 : Value} {f14 : Addr}
    {od15 an15 : Option Addr} {sl15 : Array (Option Value)} {oc15 kV15 dc15 pm15 cd15 ct15 : Value} {f15 : Addr}
    {od16 an16 : Option Addr} {sl16 : Array (Option Value)} {oc16 kV16 dc16 pm16 cd16 ct16 : Value} {f16 : Addr}
    {od17 an17 : Option Addr} {sl17 : Array (Option Value)} {oc17 kV17 dc17 pm17 cd17 ct17 : Value} {f17 : Addr}
    {od18 an18 : Option Addr} {sl18 : Array (Option Value)} {oc18 kV18 dc18 pm18 cd18 ct18 : Value} {f18 : Addr}
    {od19 an19 : Option Addr} {sl19 : Array (Option Value)} {oc19 kV19 dc19 pm19 cd19 ct19 : Value} {f19 : Addr}
    {od20 an20 : Option Addr} {sl20 : Array (Option Value)} {oc20 kV20 dc20 pm20 cd20 ct20 : Value} {f20 : Addr}
    {od21 an21 : Option Addr} {sl21 : Array (Option Value)} {oc21 kV21 dc21 pm21 cd21 ct21 : Value} {f21 : Addr}
    {od22 an22 : Option Addr} {sl22 : Array (Option Value)} {oc22 kV22 dc22 pm22 cd22 ct22 : Value} {f22 : Addr}
    {od23 an23 : Option Addr} {sl23 : Array (Option Value)} {oc23 kV23 dc23 pm23 cd23 ct23 : Value} {f23 : Addr}
    {od24 an24 : Option Addr} {sl24 : Array (Option Value)} {oc24 kV24 dc24 pm24 cd24 ct24 : Value} {f24 : Addr}
    {od25 an25 : Option Addr} {sl25 : Array (Option Value)} {oc25 kV25 dc25 pm25 cd25 ct25 : Value} {f25 : Addr}
    {od26 an26 : Option Addr} {sl26 : Array (Option Value)} {oc26 kV26 dc26 pm26 cd26 ct26 : Value} {f26 : Addr}
    (X : K.In h) (G : h.Ns mainGlobals mg) (hfa : mg "law" = some (.ref fa))
    (a0 : PySem.W.nsIn K mainGlobals "_law_drawn" = some (some (.ref f0))) (l0 : K.lookup f0 = some ⟨oc0, od0, .func (PySem.W.fnOf "_law_drawn" "_law_drawn" (defArgs s__law_drawn) (defBody s__law_drawn) (defScope s__law_drawn) .none kV0 dc0 pm0 an0 cd0 ct0), sl0⟩) (e0 : PySem.W.codeIn K cd0 "_law_drawn" = true) (k0 : PySem.W.keepIn K (.ref f0) = true)
    (a1 : PySem.W.nsIn K mainGlobals "_law_next" = some (some (.ref f1))) (l1 : K.lookup f1 = some ⟨oc1, od1, .func (PySem.W.fnOf "_law_next" "_law_next" (defArgs s__law_next) (defBody s__law_next) (defScope s__law_next) .none kV1 dc1 pm1 an1 cd1 ct1), sl1⟩) (e1 : PySem.W.codeIn K cd1 "_law_next" = true) (k1 : PySem.W.keepIn K (.ref f1) = true)
    (a2 : PySem.W.nsIn K mainGlobals "_law_names" = some (some (.ref f2))) (l2 : K.lookup f2 = some ⟨oc2, od2, .func (PySem.W.fnOf "_law_names" "_law_names" (defArgs s__law_names) (defBody s__law_names) (defScope s__law_names) .none kV2 dc2 pm2 an2 cd2 ct2), sl2⟩) (e2 : PySem.W.codeIn K cd2 "_law_names" = true) (k2 : PySem.W.keepIn K (.ref f2) = true)
    (a3 : PySem.W.nsIn K mainGlobals "_law_amount" = some (some (.ref f3))) (l3 : K.lookup f3 = some ⟨oc3, od3, .func (PySem.W.fnOf "_law_amount" "_law_amount" (defArgs s__law_amount) (defBody s__law_amount) (defScope s__law_amount) .none kV3 dc3 pm3 an3 cd3 ct3), sl3⟩) (e3 : PySem.W.codeIn K cd3 "_law_amount" = true) (k3 : PySem.W.keepIn K (.ref f3) = true)
    (a4 : PySem.W.nsIn K mainGlobals "_law_parts" = some (some (.ref f4))) (l4 : K.lookup f4 = some ⟨oc4, od4, .func (PySem.W.fnOf "_law_parts" "_law_parts" (defArgs s__law_parts) (defBody s__law_parts) (defScope s__law_parts) .none kV4 dc4 pm4 an4 cd4 ct4), sl4⟩) (e4 : PySem.W.codeIn K cd4 "_law_parts" = true) (k4 : PySem.W.keepIn K (.ref f4) = true)
    (a5 : PySem.W.nsIn K mainGlobals "_law_shop" = some (some (.ref f5))) (l5 : K.lookup f5 = some ⟨oc5, od5, .func (PySem.W.fnOf "_law_shop" "_law_shop" (defArgs s__law_shop) (defBody s__law_shop) (defScope s__law_shop) .none kV5 dc5 pm5 an5 cd5 ct5), sl5⟩) (e5 : PySem.W.codeIn K cd5 "_law_shop" = true) (k5 : PySem.W.keepIn K (.ref f5) = true)
    (a6 : PySem.W.nsIn K mainGlobals "_law_any_shop" = some (some (.ref f6))) (l6 : K.lookup f6 = some ⟨oc6, od6, .func (PySem.W.fnOf "_law_any_shop" "_law_any_shop" (defArgs s__law_any_shop) (defBody s__law_any_shop) (defScope s__law_any_shop) .none kV6 dc6 pm6 an6 cd6 ct6), sl6⟩) (e6 : PySem.W.codeIn K cd6 "_law_any_shop" = true) (k6 : PySem.W.keepIn K (.ref f6) = true)
    (a7 : PySem.W.nsIn K mainGlobals "_law_rows" = some (some (.ref f7))) (l7 : K.lookup f7 = some ⟨oc7, od7, .func (PySem.W.fnOf "_law_rows" "_law_rows" (defArgs s__law_rows) (defBody s__law_rows) (defScope s__law_rows) .none kV7 dc7 pm7 an7 cd7 ct7), sl7⟩) (e7 : PySem.W.codeIn K cd7 "_law_rows" = true) (k7 : PySem.W.keepIn K (.ref f7) = true)
    (a8 : PySem.W.nsIn K mainGlobals "_law_mixed" = some (some (.ref f8))) (l8 : K.lookup f8 = some ⟨oc8, od8, .func (PySem.W.fnOf "_law_mixed" "_law_mixed" (defArgs s__law_mixed) (defBody s__law_mixed) (defScope s__law_mixed) .none kV8 dc8 pm8 an8 cd8 ct8), sl8⟩) (e8 : PySem.W.codeIn K cd8 "_law_mixed" = true) (k8 : PySem.W.keepIn K (.ref f8) = true)
    (a9 : PySem.W.nsIn K mainGlobals "read_number" = some (some (.ref f9))) (l9 : K.lookup f9 = some ⟨oc9, od9, .func (PySem.W.fnOf "read_number" "read_number" (defArgs s_read_number) (defBody s_read_number) (defScope s_read_number) .none kV9 dc9 pm9 an9 cd9 ct9), sl9⟩) (e9 : PySem.W.codeIn K cd9 "read_number" = true) (k9 : PySem.W.keepIn K (.ref f9) = true)
    (a10 : PySem.W.nsIn K mainGlobals "is_name" = some (some (.ref f10))) (l10 : K.lookup f10 = some ⟨oc10, od10, .func (PySem.W.fnOf "is_name" "is_name" (defArgs s_is_name) (defBody s_is_name) (defScope s_is_name) .none kV10 dc10 pm10 an10 cd10 ct10), sl10⟩) (e10 : PySem.W.codeIn K cd10 "is_name" = true) (k10 : PySem.W.keepIn K (.ref f10) = true)
    (a11 : PySem.W.nsIn K mainGlobals "read_row" = some (some (.ref f11))) (l11 : K.lookup f11 = some ⟨oc11, od11, .func (PySem.W.fnOf "read_row" "read_row" (defArgs s_read_row) (defBody s_read_row) (defScope s_read_row) .none kV11 dc11 pm11 an11 cd11 ct11), sl11⟩) (e11 : PySem.W.codeIn K cd11 "read_row" = true) (k11 : PySem.W.keepIn K (.ref f11) = true)
    (a12 : PySem.W.nsIn K mainGlobals "are_unlike" = some (some (.ref f12))) (l12 : K.lookup f12 = some ⟨oc12, od12, .func (PySem.W.fnOf "are_unlike" "are_unlike" (defArgs s_are_unlike) (defBody s_are_unlike) (defScope s_are_unlike) .none kV12 dc12 pm12 an12 cd12 ct12), sl12⟩) (e12 : PySem.W.codeIn K cd12 "are_unlike" = true) (k12 : PySem.W.keepIn K (.ref f12) = true)
    (a13 : PySem.W.nsIn K mainGlobals "is_whole" = some (some (.ref f13))) (l13 : K.lookup f13 = some ⟨oc13, od13, .func (PySem.W.fnOf "is_whole" "is_whole" (defArgs s_is_whole) (defBody s_is_whole) (defScope s_is_whole) .none kV13 dc13 pm13 an13 cd13 ct13), sl13⟩) (e13 : PySem.W.codeIn K cd13 "is_whole" = true) (k13 : PySem.W.keepIn K (.ref f13) = true)
    (a14 : PySem.W.nsIn K mainGlobals "is_day" = some (some (.ref f14))) (l14 : K.lookup f14 = some ⟨oc14, od14, .func (PySem.W.fnOf "is_day" "is_day" (defArgs s_is_day) (defBody s_is_day) (defScope s_is_day) .none kV14 dc14 pm14 an14 cd14 ct14), sl14⟩) (e14 : PySem.W.codeIn K cd14 "is_day" = true) (k14 : PySem.W.keepIn K (.ref f14) = true)
    (a15 : PySem.W.nsIn K mainGlobals "is_coming" = some (some (.ref f15))) (l15 : K.lookup f15 = some ⟨oc15, od15, .func (PySem.W.fnOf "is_coming" "is_coming" (defArgs s_is_coming) (defBody s_is_coming) (defScope s_is_coming) .none kV15 dc15 pm15 an15 cd15 ct15), sl15⟩) (e15 : PySem.W.codeIn K cd15 "is_coming" = true) (k15 : PySem.W.keepIn K (.ref f15) = true)
    (a16 : PySem.W.nsIn K mainGlobals "is_part" = some (some (.ref f16))) (l16 : K.lookup f16 = some ⟨oc16, od16, .func (PySem.W.fnOf "is_part" "is_part" (defArgs s_is_part) (defBody s_is_part) (defScope s_is_part) .none kV16 dc16 pm16 an16 cd16 ct16), sl16⟩) (e16 : PySem.W.codeIn K cd16 "is_part" = true) (k16 : PySem.W.keepIn K (.ref f16) = true)
    (a17 : PySem.W.nsIn K mainGlobals "are_all" = some (some (.ref f17))) (l17 : K.lookup f17 = some ⟨oc17, od17, .func (PySem.W.fnOf "are_all" "are_all" (defArgs s_are_all) (defBody s_are_all) (defScope s_are_all) .none kV17 dc17 pm17 an17 cd17 ct17), sl17⟩) (e17 : PySem.W.codeIn K cd17 "are_all" = true) (k17 : PySem.W.keepIn K (.ref f17) = true)
    (a18 : PySem.W.nsIn K mainGlobals "is_ware" = some (some (.ref f18))) (l18 : K.lookup f18 = some ⟨oc18, od18, .func (PySem.W.fnOf "is_ware" "is_ware" (defArgs s_is_ware) (defBody s_is_ware) (defScope s_is_ware) .none kV18 dc18 pm18 an18 cd18 ct18), sl18⟩) (e18 : PySem.W.codeIn K cd18 "is_ware" = true) (k18 : PySem.W.keepIn K (.ref f18) = true)
    (a19 : PySem.W.nsIn K mainGlobals "is_want" = some (some (.ref f19))) (l19 : K.lookup f19 = some ⟨oc19, od19, .func (PySem.W.fnOf "is_want" "is_want" (defArgs s_is_want) (defBody s_is_want) (defScope s_is_want) .none kV19 dc19 pm19 an19 cd19 ct19), sl19⟩) (e19 : PySem.W.codeIn K cd19 "is_want" = true) (k19 : PySem.W.keepIn K (.ref f19) = true)
    (a20 : PySem.W.nsIn K mainGlobals "is_shop" = some (some (.ref f20))) (l20 : K.lookup f20 = some ⟨oc20, od20, .func (PySem.W.fnOf "is_shop" "is_shop" (defArgs s_is_shop) (defBody s_is_shop) (defScope s_is_shop) .none kV20 dc20 pm20 an20 cd20 ct20), sl20⟩) (e20 : PySem.W.codeIn K cd20 "is_shop" = true) (k20 : PySem.W.keepIn K (.ref f20) = true)
    (a21 : PySem.W.nsIn K mainGlobals "pairs_of" = some (some (.ref f21))) (l21 : K.lookup f21 = some ⟨oc21, od21, .func (PySem.W.fnOf "pairs_of" "pairs_of" (defArgs s_pairs_of) (defBody s_pairs_of) (defScope s_pairs_of) .none kV21 dc21 pm21 an21 cd21 ct21), sl21⟩) (e21 : PySem.W.codeIn K cd21 "pairs_of" = true) (k21 : PySem.W.keepIn K (.ref f21) = true)
    (a22 : PySem.W.nsIn K mainGlobals "read_shop" = some (some (.ref f22))) (l22 : K.lookup f22 = some ⟨oc22, od22, .func (PySem.W.fnOf "read_shop" "read_shop" (defArgs s_read_shop) (defBody s_read_shop) (defScope s_read_shop) .none kV22 dc22 pm22 an22 cd22 ct22), sl22⟩) (e22 : PySem.W.codeIn K cd22 "read_shop" = true) (k22 : PySem.W.keepIn K (.ref f22) = true)
    (a23 : PySem.W.nsIn K mainGlobals "_law_no_shop" = some (some (.ref f23))) (l23 : K.lookup f23 = some ⟨oc23, od23, .func (PySem.W.fnOf "_law_no_shop" "_law_no_shop" (defArgs s__law_no_shop) (defBody s__law_no_shop) (defScope s__law_no_shop) .none kV23 dc23 pm23 an23 cd23 ct23), sl23⟩) (e23 : PySem.W.codeIn K cd23 "_law_no_shop" = true) (k23 : PySem.W.keepIn K (.ref f23) = true)
    (a24 : PySem.W.nsIn K mainGlobals "_law_no_form" = some (some (.ref f24))) (l24 : K.lookup f24 = some ⟨oc24, od24, .func (PySem.W.fnOf "_law_no_form" "_law_no_form" (defArgs s__law_no_form) (defBody s__law_no_form) (defScope s__law_no_form) .none kV24 dc24 pm24 an24 cd24 ct24), sl24⟩) (e24 : PySem.W.codeIn K cd24 "_law_no_form" = true) (k24 : PySem.W.keepIn K (.ref f24) = true)
    (a25 : PySem.W.nsIn K mainGlobals "_law_refusal" = some (some (.ref f25))) (l25 : K.lookup f25 = some ⟨oc25, od25, .func (PySem.W.fnOf "_law_refusal" "_law_refusal" (defArgs s__law_refusal) (defBody s__law_refusal) (defScope s__law_refusal) .none kV25 dc25 pm25 an25 cd25 ct25), sl25⟩) (e25 : PySem.W.codeIn K cd25 "_law_refusal" = true) (k25 : PySem.W.keepIn K (.ref f25) = true)
    (a26 : PySem.W.nsIn K mainGlobals "law" = some (some (.ref f26))) (l26 : K.lookup f26 = some ⟨oc26, od26, .func (PySem.W.fnOf "law" "law" (defArgs s_law) (defBody s_law) (defScope s_law) .none kV26 dc26 pm26 an26 cd26 ct26), sl26⟩) (e26 : PySem.W.codeIn K cd26 "law" = true) (k26 : PySem.W.keepIn K (.ref f26) = true)
    (z0 : PySem.W.nsIn K mainGlobals "ValueError" = some none)
    (z1 : PySem.W.nsIn K mainGlobals "all" = some none)
    (z2 : PySem.W.nsIn K mainGlobals "bool" = some none)
    (z3 : PySem.W.nsIn K mainGlobals "enumerate" = some none)
    (z4 : PySem.W.nsIn K mainGlobals "int" = some none)
    (z5 : PySem.W.nsIn K mainGlobals "isinstance" = some none)
    (z6 : PySem.W.nsIn K mainGlobals "len" = some none)
    (z7 : PySem.W.nsIn K mainGlobals "list" = some none)
    (z8 : PySem.W.nsIn K mainGlobals "range" = some none)
    (z9 : PySem.W.nsIn K mainGlobals "set" = some none)
    (z10 : PySem.W.nsIn K mainGlobals "str" = some none)
    (z11 : PySem.W.nsIn K mainGlobals "tuple" = some none)
    {tk0 : Tok} (y0 : PySem.W.nsIn K mainGlobals "FIGURES" = some (some (.str "0123456789" tk0)))
    {tk1 : Tok} (y1 : PySem.W.nsIn K mainGlobals "LETTERS" = some (some (.str "abcdefghijklmnopqrstuvwxyz" tk1)))
    {tk2 : Tok} (y2 : PySem.W.nsIn K mainGlobals "MOST" = some (some (.int 60 tk2)))
    {tk3 : Tok} (y3 : PySem.W.nsIn K mainGlobals "MOST_COMING" = some (some (.int 12 tk3)))
    {tk4 : Tok} (y4 : PySem.W.nsIn K mainGlobals "MOST_DAY" = some (some (.int 400 tk4)))
    {tk5 : Tok} (y5 : PySem.W.nsIn K mainGlobals "MOST_LAG" = some (some (.int 30 tk5)))
    {tk6 : Tok} (y6 : PySem.W.nsIn K mainGlobals "MOST_LETTERS" = some (some (.int 8 tk6)))
    {tk7 : Tok} (y7 : PySem.W.nsIn K mainGlobals "MOST_PARTS" = some (some (.int 6 tk7)))
    {tk8 : Tok} (y8 : PySem.W.nsIn K mainGlobals "MOST_WANTS" = some (some (.int 20 tk8)))
    {tk9 : Tok} (y9 : PySem.W.nsIn K mainGlobals "MOST_WARES" = some (some (.int 12 tk9)))
    {xC0 : Addr} (xa0 : PySem.W.nsIn K mainGlobals "NeedError" = some (some (.ref xC0))) (xb0 : PySem.W.keepIn K (.ref xC0) = true) (xc0 : PySem.W.excIn K xC0 [.type "ValueError", .type "Exception", .type "BaseException", .type "object"] "ValueError.__new__" = true) (xd0 : PySem.W.subIn K (.ref xC0) (.type "BaseException") = some true) (xe0 : PySem.W.typeIn K (.ref xC0) = some (.type "type"))
    (xf0 : PySem.W.findIn K (.ref xC0) "__getattribute__" = some (some (.builtin "BaseException.__getattribute__"))) (xg0 : PySem.W.findIn K (.ref xC0) "__getattr__" = some none) (xh0 : PySem.W.hasDictIn K xC0 = true) (xi0 : PySem.W.findIn K (.ref xC0) "__class__" = some (some (.builtin "object.__class__"))) (xj0 : PySem.W.specialIn K (.builtin "object.__class__") "__get__" = some (some (.builtin "getset_descriptor.__get__"))) (xk0 : PySem.W.takesIn K (.builtin "object.__class__") = some true) (xm0 : PySem.W.mroIn K xC0 (.type "object") = some true)
    {xC1 : Addr} (xa1 : PySem.W.nsIn K mainGlobals "NoBuy" = some (some (.ref xC1))) (xb1 : PySem.W.keepIn K (.ref xC1) = true) (xc1 : PySem.W.excIn K xC1 [.type "ValueError", .type "Exception", .type "BaseException", .type "object"] "ValueError.__new__" = true) (xd1 : PySem.W.subIn K (.ref xC1) (.type "BaseException") = some true) (xe1 : PySem.W.typeIn K (.ref xC1) = some (.type "type"))
    (xf1 : PySem.W.findIn K (.ref xC1) "__getattribute__" = some (some (.builtin "BaseException.__getattribute__"))) (xg1 : PySem.W.findIn K (.ref xC1) "__getattr__" = some none) (xh1 : PySem.W.hasDictIn K xC1 = true) (xi1 : PySem.W.findIn K (.ref xC1) "__class__" = some (some (.builtin "object.__class__"))) (xj1 : PySem.W.specialIn K (.builtin "object.__class__") "__get__" = some (some (.builtin "getset_descriptor.__get__"))) (xk1 : PySem.W.takesIn K (.builtin "object.__class__") = some true) (xm1 : PySem.W.mroIn K xC1 (.type "object") = some true)
    {xC2 : Addr} (xa2 : PySem.W.nsIn K mainGlobals "NoDay" = some (some (.ref xC2))) (xb2 : PySem.W.keepIn K (.ref xC2) = true) (xc2 : PySem.W.excIn K xC2 [.type "ValueError", .type "Exception", .type "BaseException", .type "object"] "ValueError.__new__" = true) (xd2 : PySem.W.subIn K (.ref xC2) (.type "BaseException") = some true) (xe2 : PySem.W.typeIn K (.ref xC2) = some (.type "type"))
    (xf2 : PySem.W.findIn K (.ref xC2) "__getattribute__" = some (some (.builtin "BaseException.__getattribute__"))) (xg2 : PySem.W.findIn K (.ref xC2) "__getattr__" = some none) (xh2 : PySem.W.hasDictIn K xC2 = true) (xi2 : PySem.W.findIn K (.ref xC2) "__class__" = some (some (.builtin "object.__class__"))) (xj2 : PySem.W.specialIn K (.builtin "object.__class__") "__get__" = some (some (.builtin "getset_descriptor.__get__"))) (xk2 : PySem.W.takesIn K (.builtin "object.__class__") = some true) (xm2 : PySem.W.mroIn K xC2 (.type "object") = some true)
    {xC3 : Addr} (xa3 : PySem.W.nsIn K mainGlobals "NoName" = some (some (.ref xC3))) (xb3 : PySem.W.keepIn K (.ref xC3) = true) (xc3 : PySem.W.excIn K xC3 [.type "ValueError", .type "Exception", .type "BaseException", .type "object"] "ValueError.__new__" = true) (xd3 : PySem.W.subIn K (.ref xC3) (.type "BaseException") = some true) (xe3 : PySem.W.typeIn K (.ref xC3) = some (.type "type"))
    (xf3 : PySem.W.findIn K (.ref xC3) "__getattribute__" = some (some (.builtin "BaseException.__getattribute__"))) (xg3 : PySem.W.findIn K (.ref xC3) "__getattr__" = some none) (xh3 : PySem.W.hasDictIn K xC3 = true) (xi3 : PySem.W.findIn K (.ref xC3) "__class__" = some (some (.builtin "object.__class__"))) (xj3 : PySem.W.specialIn K (.builtin "object.__class__") "__get__" = some (some (.builtin "getset_descriptor.__get__"))) (xk3 : PySem.W.takesIn K (.builtin "object.__class__") = some true) (xm3 : PySem.W.mroIn K xC3 (.type "object") = some true)
    {xC4 : Addr} (xa4 : PySem.W.nsIn K mainGlobals "NoPlan" = some (some (.ref xC4))) (xb4 : PySem.W.keepIn K (.ref xC4) = true) (xc4 : PySem.W.excIn K xC4 [.type "ValueError", .type "Exception", .type "BaseException", .type "object"] "ValueError.__new__" = true) (xd4 : PySem.W.subIn K (.ref xC4) (.type "BaseException") = some true) (xe4 : PySem.W.typeIn K (.ref xC4) = some (.type "type"))
    (xf4 : PySem.W.findIn K (.ref xC4) "__getattribute__" = some (some (.builtin "BaseException.__getattribute__"))) (xg4 : PySem.W.findIn K (.ref xC4) "__getattr__" = some none) (xh4 : PySem.W.hasDictIn K xC4 = true) (xi4 : PySem.W.findIn K (.ref xC4) "__class__" = some (some (.builtin "object.__class__"))) (xj4 : PySem.W.specialIn K (.builtin "object.__class__") "__get__" = some (some (.builtin "getset_descriptor.__get__"))) (xk4 : PySem.W.takesIn K (.builtin "object.__class__") = some true) (xm4 : PySem.W.mroIn K xC4 (.type "object") = some true)
    {xC5 : Addr} (xa5 : PySem.W.nsIn K mainGlobals "NoShop" = some (some (.ref xC5))) (xb5 : PySem.W.keepIn K (.ref xC5) = true) (xc5 : PySem.W.excIn K xC5 [.type "ValueError", .type "Exception", .type "BaseException", .type "object"] "ValueError.__new__" = true) (xd5 : PySem.W.subIn K (.ref xC5) (.type "BaseException") = some true) (xe5 : PySem.W.typeIn K (.ref xC5) = some (.type "type"))
    (xf5 : PySem.W.findIn K (.ref xC5) "__getattribute__" = some (some (.builtin "BaseException.__getattribute__"))) (xg5 : PySem.W.findIn K (.ref xC5) "__getattr__" = some none) (xh5 : PySem.W.hasDictIn K xC5 = true) (xi5 : PySem.W.findIn K (.ref xC5) "__class__" = some (some (.builtin "object.__class__"))) (xj5 : PySem.W.specialIn K (.builtin "object.__class__") "__get__" = some (some (.builtin "getset_descriptor.__get__"))) (xk5 : PySem.W.takesIn K (.builtin "object.__class__") = some true) (xm5 : PySem.W.mroIn K xC5 (.type "object") = some true)
    {xC6 : Addr} (xa6 : PySem.W.nsIn K mainGlobals "NoText" = some (some (.ref xC6))) (xb6 : PySem.W.keepIn K (.ref xC6) = true) (xc6 : PySem.W.excIn K xC6 [.type "ValueError", .type "Exception", .type "BaseException", .type "object"] "ValueError.__new__" = true) (xd6 : PySem.W.subIn K (.ref xC6) (.type "BaseException") = some true) (xe6 : PySem.W.typeIn K (.ref xC6) = some (.type "type"))
    (xf6 : PySem.W.findIn K (.ref xC6) "__getattribute__" = some (some (.builtin "BaseException.__getattribute__"))) (xg6 : PySem.W.findIn K (.ref xC6) "__getattr__" = some none) (xh6 : PySem.W.hasDictIn K xC6 = true) (xi6 : PySem.W.findIn K (.ref xC6) "__class__" = some (some (.builtin "object.__class__"))) (xj6 : PySem.W.specialIn K (.builtin "object.__class__") "__get__" = some (some (.builtin "getset_descriptor.__get__"))) (xk6 : PySem.W.takesIn K (.builtin "object.__class__") = some true) (xm6 : PySem.W.mroIn K xC6 (.type "object") = some true)
    {xC7 : Addr} (xa7 : PySem.W.nsIn K mainGlobals "Ring" = some (some (.ref xC7))) (xb7 : PySem.W.keepIn K (.ref xC7) = true) (xc7 : PySem.W.excIn K xC7 [.type "ValueError", .type "Exception", .type "BaseException", .type "object"] "ValueError.__new__" = true) (xd7 : PySem.W.subIn K (.ref xC7) (.type "BaseException") = some true) (xe7 : PySem.W.typeIn K (.ref xC7) = some (.type "type"))
    (xf7 : PySem.W.findIn K (.ref xC7) "__getattribute__" = some (some (.builtin "BaseException.__getattribute__"))) (xg7 : PySem.W.findIn K (.ref xC7) "__getattr__" = some none) (xh7 : PySem.W.hasDictIn K xC7 = true) (xi7 : PySem.W.findIn K (.ref xC7) "__class__" = some (some (.builtin "object.__class__"))) (xj7 : PySem.W.specialIn K (.builtin "object.__class__") "__get__" = some (some (.builtin "getset_descriptor.__get__"))) (xk7 : PySem.W.takesIn K (.builtin "object.__class__") = some true) (xm7 : PySem.W.mroIn K xC7 (.type "object") = some true)
    (y_f0 : PySem.W.subIn K (.ref xC6) (.ref xC0) = some true)
    (y_f1 : PySem.W.subIn K (.ref xC5) (.ref xC0) = some true)
    (y_f2 : PySem.W.kitOne K (.ref xC6) (.ref xC6) = some true)
    (y_f3 : PySem.W.kitOne K (.ref xC6) (.ref xC5) = some false)
    (y_f4 : PySem.W.kitOne K (.ref xC5) (.ref xC6) = some false)
    (y_f5 : PySem.W.kitOne K (.ref xC5) (.ref xC5) = some true)
    (y_f6 : PySem.W.kitOne K (.ref xC6) (.type "ValueError") = some true)
    (y_f7 : PySem.W.kitOne K (.ref xC5) (.type "ValueError") = some true)
    (y_f8 : PySem.W.kitOne K (.ref xC6) (.ref xC7) = some false)
    (y_f9 : PySem.W.kitOne K (.ref xC6) (.ref xC3) = some false)
    (y_f10 : PySem.W.kitOne K (.ref xC6) (.ref xC2) = some false)
    (y_f11 : PySem.W.kitOne K (.ref xC6) (.ref xC1) = some false)
    (y_f12 : PySem.W.kitOne K (.ref xC6) (.ref xC4) = some false)
    (y_f13 : PySem.W.kitOne K (.ref xC5) (.ref xC7) = some false)
    (y_f14 : PySem.W.kitOne K (.ref xC5) (.ref xC3) = some false)
    (y_f15 : PySem.W.kitOne K (.ref xC5) (.ref xC2) = some false)
    (y_f16 : PySem.W.kitOne K (.ref xC5) (.ref xC1) = some false)
    (y_f17 : PySem.W.kitOne K (.ref xC5) (.ref xC4) = some false)
    {dk0 : Addr} (ka0 : PySem.W.nsIn K mainGlobals "FORMS" = some (some (.ref dk0))) (kb0 : He.dicW K dk0 = some (He.keysIn w.params ["ware", "coming", "part", "want"]))
    {te0_0 : Addr} {oe0_0 : Option Addr} {ne0_0 : Nat} {se0_0 : Array (Option Value)} {tq0_0_0 tq0_0_1 : Tok} (kc0_0 : PySem.W.nsIn K dk0 "ware" = some (some (.ref te0_0))) (kd0_0 : K.lookup te0_0 = some ⟨.type "tuple", oe0_0, .seq #[.int 1 tq0_0_0, .int 4 tq0_0_1] ne0_0, se0_0⟩)
    {te0_1 : Addr} {oe0_1 : Option Addr} {ne0_1 : Nat} {se0_1 : Array (Option Value)} {tq0_1_0 tq0_1_1 : Tok} (kc0_1 : PySem.W.nsIn K dk0 "coming" = some (some (.ref te0_1))) (kd0_1 : K.lookup te0_1 = some ⟨.type "tuple", oe0_1, .seq #[.int 1 tq0_1_0, .int 2 tq0_1_1] ne0_1, se0_1⟩)
    {te0_2 : Addr} {oe0_2 : Option Addr} {ne0_2 : Nat} {se0_2 : Array (Option Value)} {tq0_2_0 tq0_2_1 : Tok} (kc0_2 : PySem.W.nsIn K dk0 "part" = some (some (.ref te0_2))) (kd0_2 : K.lookup te0_2 = some ⟨.type "tuple", oe0_2, .seq #[.int 2 tq0_2_0, .int 1 tq0_2_1] ne0_2, se0_2⟩)
    {te0_3 : Addr} {oe0_3 : Option Addr} {ne0_3 : Nat} {se0_3 : Array (Option Value)} {tq0_3_0 tq0_3_1 : Tok} (kc0_3 : PySem.W.nsIn K dk0 "want" = some (some (.ref te0_3))) (kd0_3 : K.lookup te0_3 = some ⟨.type "tuple", oe0_3, .seq #[.int 1 tq0_3_0, .int 2 tq0_3_1] ne0_3, se0_3⟩)
    : ∃ fd : FuncData, (∀ (s : Shared) (v : Value), BindsTo s fd ⟨[v], []⟩ [("script", v)]) ∧ ∀ base : Heap, K.In base → base.Ns mainGlobals mg → FnOk l.prog w K mg base CX0 10 fa fd ["script"] (spLaw K (Gd K)) := by
  have q := hfa.symm.trans (PySem.W.mg_of X G a26)
  cases q
  have T_FORMS : KDs K w mg "FORMS" [("ware", [.int 1, .int 4]), ("coming", [.int 1, .int 2]), ("part", [.int 2, .int 1]), ("want", [.int 1, .int 2])] := kds_of (PySem.W.mg_of X G ka0) kb0 (fun p hp => by
    rcases List.mem_cons.mp hp with rfl | hp
    · exact ⟨te0_0, kc0_0, sqt_k kd0_0 (by show 2 ≤ sizeLine; decide) (.cons ⟨_, rfl⟩ (.cons ⟨_, rfl⟩ .nil))⟩
    rcases List.mem_cons.mp hp with rfl | hp
    · exact ⟨te0_1, kc0_1, sqt_k kd0_1 (by show 2 ≤ sizeLine; decide) (.cons ⟨_, rfl⟩ (.cons ⟨_, rfl⟩ .nil))⟩
    rcases List.mem_cons.mp hp with rfl | hp
    · exact ⟨te0_2, kc0_2, sqt_k kd0_2 (by show 2 ≤ sizeLine; decide) (.cons ⟨_, rfl⟩ (.cons ⟨_, rfl⟩ .nil))⟩
    rcases List.mem_cons.mp hp with rfl | hp
    · exact ⟨te0_3, kc0_3, sqt_k kd0_3 (by show 2 ≤ sizeLine; decide) (.cons ⟨_, rfl⟩ (.cons ⟨_, rfl⟩ .nil))⟩
    cases hp)
  have Z : Glb K mg w := ⟨trivial, fun x v q => PySem.W.mg_of X G q, PySem.W.mg_none_of X G z0, PySem.W.mg_none_of X G z1, PySem.W.mg_none_of X G z2, PySem.W.mg_none_of X G z3, PySem.W.mg_none_of X G z4, PySem.W.mg_none_of X G z5, PySem.W.mg_none_of X G z6, PySem.W.mg_none_of X G z7, PySem.W.mg_none_of X G z8, PySem.W.mg_none_of X G z9, PySem.W.mg_none_of X G z10, PySem.W.mg_none_of X G z11, ⟨_, PySem.W.mg_of X G y0, _, rfl⟩, ⟨_, PySem.W.mg_of X G y1, _, rfl⟩, ⟨_, PySem.W.mg_of X G y2, _, rfl⟩, ⟨_, PySem.W.mg_of X G y3, _, rfl⟩, ⟨_, PySem.W.mg_of X G y4, _, rfl⟩, ⟨_, PySem.W.mg_of X G y5, _, rfl⟩, ⟨_, PySem.W.mg_of X G y6, _, rfl⟩, ⟨_, PySem.W.mg_of X G y7, _, rfl⟩, ⟨_, PySem.W.mg_of X G y8, _, rfl⟩, ⟨_, PySem.W.mg_of X G y9, _, rfl⟩, ⟨_, a15⟩, ⟨_, a16⟩, ⟨_, a19⟩, ⟨_, a18⟩, ⟨xC0, xa0, PySem.W.mg_of X G xa0, xb0, xc0, xd0, xe0, ⟨xf0, xg0, xd0, xh0, xi0, xj0, xk0, xm0⟩⟩, ⟨xC1, xa1, PySem.W.mg_of X G xa1, xb1, xc1, xd1, xe1, ⟨xf1, xg1, xd1, xh1, xi1, xj1, xk1, xm1⟩⟩, ⟨xC2, xa2, PySem.W.mg_of X G xa2, xb2, xc2, xd2, xe2, ⟨xf2, xg2, xd2, xh2, xi2, xj2, xk2, xm2⟩⟩, ⟨xC3, xa3, PySem.W.mg_of X G xa3, xb3, xc3, xd3, xe3, ⟨xf3, xg3, xd3, xh3, xi3, xj3, xk3, xm3⟩⟩, ⟨xC4, xa4, PySem.W.mg_of X G xa4, xb4, xc4, xd4, xe4, ⟨xf4, xg4, xd4, xh4, xi4, xj4, xk4, xm4⟩⟩, ⟨xC5, xa5, PySem.W.mg_of X G xa5, xb5, xc5, xd5, xe5, ⟨xf5, xg5, xd5, xh5, xi5, xj5, xk5, xm5⟩⟩, ⟨xC6, xa6, PySem.W.mg_of X G xa6, xb6, xc6, xd6, xe6, ⟨xf6, xg6, xd6, xh6, xi6, xj6, xk6, xm6⟩⟩, ⟨xC7, xa7, PySem.W.mg_of X G xa7, xb7, xc7, xd7, xe7, ⟨xf7, xg7, xd7, xh7, xi7, xj7, xk7, xm7⟩⟩, (fun _ _ h0 h1 => by cases Is.uniq h0 xa6; cases Is.uniq h1 xa0; exact PySem.W.exm_ref xd0 xh0 xe0 y_f0), (fun _ _ h0 h1 => by cases Is.uniq h0 xa5; cases Is.uniq h1 xa0; exact PySem.W.exm_ref xd0 xh0 xe0 y_f1), (fun _ h0 => by cases Is.uniq h0 xa6; exact y_f2), (fun _ _ h0 h1 => by cases Is.uniq h0 xa6; cases Is.uniq h1 xa5; exact y_f3), (fun _ _ h0 h1 => by cases Is.uniq h0 xa5; cases Is.uniq h1 xa6; exact y_f4), (fun _ h0 => by cases Is.uniq h0 xa5; exact y_f5), (fun _ h0 => by cases Is.uniq h0 xa6; exact y_f6), (fun _ h0 => by cases Is.uniq h0 xa5; exact y_f7), (fun _ _ h0 h1 => by cases Is.uniq h0 xa6; cases Is.uniq h1 xa7; exact y_f8), (fun _ _ h0 h1 => by cases Is.uniq h0 xa6; cases Is.uniq h1 xa3; exact y_f9), (fun _ _ h0 h1 => by cases Is.uniq h0 xa6; cases Is.uniq h1 xa2; exact y_f10), (fun _ _ h0 h1 => by cases Is.uniq h0 xa6; cases Is.uniq h1 xa1; exact y_f11), (fun _ _ h0 h1 => by cases Is.uniq h0 xa6; cases Is.uniq h1 xa4; exact y_f12), (fun _ _ h0 h1 => by cases Is.uniq h0 xa5; cases Is.uniq h1 xa7; exact y_f13), (fun _ _ h0 h1 => by cases Is.uniq h0 xa5; cases Is.uniq h1 xa3; exact y_f14), (fun _ _ h0 h1 => by cases Is.uniq h0 xa5; cases Is.uniq h1 xa2; exact y_f15), (fun _ _ h0 h1 => by cases Is.uniq h0 xa5; cases Is.uniq h1 xa1; exact y_f16), (fun _ _ h0 h1 => by cases Is.uniq h0 xa5; cases Is.uniq h1 xa4; exact y_f17), T_FORMS⟩
  have F0 := fun_mk (st := s__law_drawn) l0 e0 k0
  have Dn0 : Dfn K mg "_law_drawn" s__law_drawn ["script"] := ⟨f0, _, F0, PySem.W.mg_of X G a0, F0.binds (ps := ["script"]) fun _ _ _ _ _ _ us hl => match us, hl with | [_], _ => rfl⟩
  have F1 := fun_mk (st := s__law_next) l1 e1 k1
  have Dn1 : Dfn K mg "_law_next" s__law_next ["state", "many"] := ⟨f1, _, F1, PySem.W.mg_of X G a1, F1.binds (ps := ["state", "many"]) fun _ _ _ _ _ _ us hl => match us, hl with | [_, _], _ => rfl⟩
  have F2 := fun_mk (st := s__law_names) l2 e2 k2
  have Dn2 : Dfn K mg "_law_names" s__law_names ["state", "many"] := ⟨f2, _, F2, PySem.W.mg_of X G a2, F2.binds (ps := ["state", "many"]) fun _ _ _ _ _ _ us hl => match us, hl with | [_, _], _ => rfl⟩
  have F3 := fun_mk (st := s__law_amount) l3 e3 k3
  have Dn3 : Dfn K mg "_law_amount" s__law_amount ["state"] := ⟨f3, _, F3, PySem.W.mg_of X G a3, F3.binds (ps := ["state"]) fun _ _ _ _ _ _ us hl => match us, hl with | [_], _ => rfl⟩
  have F4 := fun_mk (st := s__law_parts) l4 e4 k4
  have Dn4 : Dfn K mg "_law_parts" s__law_parts ["state", "names"] := ⟨f4, _, F4, PySem.W.mg_of X G a4, F4.binds (ps := ["state", "names"]) fun _ _ _ _ _ _ us hl => match us, hl with | [_, _], _ => rfl⟩
  have F5 := fun_mk (st := s__law_shop) l5 e5 k5
  have Dn5 : Dfn K mg "_law_shop" s__law_shop ["state", "top"] := ⟨f5, _, F5, PySem.W.mg_of X G a5, F5.binds (ps := ["state", "top"]) fun _ _ _ _ _ _ us hl => match us, hl with | [_, _], _ => rfl⟩
  have F6 := fun_mk (st := s__law_any_shop) l6 e6 k6
  have Dn6 : Dfn K mg "_law_any_shop" s__law_any_shop ["state"] := ⟨f6, _, F6, PySem.W.mg_of X G a6, F6.binds (ps := ["state"]) fun _ _ _ _ _ _ us hl => match us, hl with | [_], _ => rfl⟩
  have F7 := fun_mk (st := s__law_rows) l7 e7 k7
  have Dn7 : Dfn K mg "_law_rows" s__law_rows ["shop"] := ⟨f7, _, F7, PySem.W.mg_of X G a7, F7.binds (ps := ["shop"]) fun _ _ _ _ _ _ us hl => match us, hl with | [_], _ => rfl⟩
  have F8 := fun_mk (st := s__law_mixed) l8 e8 k8
  have Dn8 : Dfn K mg "_law_mixed" s__law_mixed ["cell", "many"] := ⟨f8, _, F8, PySem.W.mg_of X G a8, F8.binds (ps := ["cell", "many"]) fun _ _ _ _ _ _ us hl => match us, hl with | [_, _], _ => rfl⟩
  have F9 := fun_mk (st := s_read_number) l9 e9 k9
  have Dn9 : Dfn K mg "read_number" s_read_number ["word"] := ⟨f9, _, F9, PySem.W.mg_of X G a9, F9.binds (ps := ["word"]) fun _ _ _ _ _ _ us hl => match us, hl with | [_], _ => rfl⟩
  have F10 := fun_mk (st := s_is_name) l10 e10 k10
  have Dn10 : Dfn K mg "is_name" s_is_name ["found"] := ⟨f10, _, F10, PySem.W.mg_of X G a10, F10.binds (ps := ["found"]) fun _ _ _ _ _ _ us hl => match us, hl with | [_], _ => rfl⟩
  have F11 := fun_mk (st := s_read_row) l11 e11 k11
  have Dn11 : Dfn K mg "read_row" s_read_row ["row"] := ⟨f11, _, F11, PySem.W.mg_of X G a11, F11.binds (ps := ["row"]) fun _ _ _ _ _ _ us hl => match us, hl with | [_], _ => rfl⟩
  have F12 := fun_mk (st := s_are_unlike) l12 e12 k12
  have Dn12 : Dfn K mg "are_unlike" s_are_unlike ["names"] := ⟨f12, _, F12, PySem.W.mg_of X G a12, F12.binds (ps := ["names"]) fun _ _ _ _ _ _ us hl => match us, hl with | [_], _ => rfl⟩
  have F13 := fun_mk (st := s_is_whole) l13 e13 k13
  have Dn13 : Dfn K mg "is_whole" s_is_whole ["found", "least"] := ⟨f13, _, F13, PySem.W.mg_of X G a13, F13.binds (ps := ["found", "least"]) fun _ _ _ _ _ _ us hl => match us, hl with | [_, _], _ => rfl⟩
  have F14 := fun_mk (st := s_is_day) l14 e14 k14
  have Dn14 : Dfn K mg "is_day" s_is_day ["found"] := ⟨f14, _, F14, PySem.W.mg_of X G a14, F14.binds (ps := ["found"]) fun _ _ _ _ _ _ us hl => match us, hl with | [_], _ => rfl⟩
  have F15 := fun_mk (st := s_is_coming) l15 e15 k15
  have Dn15 : Dfn K mg "is_coming" s_is_coming ["found"] := ⟨f15, _, F15, PySem.W.mg_of X G a15, F15.binds (ps := ["found"]) fun _ _ _ _ _ _ us hl => match us, hl with | [_], _ => rfl⟩
  have F16 := fun_mk (st := s_is_part) l16 e16 k16
  have Dn16 : Dfn K mg "is_part" s_is_part ["found"] := ⟨f16, _, F16, PySem.W.mg_of X G a16, F16.binds (ps := ["found"]) fun _ _ _ _ _ _ us hl => match us, hl with | [_], _ => rfl⟩
  have F17 := fun_mk (st := s_are_all) l17 e17 k17
  have Dn17 : Dfn K mg "are_all" s_are_all ["found", "most", "is_one"] := ⟨f17, _, F17, PySem.W.mg_of X G a17, F17.binds (ps := ["found", "most", "is_one"]) fun _ _ _ _ _ _ us hl => match us, hl with | [_, _, _], _ => rfl⟩
  have F18 := fun_mk (st := s_is_ware) l18 e18 k18
  have Dn18 : Dfn K mg "is_ware" s_is_ware ["found"] := ⟨f18, _, F18, PySem.W.mg_of X G a18, F18.binds (ps := ["found"]) fun _ _ _ _ _ _ us hl => match us, hl with | [_], _ => rfl⟩
  have F19 := fun_mk (st := s_is_want) l19 e19 k19
  have Dn19 : Dfn K mg "is_want" s_is_want ["found"] := ⟨f19, _, F19, PySem.W.mg_of X G a19, F19.binds (ps := ["found"]) fun _ _ _ _ _ _ us hl => match us, hl with | [_], _ => rfl⟩
  have F20 := fun_mk (st := s_is_shop) l20 e20 k20
  have Dn20 : Dfn K mg "is_shop" s_is_shop ["found"] := ⟨f20, _, F20, PySem.W.mg_of X G a20, F20.binds (ps := ["found"]) fun _ _ _ _ _ _ us hl => match us, hl with | [_], _ => rfl⟩
  have F21 := fun_mk (st := s_pairs_of) l21 e21 k21
  have Dn21 : Dfn K mg "pairs_of" s_pairs_of ["rows", "word", "name"] := ⟨f21, _, F21, PySem.W.mg_of X G a21, F21.binds (ps := ["rows", "word", "name"]) fun _ _ _ _ _ _ us hl => match us, hl with | [_, _, _], _ => rfl⟩
  have F22 := fun_mk (st := s_read_shop) l22 e22 k22
  have Dn22 : Dfn K mg "read_shop" s_read_shop ["text"] := ⟨f22, _, F22, PySem.W.mg_of X G a22, F22.binds (ps := ["text"]) fun _ _ _ _ _ _ us hl => match us, hl with | [_], _ => rfl⟩
  have F23 := fun_mk (st := s__law_no_shop) l23 e23 k23
  have Dn23 : Dfn K mg "_law_no_shop" s__law_no_shop ["lines", "name", "x"] := ⟨f23, _, F23, PySem.W.mg_of X G a23, F23.binds (ps := ["lines", "name", "x"]) fun _ _ _ _ _ _ us hl => match us, hl with | [_, _, _], _ => rfl⟩
  have F24 := fun_mk (st := s__law_no_form) l24 e24 k24
  have Dn24 : Dfn K mg "_law_no_form" s__law_no_form ["lines", "x"] := ⟨f24, _, F24, PySem.W.mg_of X G a24, F24.binds (ps := ["lines", "x"]) fun _ _ _ _ _ _ us hl => match us, hl with | [_, _], _ => rfl⟩
  have F25 := fun_mk (st := s__law_refusal) l25 e25 k25
  have Dn25 : Dfn K mg "_law_refusal" s__law_refusal ["text"] := ⟨f25, _, F25, PySem.W.mg_of X G a25, F25.binds (ps := ["text"]) fun _ _ _ _ _ _ us hl => match us, hl with | [_], _ => rfl⟩
  have F26 := fun_mk (st := s_law) l26 e26 k26
  have C0 : ∀ base : Heap, (Cal l.prog w K mg base 1 "_law_drawn" (sp__law_drawn K) []) := fun base => c__law_drawn Dn0 Z 
  have C1 : ∀ base : Heap, (Cal l.prog w K mg base 1 "_law_next" (sp__law_next K) []) := fun base => c__law_next Dn1 Z 
  have C2 : ∀ base : Heap, (Cal l.prog w K mg base 2 "_law_names" (sp__law_names K) []) := fun base => c__law_names Dn2 Z (C1 base)
  have C3 : ∀ base : Heap, (Cal l.prog w K mg base 2 "_law_amount" (sp__law_amount K) []) := fun base => c__law_amount Dn3 Z (C1 base)
  have C4 : ∀ base : Heap, (Cal l.prog w K mg base 2 "_law_parts" (sp__law_parts K) []) := fun base => c__law_parts Dn4 Z (C1 base)
  have C5 : ∀ base : Heap, (Cal l.prog w K mg base 3 "_law_shop" (sp__law_shop_na K) []) := fun base => c__law_shop_na Dn5 Z (C1 base) (C3 base) (C4 base) (C2 base)
  have C6 : ∀ base : Heap, (Cal l.prog w K mg base 4 "_law_any_shop" (sp__law_any_shop_na K) []) := fun base => c__law_any_shop_na Dn6 Z (C1 base) (C5 base)
  have C7 : ∀ base : Heap, (Cal l.prog w K mg base 1 "_law_rows" (sp__law_rows_p K) []) := fun base => c__law_rows_p Dn7 Z 
  have C8 : ∀ base : Heap, (Cal l.prog w K mg base 1 "_law_mixed" (sp__law_mixed_n K) []) := fun base => c__law_mixed_n Dn8 Z 
  have C9 : ∀ base : Heap, (Cal l.prog w K mg base 1 "read_number" (sp_read_number K) []) := fun base => c_read_number Dn9 Z 
  have C10 : ∀ base : Heap, (Cal l.prog w K mg base 1 "is_name" (sp_is_name K) []) := fun base => c_is_name Dn10 Z 
  have C11 : ∀ base : Heap, (Cal l.prog w K mg base 2 "read_row" (sp_read_row K) []) := fun base => c_read_row Dn11 Z (C9 base) (C10 base)
  have C12 : ∀ base : Heap, (Cal l.prog w K mg base 1 "are_unlike" (sp_are_unlike K) []) := fun base => c_are_unlike Dn12 Z 
  have C13 : ∀ base : Heap, (Cal l.prog w K mg base 1 "is_whole" (sp_is_whole K) []) := fun base => c_is_whole Dn13 Z 
  have C14 : ∀ base : Heap, (Cal l.prog w K mg base 2 "is_day" (sp_is_day K) []) := fun base => c_is_day Dn14 Z (C13 base)
  have C15 : ∀ base : Heap, (Cal l.prog w K mg base 3 "is_coming" (sp_is_coming K) []) := fun base => c_is_coming Dn15 Z (C13 base) (C14 base)
  have C16 : ∀ base : Heap, (Cal l.prog w K mg base 2 "is_part" (sp_is_part K) []) := fun base => c_is_part Dn16 Z (C13 base) (C10 base)
  have C17 : ∀ base : Heap, (Cal l.prog w K mg base 4 "are_all" (sp_are_all_low K) []) := fun base => c_are_all_low Dn17 Z (C16 base) (C15 base)
  have C18 : ∀ base : Heap, (Cal l.prog w K mg base 5 "is_ware" (sp_is_ware K) []) := fun base => c_is_ware Dn18 Z (C12 base) (C17 base) (C16 base) (C15 base) (C13 base) (C10 base)
  have C19 : ∀ base : Heap, (Cal l.prog w K mg base 3 "is_want" (sp_is_want K) []) := fun base => c_is_want Dn19 Z (C13 base) (C14 base) (C10 base)
  have C20 : ∀ base : Heap, (Cal l.prog w K mg base 6 "are_all" (sp_are_all_high K) []) := fun base => c_are_all_high Dn17 Z (C19 base) (C18 base)
  have C21 : ∀ base : Heap, (Cal l.prog w K mg base 7 "is_shop" (sp_is_shop K) []) := fun base => c_is_shop Dn20 Z (C12 base) (C20 base) (C19 base) (C18 base)
  have C22 : ∀ base : Heap, (Cal l.prog w K mg base 1 "pairs_of" (sp_pairs_of K) []) := fun base => c_pairs_of Dn21 Z 
  have C23 : ∀ base : Heap, (Cal l.prog w K mg base 8 "read_shop" (sp_read_shop K) []) := fun base => c_read_shop Dn22 Z (C21 base) (C22 base) (C11 base)
  have C24 : ∀ base : Heap, (Cal l.prog w K mg base 2 "_law_no_shop" (sp__law_no_shop K) []) := fun base => c__law_no_shop Dn23 Z (C8 base)
  have C25 : ∀ base : Heap, (Cal l.prog w K mg base 2 "_law_no_form" (sp__law_no_form K) []) := fun base => c__law_no_form Dn24 Z (C8 base)
  have C26 : ∀ base : Heap, (CalX l.prog w K mg base 1 "read_number" (sp_read_number_tot K)) := fun base => c_read_number_tot Dn9 Z 
  have C27 : ∀ base : Heap, (CalX l.prog w K mg base 2 "read_row" (sp_read_row_x K)) := fun base => c_read_row_x Dn11 Z (C26 base) (C10 base)
  have C28 : ∀ base : Heap, (CalX l.prog w K mg base 8 "read_shop" (sp_read_shop_x K)) := fun base => c_read_shop_x Dn22 Z (C21 base) (C22 base) (C27 base)
  have C29 : ∀ base : Heap, (CalX l.prog w K mg base 9 "_law_refusal" (sp__law_refusal K)) := fun base => c__law_refusal Dn25 Z (C28 base)
  exact ⟨PySem.W.fnOf "law" "law" (defArgs s_law) (defBody s_law) (defScope s_law) .none kV26 dc26 pm26 an26 cd26 ct26, fun s v => .of_eq rfl, fun base _ _ => law_of (c_law F26 Z (C23 base) (C29 base) (C25 base) (C24 base) (C8 base) (C7 base) (C6 base) (C0 base))⟩
end N
open PySem PySem.W PyProof.Rows
set_option maxHeartbeats 0 in
theorem PySem.Challenge.cw_needplan_k53_refused_texts_holds : PySem.Challenge.rw_needplan_k53_refused_texts.Holds := by
  w_on; o_law; k_head; (case hw => w_witness2)
  k_fill
  refine L2.walk_of (l := PySem.Challenge.rw_needplan_k53_refused_texts) (n := 63) (k := 10) (x := "script") (CX := fun _ => L2.CX0) (sp := fun w => N.spLawN _) rfl (by decide) rfl ⟨rfl, by decide, by decide⟩ (fun w h Y => PySem.W.kIn_of Y) ?F (fun _ _ a ns hl _ hS => ⟨a, ns, rfl, hS, hl, (fun _ e => by cases e), fun _ => rfl⟩) (fun _ _ _ _ _ h => h)
  case F =>
    intro w mg fa h KX G hmg
    refine' N.all_mk KX G hmg ?a0 ?l0 ?e0 ?k0 ?a1 ?l1 ?e1 ?k1 ?a2 ?l2 ?e2 ?k2 ?a3 ?l3 ?e3 ?k3 ?a4 ?l4 ?e4 ?k4 ?a5 ?l5 ?e5 ?k5 ?a6 ?l6 ?e6 ?k6 ?a7 ?l7 ?e7 ?k7 ?a8 ?l8 ?e8 ?k8 ?a9 ?l9 ?e9 ?k9 ?a10 ?l10 ?e10 ?k10 ?a11 ?l11 ?e11 ?k11 ?a12 ?l12 ?e12 ?k12 ?a13 ?l13 ?e13 ?k13 ?a14 ?l14 ?e14 ?k14 ?a15 ?l15 ?e15 ?k15 ?a16 ?l16 ?e16 ?k16 ?a17 ?l17 ?e17 ?k17 ?a18 ?l18 ?e18 ?k18 ?a19 ?l19 ?e19 ?k19 ?a20 ?l20 ?e20 ?k20 ?a21 ?l21 ?e21 ?k21 ?a22 ?l22 ?e22 ?k22 ?a23 ?l23 ?e23 ?k23 ?a24 ?l24 ?e24 ?k24 ?a25 ?l25 ?e25 ?k25 ?a26 ?l26 ?e26 ?k26 ?z0 ?z1 ?z2 ?z3 ?z4 ?z5 ?z6 ?z7 ?z8 ?z9 ?z10 ?z11 ?y0 ?y1 ?y2 ?y3 ?y4 ?y5 ?y6 ?y7 ?y8 ?y9 ?xa0 ?xb0 ?xc0 ?xd0 ?xe0 ?xf0 ?xg0 ?xh0 ?xi0 ?xj0 ?xk0 ?xm0 ?xa1 ?xb1 ?xc1 ?xd1 ?xe1 ?xf1 ?xg1 ?xh1 ?xi1 ?xj1 ?xk1 ?xm1 ?xa2 ?xb2 ?xc2 ?xd2 ?xe2 ?xf2 ?xg2 ?xh2 ?xi2 ?xj2 ?xk2 ?xm2 ?xa3 ?xb3 ?xc3 ?xd3 ?xe3 ?xf3 ?xg3 ?xh3 ?xi3 ?xj3 ?xk3 ?xm3 ?xa4 ?xb4 ?xc4 ?xd4 ?xe4 ?xf4 ?xg4 ?xh4 ?xi4 ?xj4 ?xk4 ?xm4 ?xa5 ?xb5 ?xc5 ?xd5 ?xe5 ?xf5 ?xg5 ?xh5 ?xi5 ?xj5 ?xk5 ?xm5 ?xa6 ?xb6 ?xc6 ?xd6 ?xe6 ?xf6 ?xg6 ?xh6 ?xi6 ?xj6 ?xk6 ?xm6 ?xa7 ?xb7 ?xc7 ?xd7 ?xe7 ?xf7 ?xg7 ?xh7 ?xi7 ?xj7 ?xk7 ?xm7 ?y_f0 ?y_f1 ?y_f2 ?y_f3 ?y_f4 ?y_f5 ?y_f6 ?y_f7 ?y_f8 ?y_f9 ?y_f10 ?y_f11 ?y_f12 ?y_f13 ?y_f14 ?y_f15 ?y_f16 ?y_f17 ?ka0 ?kb0 ?kc0_0 ?kd0_0 ?kc0_1 ?kd0_1 ?kc0_2 ?kd0_2 ?kc0_3 ?kd0_3
    (case a0 => k_is); (case l0 => k_is); (case e0 => k_is); (case k0 => k_is); (case a1 => k_is); (case l1 => k_is)
    (case e1 => k_is); (case k1 => k_is); (case a2 => k_is); (case l2 => k_is); (case e2 => k_is); (case k2 => k_is)
    (case a3 => k_is); (case l3 => k_is); (case e3 => k_is); (case k3 => k_is); (case a4 => k_is); (case l4 => k_is)
    (case e4 => k_is); (case k4 => k_is); (case a5 => k_is); (case l5 => k_is); (case e5 => k_is); (case k5 => k_is)
    (case a6 => k_is); (case l6 => k_is); (case e6 => k_is); (case k6 => k_is); (case a7 => k_is); (case l7 => k_is)
    (case e7 => k_is); (case k7 => k_is); (case a8 => k_is); (case l8 => k_is); (case e8 => k_is); (case k8 => k_is)
    (case a9 => k_is); (case l9 => k_is); (case e9 => k_is); (case k9 => k_is); (case a10 => k_is); (case l10 => k_is)
    (case e10 => k_is); (case k10 => k_is); (case a11 => k_is); (case l11 => k_is); (case e11 => k_is); (case k11 => k_is)
    (case a12 => k_is); (case l12 => k_is); (case e12 => k_is); (case k12 => k_is); (case a13 => k_is); (case l13 => k_is)
    (case e13 => k_is); (case k13 => k_is); (case a14 => k_is); (case l14 => k_is); (case e14 => k_is); (case k14 => k_is)
    (case a15 => k_is); (case l15 => k_is); (case e15 => k_is); (case k15 => k_is); (case a16 => k_is); (case l16 => k_is)
    (case e16 => k_is); (case k16 => k_is); (case a17 => k_is); (case l17 => k_is); (case e17 => k_is); (case k17 => k_is)
    (case a18 => k_is); (case l18 => k_is); (case e18 => k_is); (case k18 => k_is); (case a19 => k_is); (case l19 => k_is)
    (case e19 => k_is); (case k19 => k_is); (case a20 => k_is); (case l20 => k_is); (case e20 => k_is); (case k20 => k_is)
    (case a21 => k_is); (case l21 => k_is); (case e21 => k_is); (case k21 => k_is); (case a22 => k_is); (case l22 => k_is)
    (case e22 => k_is); (case k22 => k_is); (case a23 => k_is); (case l23 => k_is); (case e23 => k_is); (case k23 => k_is)
    (case a24 => k_is); (case l24 => k_is); (case e24 => k_is); (case k24 => k_is); (case a25 => k_is); (case l25 => k_is)
    (case e25 => k_is); (case k25 => k_is); (case a26 => k_is); (case l26 => k_is); (case e26 => k_is); (case k26 => k_is)
    (case z0 => k_is); (case z1 => k_is); (case z2 => k_is); (case z3 => k_is); (case z4 => k_is); (case z5 => k_is)
    (case z6 => k_is); (case z7 => k_is); (case z8 => k_is); (case z9 => k_is); (case z10 => k_is); (case z11 => k_is)
    (case y0 => k_is); (case y1 => k_is); (case y2 => k_is); (case y3 => k_is); (case y4 => k_is); (case y5 => k_is)
    (case y6 => k_is); (case y7 => k_is); (case y8 => k_is); (case y9 => k_is); (case xa0 => k_is); (case xb0 => k_is)
    (case xc0 => k_exc); (case xd0 => k_is); (case xe0 => k_is); (case xf0 => k_is); (case xg0 => k_is); (case xh0 => k_is)
    (case xi0 => k_is); (case xj0 => k_is); (case xk0 => k_is); (case xm0 => k_is); (case xa1 => k_is); (case xb1 => k_is)
    (case xc1 => k_exc); (case xd1 => k_is); (case xe1 => k_is); (case xf1 => k_is); (case xg1 => k_is); (case xh1 => k_is)
    (case xi1 => k_is); (case xj1 => k_is); (case xk1 => k_is); (case xm1 => k_is); (case xa2 => k_is); (case xb2 => k_is)
    (case xc2 => k_exc); (case xd2 => k_is); (case xe2 => k_is); (case xf2 => k_is); (case xg2 => k_is); (case xh2 => k_is)
    (case xi2 => k_is); (case xj2 => k_is); (case xk2 => k_is); (case xm2 => k_is); (case xa3 => k_is); (case xb3 => k_is)
    (case xc3 => k_exc); (case xd3 => k_is); (case xe3 => k_is); (case xf3 => k_is); (case xg3 => k_is); (case xh3 => k_is)
    (case xi3 => k_is); (case xj3 => k_is); (case xk3 => k_is); (case xm3 => k_is); (case xa4 => k_is); (case xb4 => k_is)
    (case xc4 => k_exc); (case xd4 => k_is); (case xe4 => k_is); (case xf4 => k_is); (case xg4 => k_is); (case xh4 => k_is)
    (case xi4 => k_is); (case xj4 => k_is); (case xk4 => k_is); (case xm4 => k_is); (case xa5 => k_is); (case xb5 => k_is)
    (case xc5 => k_exc); (case xd5 => k_is); (case xe5 => k_is); (case xf5 => k_is); (case xg5 => k_is); (case xh5 => k_is)
    (case xi5 => k_is); (case xj5 => k_is); (case xk5 => k_is); (case xm5 => k_is); (case xa6 => k_is); (case xb6 => k_is)
    (case xc6 => k_exc); (case xd6 => k_is); (case xe6 => k_is); (case xf6 => k_is); (case xg6 => k_is); (case xh6 => k_is)
    (case xi6 => k_is); (case xj6 => k_is); (case xk6 => k_is); (case xm6 => k_is); (case xa7 => k_is); (case xb7 => k_is)
    (case xc7 => k_exc); (case xd7 => k_is); (case xe7 => k_is); (case xf7 => k_is); (case xg7 => k_is); (case xh7 => k_is)
    (case xi7 => k_is); (case xj7 => k_is); (case xk7 => k_is); (case xm7 => k_is); (case y_f0 => k_is); (case y_f1 => k_is)
    (case y_f2 => kit_is); (case y_f3 => kit_is); (case y_f4 => kit_is); (case y_f5 => kit_is); (case y_f6 => kit_is); (case y_f7 => kit_is)
    (case y_f8 => kit_is); (case y_f9 => kit_is); (case y_f10 => kit_is); (case y_f11 => kit_is); (case y_f12 => kit_is); (case y_f13 => kit_is)
    (case y_f14 => kit_is); (case y_f15 => kit_is); (case y_f16 => kit_is); (case y_f17 => kit_is); (case ka0 => k_is); (case kb0 => exact rfl)
    (case kc0_0 => k_is); (case kd0_0 => k_is); (case kc0_1 => k_is); (case kd0_1 => k_is); (case kc0_2 => k_is); (case kd0_2 => k_is)
    (case kc0_3 => k_is); (case kd0_3 => k_is)
