import PyProof.Rows.All
import Wide.All
import OpenK.AllK
import Wide.FinOn
import HandS.ForMost
import HandS.Deep
import HandS.Walk
import HandS.Wide
import HandS.IsInst
import HandS.DictComp
import HandS.Style
import HandS.Star
import PyProof.P3Eq
import HandS.Property
import HandS.ForExc
import HandS.ExcInit
import KE.KExcInit
import HandS.ExcCtx
import HandS.Defaults
import HandS.WordsExc
import HandS.SuiteRaise
import HandS.RaiseFrom
import HandS.Finally
import HandS.ExcInitHot
import KE.KWithOwn
import HandS.MethStar
import KE.GoesMore
import HandS.Iter
import KE.KExcIs
import HandS.ExcIs
import HandS.ExcField
import HandS.WordsDict
import HandS.Head0
import HandS.Head1
import HandS.Head2
import HandS.HeadEnd
import HandS.HeadHook1
import HandS.HeadHook2
import HandS.HeadNt
import PySem.Challenge.RW_parentrows_k79_moves_into_rings
set_option Elab.async false
set_option linter.all false
set_option maxRecDepth 100000
section
set_option maxHeartbeats 4000000
namespace PR
open PySem L2 PySem.Spec

/-! ### heaps with some places hidden -/
def hid (S : List Addr) (H : Hp) : Hp := fun b => if b ∈ S then none else H b
def OkS (S : List Addr) (H : Hp) : Prop := ∀ a, a ∈ S → ∃ o, H a = some o
def Fr1 (t : Addr) (H H' : Hp) : Prop := ∀ b o, b ≠ t → H b = some o → H' b = some o
section
variable {S : List Addr} {H H1 H2 : Hp} {a b p t : Addr} {o u : HO} {K : PySem.W.Frag} {v : V} {d : PyData}
theorem hid_in (h : b ∈ S) : hid S H b = none := by unfold hid; rw [if_pos h]
theorem hid_out (h : b ∉ S) : hid S H b = H b := by unfold hid; rw [if_neg h]
theorem hid_some (h : hid S H b = some o) : H b = some o ∧ b ∉ S := by
  unfold hid at h
  by_cases q : b ∈ S
  · rw [if_pos q] at h; cases h
  · rw [if_neg q] at h; exact ⟨h, q⟩
theorem hid_same : Same (hid S H) H := fun b o h => (hid_some h).1
theorem Same.hid (s : Same H H1) : Same (hid S H) (hid S H1) := fun b o h => by
  obtain ⟨h1, h2⟩ := hid_some h
  rw [hid_out h2]; exact s b o h1
theorem OkS.nil : OkS [] H := fun a h => absurd h (by simp)
theorem OkS.same (k : OkS S H) (s : Same H H1) : OkS S H1 := fun a h => by
  obtain ⟨o, e⟩ := k a h
  exact ⟨o, s a o e⟩
theorem OkS.new (k : OkS S H) (h : H p = none) : p ∉ S := fun q => by
  obtain ⟨o, e⟩ := k p q
  rw [h] at e; cases e
theorem OkS.cons (k : OkS S H) (h : H p = some o) : OkS (p :: S) H := fun a q => by
  rcases List.mem_cons.mp q with e | e
  · subst e; exact ⟨o, h⟩
  · exact k a e
theorem OkS.upd (k : OkS S H) : OkS S (upd H p o) := fun a q => by
  by_cases e : a = p
  · subst e; exact ⟨o, upd_same⟩
  · obtain ⟨u, h⟩ := k a q
    exact ⟨u, by rw [upd_ne e]; exact h⟩
theorem OkS.fr1 (k : OkS S H) (f : Fr1 t H H1) (h : ∃ o, H1 t = some o) : OkS S H1 := fun a q => by
  by_cases e : a = t
  · subst e; exact h
  · obtain ⟨u, z⟩ := k a q
    exact ⟨u, f a u e z⟩
/-- a new place is hidden: the rest is as it was -/
theorem hid_new (n : hid S H p = none) : hid (p :: S) (upd H p o) = hid S H := by
  funext b
  by_cases e : b = p
  · subst e; rw [hid_in List.mem_cons_self, n]
  · by_cases q : b ∈ S
    · rw [hid_in (List.mem_cons_of_mem _ q), hid_in q]
    · rw [hid_out (by intro z; rcases List.mem_cons.mp z with z | z; exact e z; exact q z), hid_out q, upd_ne e]
theorem hid_mut (h : p ∈ S) : hid S (upd H p o) = hid S H := by
  funext b
  by_cases q : b ∈ S
  · rw [hid_in q, hid_in q]
  · rw [hid_out q, hid_out q, upd_ne (fun e => q (by rw [e]; exact h))]
theorem hid_none (h : H p = none) : hid S H p = none := by
  unfold hid
  split
  · rfl
  · exact h
theorem hid_alloc (h : p ∉ S) : hid S (upd H p o) = upd (hid S H) p o := by
  funext b
  by_cases e : b = p
  · subst e; rw [hid_out h, upd_same, upd_same]
  · by_cases q : b ∈ S
    · rw [hid_in q, upd_ne e, hid_in q]
    · rw [hid_out q, upd_ne e, upd_ne e, hid_out q]
theorem same_upd (h : H p = none) : Same H (upd H p o) := fun b u e => by rw [upd_ne (ne_of_none e h)]; exact e
theorem hid_sub {S' : List Addr} (h : ∀ a, a ∈ S → a ∈ S') : Same (hid S' H) (hid S H) := fun b o e => by
  obtain ⟨h1, h2⟩ := hid_some e
  rw [hid_out (fun q => h2 (h b q))]; exact h1
theorem Fr1.refl : Fr1 t H H := fun _ _ _ e => e
theorem Fr1.trans (f : Fr1 t H H1) (g : Fr1 t H1 H2) : Fr1 t H H2 := fun b o n e => g b o n (f b o n e)
theorem Same.fr1 (s : Same H H1) : Fr1 t H H1 := fun b o _ e => s b o e
theorem fr1_upd : Fr1 t H (upd H t o) := fun b u n e => by rw [upd_ne n]; exact e
theorem Fr1.hid (f : Fr1 t H H1) : Fr1 t (hid S H) (hid S H1) := fun b o n e => by
  obtain ⟨h1, h2⟩ := hid_some e
  rw [hid_out h2]; exact f b o n h1

/-! ### data -/
theorem sqT_mono {xs : List V} (e : Same H H1) (h : SqT K H a xs) : SqT K H1 a xs := by
  rcases h with (h | ⟨o, h⟩) | h
  · exact .inl (.inl (e _ _ h))
  · exact .inl (.inr ⟨o, e _ _ h⟩)
  · exact .inr h
mutual
theorem dp_mono (e : Same H H1) : ∀ {v : V} {d : PyData}, Dp K H v d → Dp K H1 v d
  | _, _, .non => .non
  | _, _, .bl b => .bl b
  | _, _, .int i => .int i
  | _, _, .str x => .str x
  | _, _, .lst h t => .lst (e.seq h) (dpAll_mono e t)
  | _, _, .tup h t => .tup (sqT_mono e h) (dpAll_mono e t)
theorem dpAll_mono (e : Same H H1) : ∀ {vs : List V} {ds : List PyData}, DpAll K H vs ds → DpAll K H1 vs ds
  | _, _, .nil => .nil
  | _, _, .cons h t => .cons (dp_mono e h) (dpAll_mono e t)
end
/-- what is no list and no tuple -/
def NoSeq : HO → Prop
  | .lst _ => False
  | .tup _ => False
  | .frz _ _ => False
  | _ => True
theorem sqL_fr1 {xs : List V} (f : Fr1 t H H1) (ht : H t = some u) (n : NoSeq u) (h : SqL K H a xs) : SqL K H1 a xs := by
  rcases h with (h | ⟨o, h⟩) | h
  · refine .inl (.inl (f _ _ (fun e => ?_) h))
    rw [e, ht] at h; cases h; exact n
  · refine .inl (.inr ⟨o, f _ _ (fun e => ?_) h⟩)
    rw [e, ht] at h; cases h; exact n
  · exact .inr h
theorem sqT_fr1 {xs : List V} (f : Fr1 t H H1) (ht : H t = some u) (n : NoSeq u) (h : SqT K H a xs) : SqT K H1 a xs := by
  rcases h with (h | ⟨o, h⟩) | h
  · refine .inl (.inl (f _ _ (fun e => ?_) h))
    rw [e, ht] at h; cases h; exact n
  · refine .inl (.inr ⟨o, f _ _ (fun e => ?_) h⟩)
    rw [e, ht] at h; cases h; exact n
  · exact .inr h
mutual
theorem dp_fr1 (f : Fr1 t H H1) (ht : H t = some u) (n : NoSeq u) : ∀ {v : V} {d : PyData}, Dp K H v d → Dp K H1 v d
  | _, _, .non => .non
  | _, _, .bl b => .bl b
  | _, _, .int i => .int i
  | _, _, .str x => .str x
  | _, _, .lst h q => .lst (sqL_fr1 f ht n h) (dpAll_fr1 f ht n q)
  | _, _, .tup h q => .tup (sqT_fr1 f ht n h) (dpAll_fr1 f ht n q)
theorem dpAll_fr1 (f : Fr1 t H H1) (ht : H t = some u) (n : NoSeq u) : ∀ {vs : List V} {ds : List PyData}, DpAll K H vs ds → DpAll K H1 vs ds
  | _, _, .nil => .nil
  | _, _, .cons h q => .cons (dp_fr1 f ht n h) (dpAll_fr1 f ht n q)
end
theorem dpAll_len : ∀ {vs : List V} {ds : List PyData}, DpAll K H vs ds → vs.length = ds.length
  | _, _, .nil => rfl
  | _, _, .cons _ t => by rw [List.length_cons, List.length_cons, dpAll_len t]
theorem dpAll_get : ∀ {vs : List V} {ds : List PyData} {i : Nat} {d : PyData}, DpAll K H vs ds → ds[i]? = some d → ∃ v, vs[i]? = some v ∧ Dp K H v d
  | _, _, _, _, .nil, e => by simp at e
  | _, _, 0, _, .cons h _, e => by simp at e; subst e; exact ⟨_, rfl, h⟩
  | _, _, i + 1, _, .cons _ t, e => by
    obtain ⟨v, h1, h2⟩ := dpAll_get (i := i) t (by simpa using e)
    exact ⟨v, by simpa using h1, h2⟩
theorem dpAll_app : ∀ {vs ws : List V} {ds es : List PyData}, DpAll K H vs ds → DpAll K H ws es → DpAll K H (vs ++ ws) (ds ++ es)
  | _, _, _, _, .nil, h => h
  | _, _, _, _, .cons h t, q => .cons h (dpAll_app t q)
theorem dpAll_snoc {vs : List V} {ds : List PyData} (h : DpAll K H vs ds) (q : Dp K H v d) : DpAll K H (vs ++ [v]) (ds ++ [d]) := dpAll_app h (.cons q .nil)
theorem dpAll_ints : ∀ (ns : List Int), DpAll K H (ns.map V.int) (ns.map PyData.int)
  | [] => .nil
  | n :: ns => .cons (.int n) (dpAll_ints ns)
theorem dpAll_ints_of : ∀ {ns : List Int} {vs : List V}, DpAll K H vs (ns.map PyData.int) → vs = ns.map V.int
  | [], _, h => by cases h; rfl
  | n :: ns, _, h => by
    cases h with
    | cons h t => cases h; rw [dpAll_ints_of t]; rfl
theorem dp_int {n : Int} (h : Dp K H v (.int n)) : v = .int n := by cases h; rfl
theorem dp_lst {ds : List PyData} (h : Dp K H v (.list ds)) : ∃ a xs, v = .ref a ∧ SqL K H a xs ∧ DpAll K H xs ds := by cases h with | lst h t => exact ⟨_, _, rfl, h, t⟩
theorem dp_tup {ds : List PyData} (h : Dp K H v (.tuple ds)) : ∃ a xs, v = .ref a ∧ SqT K H a xs ∧ DpAll K H xs ds := by cases h with | tup h t => exact ⟨_, _, rfl, h, t⟩
end

/-! ### the bag -/
def BagAt (H : Hp) (p : Addr) : Prop := ∃ c m : Int, 0 ≤ c ∧ 0 ≤ m ∧ m < 2147483648 ∧ H p = some (.lst [.int c, .int m])
def spBag (K : PySem.W.Frag) : Sp := fun vs H Q _ => ∃ (a : Addr) (ns : List Int) (z : Nat), vs = [.ref a, .int z] ∧ SqL K H a (ns.map V.int) ∧ z ≤ 10 ∧ ns.length ≤ 63 ∧
  ∀ p H', H p = none → Same H H' → BagAt H' p → Q (.ref p) H'
def spTake : Sp := fun vs H Q _ => ∃ (p : Addr) (k : Int), vs = [.ref p, .int k] ∧ BagAt H p ∧ 0 < k ∧ k.natAbs < 2 ^ 200 ∧
  ∀ (d : Int) (c m : Int), 0 ≤ d → d < k → 0 ≤ c → 0 ≤ m → m < 2147483648 → Q (.int d) (upd H p (.lst [.int c, .int m]))

/-! ### readings, step by step -/
def SetAt {α : Type} (l : List α) (n : Nat) (x : α) (l' : List α) : Prop := l.set n x = l'
theorem setAt_z {α : Type} {a x : α} {l : List α} : SetAt (a :: l) 0 x (x :: l) := rfl
theorem setAt_s {α : Type} {a x : α} {l l' : List α} {n : Nat} (h : SetAt l n x l') : SetAt (a :: l) (n + 1) x (a :: l') := by
  have h' : l.set n x = l' := h
  show (a :: l).set (n + 1) x = a :: l'
  rw [List.set_cons_succ, h']
theorem sz_small {n : Nat} (h : n ≤ 1000) : n ≤ sizeLine := Nat.le_trans h (by decide)
namespace Rd
variable {σ σ' : L2.St} {H H1 : Hp} {Q : VK} {D : Ends} {ta tb te : TE} {tt t1 t2 : TT} {tar : TA} {r : R2} {x y v : V} {i j : Int} {n : Nat} {K : PySem.W.Frag} {p : Addr} {xs : List V} {s1 s2 : TS} {g : TG} {b : Bool}
theorem nxE {f : L2.St → Hp → Prop} {r : VK} {bk ct : L2.St → Hp → Prop} (h : f σ H) : (Ends.mk f r bk ct).nx σ H := h
theorem rtE {f : L2.St → Hp → Prop} {r : VK} {bk ct : L2.St → Hp → Prop} (h : r v H) : (Ends.mk f r bk ct).rt v H := h
theorem ctE {f : L2.St → Hp → Prop} {r : VK} {bk ct : L2.St → Hp → Prop} (h : ct σ H) : (Ends.mk f r bk ct).ct σ H := h
theorem bkE {f : L2.St → Hp → Prop} {r : VK} {bk ct : L2.St → Hp → Prop} (h : bk σ H) : (Ends.mk f r bk ct).bk σ H := h
theorem seq (h : s1 { D with nx := s2 D } σ H) : tSeq s1 s2 D σ H := h
theorem asg (h : te σ H fun x H1 => g x σ H1 D.nx) : tAsg te g D σ H := h
theorem gname {Qg : L2.St → Hp → Prop} (e : SetAt σ n (some v) σ') (h : Qg σ' H) : gName n v σ H Qg := by
  have e' : σ.set n (some v) = σ' := e
  subst e'; exact h
theorem ifS (h : tt σ H fun b H1 => if b = true then s1 D σ H1 else s2 D σ H1) : tIfS tt s1 s2 D σ H := h
theorem ret (h : te σ H D.rt) : tRet te D σ H := h
theorem retN (h : D.rt .non H) : tRetN D σ H := h
theorem drop (h : te σ H fun _ H1 => D.nx σ H1) : tDrop te D σ H := h
theorem next (h : D.nx σ H) : tNext D σ H := h
theorem var (e : σ[n]? = some (some v)) (h : Q v H) : tVar n σ H Q := ⟨v, e, h⟩
theorem c (h : Q v H) : tC v σ H Q := h
theorem op (h : ta σ H fun x H1 => tb σ H1 fun y H2 => r x y H2 Q) : tOp r ta tb σ H Q := h
theorem un {r : V → Hp → VK → Prop} (h : ta σ H fun x H1 => r x H1 Q) : tUn r ta σ H Q := h
theorem neg (h : Q (.int (-i)) H) : rU (fun i => .int (-i)) (.int i) H Q := ⟨i, rfl, h⟩
theorem i0 {g : Int → Int → V} (h : Q (g i j) H) : rI0 g (.int i) (.int j) H Q := ⟨i, j, rfl, rfl, h⟩
theorem ic {C : Int → Int → Prop} {g : Int → Int → V} (hc : C i j) (h : Q (g i j) H) : rI C g (.int i) (.int j) H Q := ⟨i, j, rfl, rfl, hc, h⟩
theorem yes {c A B : Prop} [Decidable c] (h : c) (k : A) : if c then A else B := by rw [if_pos h]; exact k
theorem no {c A B : Prop} [Decidable c] (h : ¬ c) (k : B) : if c then A else B := by rw [if_neg h]; exact k
theorem chain {r' : R2} {tc : TE} (h : ta σ H fun x H1 => tb σ H1 fun y H2 => r x y H2 fun z H3 => ∃ k, z = .bl k ∧ (if k = true then tc σ H3 fun w' H4 => r' y w' H4 Q else Q (.bl false) H3)) : tChain r r' ta tb tc σ H Q := h
theorem test {Qb : Bool → Hp → Prop} (h : te σ H fun x H' => ∃ k, x = .bl k ∧ Qb k H') : tTest te σ H Qb := h
theorem tB {Qb : Bool → Hp → Prop} (h : te σ H fun x H' => ∃ k, x = .bl k ∧ Qb k H') : L2.tB te σ H Qb := h
theorem bl {P : Bool → Prop} (h : P b) : ∃ k, V.bl b = .bl k ∧ P k := ⟨b, rfl, h⟩
theorem not {Qb : Bool → Hp → Prop} (h : tt σ H fun c H1 => Qb (!c) H1) : tNot tt σ H Qb := h
theorem and {Qb : Bool → Hp → Prop} (h : t1 σ H fun c H1 => if c = true then t2 σ H1 Qb else Qb false H1) : tAnd t1 t2 σ H Qb := h
theorem or {Qb : Bool → Hp → Prop} (h : t1 σ H fun c H1 => if c = true then Qb true H1 else t2 σ H1 Qb) : tOr t1 t2 σ H Qb := h
theorem andV (h : ta σ H fun x H1 => ∃ c, x = .bl c ∧ if c = true then tb σ H1 Q else Q (.bl false) H1) : tAndV ta tb σ H Q := h
theorem orV (h : ta σ H fun x H1 => ∃ c, x = .bl c ∧ if c = true then Q (.bl true) H1 else tb σ H1 Q) : tOrV ta tb σ H Q := h
theorem notV (h : ta σ H fun x H1 => ∃ c, x = .bl c ∧ Q (.bl (!c)) H1) : tNotV ta σ H Q := h
theorem ifE (h : tt σ H fun c H1 => if c = true then ta σ H1 Q else tb σ H1 Q) : tIf tt ta tb σ H Q := h
/-- what an expression gives, told by P alone -/
theorem cutE {P : V → Prop} (h1 : ∀ Q' : VK, (∀ v, P v → Q' v H) → te σ H Q') (h2 : ∀ v, P v → Q v H) : te σ H Q := h1 Q h2
theorem cutH {P : V → Hp → Prop} (h1 : ∀ Q' : VK, (∀ v H1, P v H1 → Q' v H1) → te σ H Q') (h2 : ∀ v H1, P v H1 → Q v H1) : te σ H Q := h1 Q h2
theorem nilA {Qa : List V → Hp → Prop} (h : Qa [] H) : tNil σ H Qa := h
theorem consA {Qa : List V → Hp → Prop} (h : ta σ H fun x H1 => tar σ H1 fun xs H2 => Qa (x :: xs) H2) : tCons ta tar σ H Qa := h
theorem cb {r : List V → Hp → VK → Prop} (h : tar σ H fun vs H1 => r vs H1 Q) : tCB r tar σ H Q := h
theorem int1 {P : Int → Prop} {P2 : Bool → Prop} (h : P i) : (∃ z, [V.int i] = [V.int z] ∧ P z) ∨ ∃ k, [V.int i] = [V.bl k] ∧ P2 k := .inl ⟨i, rfl, h⟩
theorem abs1 {P : Int → Prop} (h : P i) : ∃ z, [V.int i] = [V.int z] ∧ P z := ⟨i, rfl, h⟩
theorem ixL (h1 : SqL K H p xs) (h2 : atI xs i = some v) (h : Q v H) : rIxL K (.ref p) (.int i) H Q := ⟨p, xs, i, v, rfl, rfl, h1, h2, h⟩
theorem ixT (h1 : SqT K H p xs) (h2 : atI xs i = some v) (h : Q v H) : rIxT K (.ref p) (.int i) H Q := ⟨p, xs, i, v, rfl, rfl, h1, h2, h⟩
theorem ixA (h1 : SqL K H p xs) (h2 : atI xs i = some v) (h : Q v H) : rIx K (.ref p) (.int i) H Q := .inl (ixL h1 h2 h)
theorem ixB (h1 : SqT K H p xs) (h2 : atI xs i = some v) (h : Q v H) : rIx K (.ref p) (.int i) H Q := .inr (.inl (ixT h1 h2 h))
theorem gsub {to ti : TE} {t : TSet} {Qg : L2.St → Hp → Prop} (h : to σ H fun o H1 => ti σ H1 fun i H2 => t o i v H2 fun H3 => Qg σ H3) : gSub to ti t v σ H Qg := h
theorem setL {k : Nat} {ys : List V} {Qh : Hp → Prop} (h1 : H p = some (.lst xs)) (h2 : ixN xs.length i = some k) (h3 : SetAt xs k v ys) (h : Qh (upd H p (.lst ys))) : rSetL (.ref p) (.int i) v H Qh := ⟨p, xs, i, k, rfl, rfl, h1, h2, by rw [show xs.set k v = ys from h3]; exact h⟩
theorem par {a b : Nat} {v w : V} {σ1 : L2.St} {Qn : L2.St → Hp → Prop} (e1 : SetAt σ a (some v) σ1) (e : SetAt σ1 b (some w) σ') (h : Qn σ' H) : ∃ v' w', [v, w] = [v', w'] ∧ Qn ((σ.set a (some v')).set b (some w')) H :=
  ⟨v, w, rfl, by rw [show σ.set a (some v) = σ1 from e1, show σ1.set b (some w) = σ' from e]; exact h⟩
theorem tpar {a b : Nat} (h : tar σ H fun vs H1 => ∃ v w, vs = [v, w] ∧ D.nx ((σ.set a (some v)).set b (some w)) H1) : tPar a b tar D σ H := h
/-- a new object: at a free place, told by what stands there and by what is kept -/
def NewAt (H : Hp) (o : HO) (n : Nat) (k : Addr → Hp → Prop) : Prop := n ≤ sizeLine ∧ ∀ p, H p = none → k p (upd H p o)
theorem newAt {o : HO} {n : Nat} {k : Addr → Hp → Prop} (hz : n ≤ sizeLine) (h : ∀ p H2, H p = none → Same H H2 → H2 p = some o → k p H2) : NewAt H o n k := ⟨hz, fun p np => h p _ np (same_upd np) upd_same⟩
theorem ttup (h : tar σ H fun xs H1 => NewAt H1 (.tup xs) xs.length fun p H2 => Q (.ref p) H2) : tTup tar σ H Q := h
theorem tlst (h : tar σ H fun xs H1 => NewAt H1 (.lst xs) xs.length fun p H2 => Q (.ref p) H2) : tLst tar σ H Q := h
theorem eqD {d e : PyData} (h1 : Dp K H x d) (h2 : Dp K H y e) (s1 : SeqAt.shaped d = true) (s2 : SeqAt.shaped e = true) (h : Q (.bl (PyData.eqv d e)) H) : rEqD K x y H Q := ⟨d, e, h1, h2, s1, s2, h⟩
theorem neD {d e : PyData} (h1 : Dp K H x d) (h2 : Dp K H y e) (s1 : SeqAt.shaped d = true) (s2 : SeqAt.shaped e = true) (h : Q (.bl (!PyData.eqv d e)) H) : rNeD K x y H Q := ⟨d, e, h1, h2, s1, s2, h⟩
theorem inD {d : PyData} {ds : List PyData} (h1 : Dp K H x d) (h2 : Dp K H y (.list ds)) (s1 : SeqAt.shaped d = true) (s2 : SeqAt.shaped (.list ds) = true) (h : Q (.bl (ds.any fun z => PyData.eqv z d)) H) : rInD K x y H Q := ⟨d, ds, h1, h2, s1, s2, h⟩
theorem notInD {d : PyData} {ds : List PyData} (h1 : Dp K H x d) (h2 : Dp K H y (.list ds)) (s1 : SeqAt.shaped d = true) (s2 : SeqAt.shaped (.list ds) = true) (h : Q (.bl (!ds.any fun z => PyData.eqv z d)) H) : rNotInD K x y H Q := ⟨d, ds, h1, h2, s1, s2, h⟩
theorem tyes {Qb : Bool → Hp → Prop} (h : Qb true H) : tYes σ H Qb := h
theorem wp {vs : List Nat} {P : Prop} (e : wipe σ vs = wipe σ' vs) (h : P) : wipe σ vs = wipe σ' vs ∧ P := ⟨e, h⟩
theorem isN {P : Prop} (h : P) : (V.non = V.non ∧ P) := ⟨rfl, h⟩
theorem noN {k : Int} {A B : Prop} (h : B) : if decide (V.int k = V.non) = true then A else B := no (fun z => by cases of_decide_eq_true z) h
theorem noNr {k : Addr} {A B : Prop} (h : B) : if decide (V.ref k = V.non) = true then A else B := no (fun z => by cases of_decide_eq_true z) h
theorem yesN {A B : Prop} (h : A) : if decide (V.non = V.non) = true then A else B := yes (decide_eq_true rfl) h
theorem yesI {k : Int} {A B : Prop} (h : A) : if (!decide (V.int k = V.non)) = true then A else B := yes (by rw [decide_eq_false (fun z => by cases z)]; rfl) h
theorem yesR {k : Addr} {A B : Prop} (h : A) : if (!decide (V.ref k = V.non)) = true then A else B := yes (by rw [decide_eq_false (fun z => by cases z)]; rfl) h
theorem noNN {A B : Prop} (h : B) : if (!decide (V.non = V.non)) = true then A else B := no (by rw [decide_eq_true rfl]; exact Bool.false_ne_true) h
theorem call {sp : Sp} {dvs : List V} {E : XK} (h : tar σ H fun vs H1 => sp (vs ++ dvs) H1 Q E) : tCall sp dvs E tar σ H Q := h
theorem sl {r : V → Option Int → Option Int → Hp → VK → Prop} {tl th : TO} (h : te σ H fun x H1 => tl σ H1 fun l H2 => th σ H2 fun u H3 => r x l u H3 Q) : tSl r te tl th σ H Q := h
theorem noPart {Qo : Option Int → Hp → Prop} (h : Qo none H) : tNoPart σ H Qo := h
theorem part {Qo : Option Int → Hp → Prop} (h : te σ H fun x H1 => ∃ i, x = .int i ∧ Qo (some i) H1) : tPart te σ H Qo := h
theorem ex_int {Qo : Int → Prop} (h : Qo i) : ∃ z, V.int i = .int z ∧ Qo z := ⟨i, rfl, h⟩
theorem slL {lo hi : Option Int} (h1 : SqL K H p xs) (h : ∀ q H1, H q = none → Same H H1 → H1 q = some (.lst (cutV xs lo hi)) → Q (.ref q) H1) : rSlL K (.ref p) lo hi H Q :=
  ⟨p, xs, rfl, h1, fun q n => h q _ n (same_upd n) upd_same⟩
theorem bm {T : String} {r : V → List V → Hp → VK → Prop} (h : te σ H fun x H1 => tyV K T x H1 ∧ tar σ H1 fun xs H2 => r x xs H2 Q) : tBM K T r te tar σ H Q := h
theorem tyL (h : H p = some (.lst xs)) : tyV K "list" (.ref p) H := Or.inl ⟨rfl, _, Or.inl (Or.inl h)⟩
theorem tyLs (h : SqL K H p xs) : tyV K "list" (.ref p) H := Or.inl ⟨rfl, _, h⟩
theorem app (h1 : H p = some (.lst xs)) (h2 : xs.length < sizeLine) (h : Q .non (upd H p (.lst (xs ++ [v])))) : rAppend (.ref p) [v] H Q := ⟨p, xs, v, rfl, rfl, h1, h2, h⟩
theorem lenL {P : Nat → Prop} (h1 : SqL K H p xs) (h : P xs.length) : ∃ x n, [V.ref p] = [x] ∧ LenV K x H n ∧ P n := ⟨_, _, rfl, .inl ⟨xs, h1, rfl⟩, h⟩
theorem lenT {P : Nat → Prop} (h1 : SqT K H p xs) (h : P xs.length) : ∃ x n, [V.ref p] = [x] ∧ LenV K x H n ∧ P n := ⟨_, _, rfl, .inr ⟨xs, h1, rfl⟩, h⟩
theorem tfor {wi : TI} {g : TG} {tb : TS} (h : wi σ H fun J H1 => ∃ W : Nat → Nat → L2.St → Hp → Prop, (∃ m, W 0 m σ H1) ∧ ∀ i m σ H, W i m σ H →
  (J.stop i H ∧ D.nx σ H) ∨ (J.go i H ∧ ∃ N : L2.St → Hp → Prop, (∀ σ' H', N σ' H' → ∃ m', m' < m ∧ W (i + 1) m' σ' H') ∧ ∀ x H', J.yld i H x H' → g x σ H' fun σ2 H2 => tb { D with nx := N, ct := N, bk := D.nx } σ2 H2)) : tFor wi g tb D σ H := h
theorem enum {ta : TA} {R : It → Hp → Prop} (h : ta σ H fun vs H1 => ∃ a xs, vs = [.ref a] ∧ SqL K H1 a xs ∧ R (Ite K a) H1) : iEnum K ta σ H R := h
theorem enumAt {P : Addr → Prop} (h1 : SqL K H p xs) (h : P p) : ∃ a ys, [V.ref p] = [.ref a] ∧ SqL K H a ys ∧ P a := ⟨p, xs, rfl, h1, h⟩
theorem rng1 {ta : TA} {R : It → Hp → Prop} (h : ta σ H fun vs H1 => ∃ j : Int, vs = [.int j] ∧ -(2 ^ 62) ≤ j ∧ j < 2 ^ 62 ∧ R (Itr 0 j.toNat) H1) : iRng1 ta σ H R := h
theorem rng1At {P : Int → Prop} (h1 : -(2 ^ 62) ≤ i) (h2 : i < 2 ^ 62) (h : P i) : ∃ j : Int, [V.int i] = [.int j] ∧ -(2 ^ 62) ≤ j ∧ j < 2 ^ 62 ∧ P j := ⟨i, rfl, h1, h2, h⟩
theorem rng2 {ta : TA} {R : It → Hp → Prop} (h : ta σ H fun vs H1 => ∃ i j : Int, vs = [.int i, .int j] ∧ (-(2 ^ 62) ≤ i ∧ i < 2 ^ 62 ∧ -(2 ^ 62) ≤ j ∧ j < 2 ^ 62) ∧ R (Itr i (j - i).toNat) H1) : iRng2 ta σ H R := h
theorem ilist {R : It → Hp → Prop} (h : te σ H fun x H1 => ∃ a, x = .ref a ∧ (∃ xs, SqL K H1 a xs) ∧ R (Itl K a) H1) : iList K te σ H R := h
theorem itup {R : It → Hp → Prop} (h : te σ H fun x H1 => ∃ a, x = .ref a ∧ (∃ xs, SqT K H1 a xs) ∧ R (Itt K a) H1) : iTup K te σ H R := h
theorem ilistAt {P : Addr → Prop} (h1 : SqL K H p xs) (h : P p) : ∃ a, V.ref p = .ref a ∧ (∃ ys, SqL K H a ys) ∧ P a := ⟨p, rfl, ⟨xs, h1⟩, h⟩
theorem itupAt {P : Addr → Prop} (h1 : SqT K H p xs) (h : P p) : ∃ a, V.ref p = .ref a ∧ (∃ ys, SqT K H a ys) ∧ P a := ⟨p, rfl, ⟨xs, h1⟩, h⟩
theorem gtup {t : TGs} {Qg : L2.St → Hp → Prop} (h1 : SqT K H p xs) (h2 : xs.length = n) (h : t xs σ H Qg) : gTup K n t (.ref p) σ H Qg := ⟨p, xs, rfl, h1, h2, h⟩
theorem gcons {t : TG} {u : TGs} {Qg : L2.St → Hp → Prop} (h : t v σ H fun σ' H' => u xs σ' H' Qg) : gCons t u (v :: xs) σ H Qg := ⟨v, xs, rfl, h⟩
theorem gnil {Qg : L2.St → Hp → Prop} (h : Qg σ H) : gNil [] σ H Qg := ⟨rfl, h⟩
theorem fld {a C dx : Addr} {fs : List (Str × V)} {f : Str} {P : V → Prop} (e : H a = some (.ins C dx fs)) (c : Cls K C) (n : NoAttr K C f) (l : fs.lookup f = some v) (h : P v) :
    ∃ a' C dx fs v', V.ref a = .ref a' ∧ H a' = some (.ins C dx fs) ∧ Cls K C ∧ NoAttr K C f ∧ fs.lookup f = some v' ∧ P v' := ⟨a, C, dx, fs, v, rfl, e, c, n, l, h⟩
theorem tfld {f : Str} (h : te σ H fun x H1 => ∃ a C dx fs v, x = .ref a ∧ H1 a = some (.ins C dx fs) ∧ Cls K C ∧ NoAttr K C f ∧ fs.lookup f = some v ∧ Q v H1) : tFld K te f σ H Q := h
end Rd

/-! ### comprehensions -/
section
variable {J : It} {n : Nat} {G : Hp → Prop} {Y : Nat → Hp → V → Hp → Prop} {g : TG} {tt : TT} {te : TE} {vs : List Nat} {σ : L2.St} {H : Hp} {D : Addr} {Qd : Hp → Prop} {K : PySem.W.Frag}
/-- what a comprehension's loop asks, its new list at D -/
def LcAt (J : It) (H : Hp) (D : Addr) (g : TG) (tt : TT) (te : TE) (vs : List Nat) (σ : L2.St) (Qd : Hp → Prop) : Prop :=
  ∃ W : Nat → Nat → Hp → Prop, (∃ m, W 0 m (upd H D (.lst []))) ∧ ∀ i m H, W i m H →
      (J.stop i H ∧ Qd H) ∨ (J.go i H ∧ ∃ Nx : Hp → Prop, (∀ H', Nx H' → ∃ m', m' < m ∧ W (i + 1) m' H') ∧ ∀ x H', J.yld i H x H' → g x (wipe σ vs) H' fun σ2 H2 => wipe σ2 vs = wipe σ vs ∧ tt σ2 H2 fun b H3 =>
        if b = true then te σ2 H3 fun y H4 => ∃ acc, H4 D = some (.lst acc) ∧ acc.length < sizeLine ∧ Nx (upd H4 D (.lst (acc ++ [y]))) else Nx H3)
theorem Rd.tlc {wi : TI} {Q : VK} (h : wi σ H fun J H1 => ∀ D, H1 D = none → LcAt J H1 D g tt te vs σ fun H' => Q (.ref D) H') : tLc wi g tt te vs σ H Q := h
/-- elements that are values known ahead -/
theorem lcV (w : Walk J n G Y) (out : Nat → Option V) (hD : H D = none) (hn : n < sizeLine) (hG : ∀ H2, Same H H2 → G H2)
    (step : ∀ i x H1 H2, i < n → Same H H1 → Y i H1 x H2 → Same H1 H2 ∧ ∀ (yes : V → Hp → Prop) (no : Hp → Prop), (∀ y H3, out i = some y → Same H2 H3 → yes y H3) → (∀ H3, out i = none → Same H2 H3 → no H3) →
      g x (wipe σ vs) H2 fun σ2 H3 => wipe σ2 vs = wipe σ vs ∧ tt σ2 H3 fun b H4 => if b = true then te σ2 H4 yes else no H4)
    (hQ : ∀ H', Same H H' → H' D = some (.lst ((List.range n).filterMap out)) → Qd H') :
    LcAt J H D g tt te vs σ Qd := by
  refine lc_it w (fun i H2 => Same H H2 ∧ H2 D = some (.lst ((List.range i).filterMap out))) ⟨same_upd hD, upd_same⟩ (fun i H2 _ p => hG H2 p.1) ?_ (fun H2 p => hQ H2 p.1 p.2)
  rintro i x H1 H2 hi ⟨s1, e1⟩ y
  obtain ⟨s2, st⟩ := step i x H1 H2 hi s1 y
  have e2 := s2 _ _ e1
  have fr : ∀ {H3 : Hp} {o : HO}, Same H2 H3 → Same H (upd H3 D o) := fun {H3 o} s3 b u e => by
    rw [upd_ne (ne_of_none e hD)]
    exact s3 b u (s2 b u (s1 b u e))
  refine st _ _ (fun z H3 ez s3 => ⟨_, s3 _ _ e2, ?_, fr s3, ?_⟩) (fun H3 ez s3 => ⟨(s1.trans s2).trans s3, ?_⟩)
  · refine Nat.lt_of_le_of_lt (List.length_filterMap_le _ _) ?_
    rw [List.length_range]; omega
  · rw [upd_same, List.range_succ, List.filterMap_append]
    simp [ez]
  · rw [s3 _ _ e2, List.range_succ, List.filterMap_append]
    simp [ez]
/-- elements that are data -/
theorem lcD (w : Walk J n G Y) (out : Nat → Option PyData) (hD : H D = none) (hn : n < sizeLine) (hG : ∀ H2, Same H H2 → G H2)
    (step : ∀ i x H1 H2, i < n → Same H H1 → D ∉ ([] : List Addr) → Y i H1 x H2 → Same H1 H2 ∧ ∀ (yes : V → Hp → Prop) (no : Hp → Prop), (∀ y d H3, out i = some d → Same H2 H3 → Dp K (hid [D] H3) y d → yes y H3) → (∀ H3, out i = none → Same H2 H3 → no H3) → OkS [D] H2 →
      g x (wipe σ vs) H2 fun σ2 H3 => wipe σ2 vs = wipe σ vs ∧ tt σ2 H3 fun b H4 => if b = true then te σ2 H4 yes else no H4)
    (hQ : ∀ H' ys, Same H H' → H' D = some (.lst ys) → DpAll K (hid [D] H') ys ((List.range n).filterMap out) → Qd H') :
    LcAt J H D g tt te vs σ Qd := by
  refine lc_it w (fun i H2 => Same H H2 ∧ ∃ ys, H2 D = some (.lst ys) ∧ DpAll K (hid [D] H2) ys ((List.range i).filterMap out)) ⟨same_upd hD, [], upd_same, .nil⟩ (fun i H2 _ p => hG H2 p.1) ?_
    (fun H2 ⟨p1, ys, p2, p3⟩ => hQ H2 ys p1 p2 p3)
  rintro i x H1 H2 hi ⟨s1, ys, e1, dy⟩ y
  obtain ⟨s2, st⟩ := step i x H1 H2 hi s1 (by simp) y
  have e2 := s2 _ _ e1
  have ok2 : OkS [D] H2 := OkS.nil.cons e2
  have fr : ∀ {H3 : Hp} {o : HO}, Same H2 H3 → Same H (upd H3 D o) := fun {H3 o} s3 b u e => by
    rw [upd_ne (ne_of_none e hD)]
    exact s3 b u (s2 b u (s1 b u e))
  have kp : ∀ {H3 : Hp}, Same H2 H3 → DpAll K (hid [D] H3) ys ((List.range i).filterMap out) := fun {H3} s3 => dpAll_mono (Same.hid (s2.trans s3)) dy
  refine st _ _ (fun z d H3 ez s3 dz => ⟨_, s3 _ _ e2, ?_, fr s3, _, upd_same, ?_⟩) (fun H3 ez s3 => ⟨(s1.trans s2).trans s3, ys, s3 _ _ e2, ?_⟩) ok2
  · have h1 := dpAll_len dy
    rw [h1]
    refine Nat.lt_of_le_of_lt (List.length_filterMap_le _ _) ?_
    rw [List.length_range]; omega
  · rw [hid_mut List.mem_cons_self, List.range_succ, List.filterMap_append]
    have q := dpAll_snoc (kp s3) dz
    simpa [ez] using q
  · have q := kp s3
    rw [List.range_succ, List.filterMap_append]
    simpa [ez] using q
end
theorem wipe_ne {σ : L2.St} : wipe σ [] = σ := rfl

/-! ### rows -/
abbrev Row := Int × Option Int
def optD : Option Int → PyData
  | none => .none
  | some q => .int q
def optV : Option Int → V
  | none => .non
  | some q => .int q
def rowD (r : Row) : PyData := .tuple [.int r.1, optD r.2]
def keysOf (rows : List Row) : List Int := rows.map Prod.fst
def bigK : Int := 10 ^ 30
def keyD : PyData → Bool
  | .int k => decide (-bigK < k) && decide (k < bigK)
  | _ => false
def hasK (rows : List Row) : PyData → Bool
  | .int k => (decide (-bigK < k) && decide (k < bigK)) && decide (k ∈ keysOf rows)
  | _ => false
section
variable {K : PySem.W.Frag} {H H1 : Hp} {a t : Addr} {v : V} {rows : List Row}
def RowsAt (K : PySem.W.Frag) (H : Hp) (a : Addr) (rows : List Row) : Prop := ∃ xs, SqL K H a xs ∧ DpAll K H xs (rows.map rowD)
theorem dp_opt {o : Option Int} (h : Dp K H v (optD o)) : v = optV o := by
  cases o with
  | none => cases h; rfl
  | some q => cases h; rfl
theorem optV_dp (o : Option Int) : Dp K H (optV o) (optD o) := by
  cases o with
  | none => exact .non
  | some q => exact .int q
theorem dp_row {r : Row} (h : Dp K H v (rowD r)) : ∃ b, v = .ref b ∧ SqT K H b [.int r.1, optV r.2] := by
  obtain ⟨b, xs, rfl, hs, hd⟩ := dp_tup h
  cases hd with
  | cons h1 t1 =>
    cases t1 with
    | cons h2 t2 =>
      cases t2
      have e1 := dp_int h1
      have e2 := dp_opt h2
      subst e1 e2
      exact ⟨b, rfl, hs⟩
theorem row_dp {r : Row} {b : Addr} (h : SqT K H b [.int r.1, optV r.2]) : Dp K H (.ref b) (rowD r) := .tup h (.cons (.int _) (.cons (optV_dp _) .nil))
theorem rows_mono (e : Same H H1) (h : RowsAt K H a rows) : RowsAt K H1 a rows := let ⟨xs, h1, h2⟩ := h; ⟨xs, e.seq h1, dpAll_mono e h2⟩
theorem rows_fr1 {u : HO} (f : Fr1 t H H1) (ht : H t = some u) (n : NoSeq u) (h : RowsAt K H a rows) : RowsAt K H1 a rows := let ⟨xs, h1, h2⟩ := h; ⟨xs, sqL_fr1 f ht n h1, dpAll_fr1 f ht n h2⟩
theorem rows_dp (h : RowsAt K H a rows) : Dp K H (.ref a) (.list (rows.map rowD)) := let ⟨_, h1, h2⟩ := h; .lst h1 h2
theorem dp_rows (h : Dp K H (.ref a) (.list (rows.map rowD))) : RowsAt K H a rows := by
  cases h with
  | lst h1 h2 => exact ⟨_, h1, h2⟩
theorem rows_len (h : RowsAt K H a rows) : ∃ xs, SqL K H a xs ∧ xs.length = rows.length := by
  obtain ⟨xs, h1, h2⟩ := h
  exact ⟨xs, h1, by rw [dpAll_len h2, List.length_map]⟩
theorem rows_at {i : Nat} {r : Row} {xs : List V} (h : DpAll K H xs (rows.map rowD)) (e : rows[i]? = some r) : ∃ b, xs[i]? = some (.ref b) ∧ SqT K H b [.int r.1, optV r.2] := by
  obtain ⟨x, h1, h2⟩ := dpAll_get (i := i) (d := rowD r) h (by rw [List.getElem?_map, e]; rfl)
  obtain ⟨b, rfl, h3⟩ := dp_row h2
  exact ⟨b, h1, h3⟩
end
/-! ### lists of ints -/
theorem eqv_int (i j : Int) : PyData.eqv (.int i) (.int j) = decide (i = j) := by
  show (i == j) = _
  rw [Bool.beq_eq_decide_eq]
theorem any_ints (ks : List Int) (k : Int) : ((ks.map PyData.int).any fun z => PyData.eqv z (.int k)) = decide (k ∈ ks) := by
  induction ks with
  | nil => rfl
  | cons a r ih =>
    rw [List.map_cons, List.any_cons, ih, eqv_int, Bool.eq_iff_iff, Bool.or_eq_true, decide_eq_true_iff, decide_eq_true_iff, decide_eq_true_iff, List.mem_cons]
    exact ⟨fun z => z.imp Eq.symm id, fun z => z.imp Eq.symm id⟩
theorem any_ints_none (ks : List Int) : ((ks.map PyData.int).any fun z => PyData.eqv z .none) = false := by
  induction ks with
  | nil => rfl
  | cons a r ih =>
    rw [List.map_cons, List.any_cons, ih, Bool.or_false]
    rfl
theorem shaped_int (i : Int) : SeqAt.shaped (.int i) = true := by simp [SeqAt.shaped, PyData.canLay0, PyData.depth]
theorem shaped_none : SeqAt.shaped .none = true := by simp [SeqAt.shaped, PyData.canLay0, PyData.depth]
theorem shaped_bool (b : Bool) : SeqAt.shaped (.bool b) = true := by simp [SeqAt.shaped, PyData.canLay0, PyData.depth]
theorem shaped_str {x : Str} (h : PyData.strOk x = true) : SeqAt.shaped (.str x) = true := by simp [SeqAt.shaped, PyData.canLay0, PyData.depth, h]
/-- data whose nesting is at most n, that can be laid -/
def ShN (n : Nat) (d : PyData) : Prop := d.canLay0 = true ∧ d.depth ≤ n
theorem shN_ints (ks : List Int) : ∀ d ∈ ks.map PyData.int, ShN 0 d := fun d h => by
  obtain ⟨i, _, rfl⟩ := List.mem_map.mp h
  exact ⟨by simp [PyData.canLay0], by simp [PyData.depth]⟩
theorem all_sh {n : Nat} : ∀ {ds : List PyData}, (∀ d ∈ ds, ShN n d) → PyData.canLayAll0 ds = true ∧ PyData.depthAll ds ≤ n
  | [], _ => ⟨by simp [PyData.canLayAll0], by simp [PyData.depthAll]⟩
  | d :: ds, h => by
    obtain ⟨h1, h2⟩ := h d List.mem_cons_self
    obtain ⟨h3, h4⟩ := all_sh (ds := ds) fun z hz => h z (List.mem_cons_of_mem _ hz)
    exact ⟨by simp [PyData.canLayAll0, h1, h3], by simp only [PyData.depthAll]; omega⟩
theorem shN_list {n : Nat} {ds : List PyData} (h : ∀ d ∈ ds, ShN n d) : ShN (n + 1) (.list ds) := by
  obtain ⟨h1, h2⟩ := all_sh h
  exact ⟨by simpa [PyData.canLay0] using h1, by simp only [PyData.depth]; omega⟩
theorem shN_tuple {n : Nat} {ds : List PyData} (h : ∀ d ∈ ds, ShN n d) : ShN (n + 1) (.tuple ds) := by
  obtain ⟨h1, h2⟩ := all_sh h
  exact ⟨by simpa [PyData.canLay0] using h1, by simp only [PyData.depth]; omega⟩
theorem shN_le {n m : Nat} {d : PyData} (h : ShN n d) (q : n ≤ m) : ShN m d := ⟨h.1, Nat.le_trans h.2 q⟩
theorem shaped_of {n : Nat} {d : PyData} (h : ShN n d) (q : n ≤ 64) : SeqAt.shaped d = true := by
  show (d.canLay0 && decide (d.depth ≤ 64)) = true
  rw [h.1, Bool.true_and]
  exact decide_eq_true (Nat.le_trans h.2 q)
theorem shaped_ints (ks : List Int) : SeqAt.shaped (.list (ks.map PyData.int)) = true := shaped_of (shN_list (shN_ints ks)) (by decide)
theorem filterMap_range {α β : Type} (l : List α) (f : α → β) : (List.range l.length).filterMap (fun i => l[i]?.map f) = l.map f := by
  have e : ∀ n, n ≤ l.length → (List.range n).filterMap (fun i => l[i]?.map f) = (l.take n).map f := by
    intro n
    induction n with
    | zero => intro _; rfl
    | succ n ih =>
      intro hn
      have hlt : n < l.length := by omega
      rw [List.range_succ, List.filterMap_append, ih (by omega), List.take_add_one, List.map_append, List.getElem?_eq_getElem hlt]
      simp [hlt]
  rw [e l.length (Nat.le_refl _), List.take_length]
theorem vals_keys (rows : List Row) : rows.map (fun r => V.int r.1) = (keysOf rows).map V.int := by
  unfold keysOf
  rw [List.map_map]; rfl
theorem idxOf_le (ks : List Int) (k : Int) : ∀ m, ks[m]? = some k → ks.idxOf k ≤ m := by
  induction ks with
  | nil => intro m h; cases h
  | cons a t ih =>
    intro m h
    rw [List.idxOf_cons]
    by_cases e : a = k
    · rw [show (a == k) = true from by rw [e]; exact beq_self_eq_true k]
      exact Nat.zero_le _
    · rw [show (a == k) = false from by simpa using e]
      cases m with
      | zero => exact absurd (Option.some.inj h) e
      | succ m => exact Nat.succ_le_succ (ih m h)
/-- the place of a key -/
def idxK (rows : List Row) (k : Int) : Nat := (keysOf rows).idxOf k
theorem idxK_lt {rows : List Row} {k : Int} (h : k ∈ keysOf rows) : idxK rows k < rows.length := by
  have := List.idxOf_lt_length_of_mem h
  unfold idxK
  unfold keysOf at this ⊢
  rwa [List.length_map] at this
namespace Rd
theorem ty {K : PySem.W.Frag} {H : Hp} {p : Addr} {xs : List V} {P : Prop} (h1 : SqL K H p xs) (h : P) : tyV K "list" (.ref p) H ∧ P := ⟨tyLs h1, h⟩
theorem indexI {K : PySem.W.Frag} {H : Hp} {p : Addr} {ks : List Int} {k : Int} {Q : VK} (h1 : SqL K H p (ks.map V.int)) (hk : k ∈ ks) (h : Q (.int (ks.idxOf k : Nat)) H) : rIndexD K (.ref p) [.int k] H Q := by
  have hlt := List.idxOf_lt_length_of_mem hk
  refine ⟨p, .int k, .int k, ks.map PyData.int, ks.idxOf k, .int k, rfl, rfl, .lst h1 (dpAll_ints _), .int k, shaped_ints _, shaped_int _, ?_, ?_, ?_, h⟩
  · rw [List.getElem?_map, List.getElem?_eq_getElem hlt, List.getElem_idxOf]
    rfl
  · rw [eqv_int, decide_eq_true rfl]
  · intro m z' hm hz
    rw [List.getElem?_map] at hz
    have hml : m < ks.length := by omega
    rw [List.getElem?_eq_getElem hml] at hz
    have e : PyData.int ks[m] = z' := Option.some.inj hz
    rw [← e, eqv_int]
    refine decide_eq_false fun q => ?_
    have : ks.idxOf k ≤ m := by
      have := idxOf_le ks k m (by rw [List.getElem?_eq_getElem hml, q])
      exact this
    omega
end Rd
theorem dpAll_take {K : PySem.W.Frag} {H : Hp} : ∀ {vs : List V} {ds : List PyData} (n : Nat), DpAll K H vs ds → DpAll K H (vs.take n) (ds.take n)
  | _, _, 0, _ => by rw [List.take_zero, List.take_zero]; exact .nil
  | _, _, _ + 1, .nil => .nil
  | _, _, n + 1, .cons h t => .cons h (dpAll_take n t)
theorem dpAll_drop {K : PySem.W.Frag} {H : Hp} : ∀ {vs : List V} {ds : List PyData} (n : Nat), DpAll K H vs ds → DpAll K H (vs.drop n) (ds.drop n)
  | _, _, 0, h => by rw [List.drop_zero, List.drop_zero]; exact h
  | _, _, _ + 1, .nil => .nil
  | _, _, n + 1, .cons _ t => dpAll_drop n t
theorem cut_to {xs : List V} {n : Nat} : cutV xs none (some (n : Int)) = xs.take n := by
  unfold cutV
  rw [HT.sIx_none, HT.sIx_nat, List.drop_zero, Nat.sub_zero]
  by_cases h : n ≤ xs.length
  · rw [Nat.min_eq_left h]
  · rw [Nat.min_eq_right (by omega), List.take_length, List.take_of_length_le (by omega)]
theorem cut_from {xs : List V} {n : Nat} (h : n ≤ xs.length) : cutV xs (some (n : Int)) none = xs.drop n := by
  unfold cutV
  rw [HT.sIx_none, HT.sIx_nat, Nat.min_eq_left h]
  exact List.take_of_length_le (by rw [List.length_drop]; omega)
theorem cut_mid {xs : List V} {a b : Nat} (h : a ≤ b) (hb : b ≤ xs.length) : cutV xs (some (a : Int)) (some (b : Int)) = (xs.drop a).take (b - a) := by
  unfold cutV
  rw [HT.sIx_nat, HT.sIx_nat, Nat.min_eq_left hb, Nat.min_eq_left (by omega)]
theorem same_get {H H1 : Hp} {a : Addr} {o : HO} (s : Same H H1) (h : H a = some o) : H1 a = some o := s _ _ h
theorem dp_non {K : PySem.W.Frag} {H : Hp} {v : V} {d : PyData} (h : Dp K H v d) : v = .non ↔ d = .none := by
  cases h <;> (refine ⟨fun z => ?_, fun z => ?_⟩ <;> first | rfl | cases z)
namespace Rd
variable {K : PySem.W.Frag} {H H1 : Hp} {Q : VK} {σ : L2.St} {p l b a C dx : Addr} {xs zs : List V} {D : Ends}
theorem cat (h1 : H l = some (.lst xs)) (h2 : H b = some (.lst zs)) (hz : xs.length + zs.length ≤ sizeLine) (h : ∀ p H1, H p = none → Same H H1 → H1 p = some (.lst (xs ++ zs)) → Q (.ref p) H1) : rCat (.ref l) (.ref b) H Q :=
  ⟨l, b, xs, zs, rfl, rfl, h1, h2, hz, fun p n => h p _ n (same_upd n) upd_same⟩
theorem sfld {ta tv : TE} {f : Str} (h : tv σ H fun y H1 => ta σ H1 fun x H2 => ∃ a C dx fs, x = .ref a ∧ H2 a = some (.ins C dx fs) ∧ Cls K C ∧ NoAttr K C f ∧ fs.length < 1000 ∧ D.nx σ (upd H2 a (.ins C dx (putF f y fs)))) : sFld K ta tv f D σ H := h
theorem sput {f : Str} {fs fs' : List (Str × V)} {y : V} {P : Hp → Prop} (e : H a = some (.ins C dx fs)) (c : Cls K C) (n : NoAttr K C f) (hl : fs.length < 1000) (hp : putF f y fs = fs') (h : ∀ H1, Fr1 a H H1 → H1 a = some (.ins C dx fs') → P H1) :
    ∃ a' C dx fs, V.ref a = .ref a' ∧ H a' = some (.ins C dx fs) ∧ Cls K C ∧ NoAttr K C f ∧ fs.length < 1000 ∧ P (upd H a' (.ins C dx (putF f y fs))) :=
  ⟨a, C, dx, fs, rfl, e, c, n, hl, by rw [hp]; exact h _ fr1_upd upd_same⟩
theorem meth {m : Str} {sp : Sp} {dvs : List V} {E : XK} {ta : TE} {t : TA} (h : ta σ H fun x H1 => ∃ a dx fs, x = .ref a ∧ H1 a = some (.ins C dx fs) ∧ fs.lookup m = none ∧ t σ H1 fun vs H2 => sp (x :: (vs ++ dvs)) H2 Q E) : tMeth C m sp dvs E ta t σ H Q := h
theorem methAt {m : Str} {fs : List (Str × V)} {P : Prop} (e : H a = some (.ins C dx fs)) (l : fs.lookup m = none) (h : P) : ∃ a' dx fs, V.ref a = .ref a' ∧ H a' = some (.ins C dx fs) ∧ fs.lookup m = none ∧ P := ⟨a, dx, fs, rfl, e, l, h⟩
theorem make {sp : Sp} {dvs : List V} {E : XK} {t : TA} (h : t σ H fun vs H1 => ∀ x dx, H1 x = none → H1 dx = none → dx ≠ x → sp (.ref x :: (vs ++ dvs)) (upd (upd H1 dx (.own x)) x (.ins C dx [])) (fun v H2 => v = .non ∧ Q (.ref x) H2) E) : tMake C sp dvs E t σ H Q := h
theorem propAt {fs : List (Str × V)} {P : Addr → Prop} (e : H a = some (.ins C dx fs)) (h : P a) : ∃ a' dx fs, V.ref a = .ref a' ∧ H a' = some (.ins C dx fs) ∧ P a' := ⟨a, dx, fs, rfl, e, h⟩
theorem tup1 {P : Prop} (h : P) : P := h
end Rd
/-- the type's name of data -/
def tyD : PyData → String
  | .none => "NoneType"
  | .bool _ => "bool"
  | .int _ => "int"
  | .str _ => "str"
  | .list _ => "list"
  | .tuple _ => "tuple"
  | .dict _ => "dict"
theorem ty_dp {K : PySem.W.Frag} {H : Hp} {v : V} {d : PyData} (h : Dp K H v d) : TyX K H v (.type (tyD d)) := by
  cases h with
  | non => exact .base .non
  | bl b => exact .base (.bl b)
  | int i => exact .base (.int i)
  | str x => exact .base (.str x)
  | lst hs _ =>
    rcases hs with (h | ⟨o, h⟩) | ⟨o, its, n, h, hc, _⟩
    · exact .base (.lst h)
    · exact .base (.frz h)
    · exact .kList h hc
  | tup hs _ =>
    rcases hs with (h | ⟨o, h⟩) | ⟨o, its, n, h, hc, _⟩
    · exact .base (.tup h)
    · exact .fTuple h
    · exact .kTuple h hc
def isIntD : PyData → Bool
  | .int _ => true
  | .bool _ => true
  | _ => false
def isBoolD : PyData → Bool
  | .bool _ => true
  | _ => false
theorem kit_int {K : PySem.W.Frag} {d : PyData} (h : ∀ l, d ≠ .dict l) : PySem.W.kitOne K (.type (tyD d)) (.type "int") = some (isIntD d) := by
  cases d with
  | none => exact kit_ty (a := "NoneType") (b := "int") (r := false) (by decide +kernel)
  | bool _ => exact kit_ty (a := "bool") (b := "int") (r := true) (by decide +kernel)
  | int _ => exact kit_ty (a := "int") (b := "int") (r := true) (by decide +kernel)
  | str _ => exact kit_ty (a := "str") (b := "int") (r := false) (by decide +kernel)
  | list _ => exact kit_ty (a := "list") (b := "int") (r := false) (by decide +kernel)
  | tuple _ => exact kit_ty (a := "tuple") (b := "int") (r := false) (by decide +kernel)
  | dict l => exact absurd rfl (h l)
theorem kit_bool {K : PySem.W.Frag} {d : PyData} (h : ∀ l, d ≠ .dict l) : PySem.W.kitOne K (.type (tyD d)) (.type "bool") = some (isBoolD d) := by
  cases d with
  | none => exact kit_ty (a := "NoneType") (b := "bool") (r := false) (by decide +kernel)
  | bool _ => exact kit_ty (a := "bool") (b := "bool") (r := true) (by decide +kernel)
  | int _ => exact kit_ty (a := "int") (b := "bool") (r := false) (by decide +kernel)
  | str _ => exact kit_ty (a := "str") (b := "bool") (r := false) (by decide +kernel)
  | list _ => exact kit_ty (a := "list") (b := "bool") (r := false) (by decide +kernel)
  | tuple _ => exact kit_ty (a := "tuple") (b := "bool") (r := false) (by decide +kernel)
  | dict l => exact absurd rfl (h l)
theorem dp_nodict {K : PySem.W.Frag} {H : Hp} {v : V} {d : PyData} (h : Dp K H v d) : ∀ l, d ≠ .dict l := fun l e => by subst e; cases h
namespace Rd
theorem isi {K : PySem.W.Frag} {H : Hp} {v : V} {d : PyData} {n : String} {b : Bool} {Q : VK} (h : Dp K H v d) (k : PySem.W.kitOne K (.type (tyD d)) (.type n) = some b) (q : Q (.bl b) H) : rIsi K [v, .ty n] H Q :=
  ⟨v, .ty n, _, _, b, rfl, .ty n, ty_dp h, k, q⟩
end Rd

/-! ### the layer's rules, the written part a letter (in a comprehension's block it must not be the block's) -/
/-- a statement behind which a fact is kept -/
def tSeqM (s1 s2 : TS) : TS := fun D σ H => s1 { D with nx := s2 D } σ H
theorem pss_consM {X : Cx} {s : Stmt} {r : List Stmt} {t u : TS} (h : PS X s t) (k : PSs X r u) : PSs X (s :: r) (tSeqM t u) := pss_cons h k
theorem Rd.seqT {s1 s2 : TS} {D : Ends} {σ : L2.St} {H : Hp} (h : ∀ S2 : TS, S2 = s2 → s1 { D with nx := S2 D } σ H) : tSeq s1 s2 D σ H := h s2 rfl
theorem Rd.seqM {s1 s2 : TS} {D : Ends} {σ : L2.St} {H : Hp} (P : L2.St → Hp → Prop) (h1 : ∀ nx : L2.St → Hp → Prop, (∀ σ H, P σ H → nx σ H) → s1 { D with nx := nx } σ H) (h2 : ∀ σ H, P σ H → s2 D σ H) : tSeqM s1 s2 D σ H := h1 _ h2
namespace Kx
variable {X : Cx} {K : PySem.W.Frag} {a b e : Expr} {es : List Expr} {ta tb te : TE} {t : TA} {pos p : Pos} {tg : Expr}
theorem ix_seq (h : X.K = K) : IxR X (rIx K) := by subst h; exact L2.ix_seq
theorem ix_list (h : X.K = K) : IxR X (rIxL K) := by subst h; exact L2.ix_list
theorem ix_tup (h : X.K = K) : IxR X (rIxT K) := by subst h; exact L2.ix_tup
theorem op_eqD (h : X.K = K) (hu : X.A.units + 65 < cLine) : OpR X (compareOp .Eq) (rEqD K) := by subst h; exact L2.op_eqD (by omega)
theorem op_neD (h : X.K = K) (hu : X.A.units + 65 < cLine) : OpR X (compareOp .NotEq) (rNeD K) := by subst h; exact L2.op_neD (by omega)
theorem op_inD (h : X.K = K) (hu : X.A.units + 65 < cLine) : OpR X (compareOp .In) (rInD K) := by subst h; exact L2.op_inD hu
theorem op_notInD (h : X.K = K) (hu : X.A.units + 65 < cLine) : OpR X (compareOp .NotIn) (rNotInD K) := by subst h; exact L2.op_notInD hu
theorem call_isi (h : X.K = K) : CallR X (.builtin "isinstance") (rIsi K) := by subst h; exact L2.call_isi
theorem call_len (h : X.K = K) : CallR X (.builtin "len") (fun xs H Q => ∃ x n, xs = [x] ∧ LenV K x H n ∧ Q (.int n) H) := by subst h; exact L2.call_len
theorem call_list_of (h : X.K = K) : CallR X (.type "list") (fun xs H Q => ∃ p ys, xs = [.ref p] ∧ (SqL K H p ys ∨ SqT K H p ys) ∧ ∀ l, H l = none → Q (.ref l) (upd H l (.lst ys))) := by subst h; exact L2.call_list_of
theorem call_tuple_of (h : X.K = K) : CallR X (.type "tuple") (fun xs H Q => ∃ p ys, xs = [.ref p] ∧ ((SqL K H p ys ∧ ∀ l, H l = none → Q (.ref l) (upd H l (.tup ys))) ∨ (SqT K H p ys ∧ Q (.ref p) H))) := by subst h; exact L2.call_tuple_of
theorem sl_list (h : X.K = K) : SlR X (rSlL K) := by subst h; exact L2.sl_list
theorem mt_indexD (h : X.K = K) (hu : X.A.units + 65 < cLine) : MtR X "list.index" (rIndexD K) := by subst h; exact L2.mt_indexD hu
theorem pi_list (h : X.K = K) (ha : PE X a ta) : PI X tg a (iList K ta) := by subst h; exact L2.pi_list ha
theorem pi_tup (h : X.K = K) (ha : PE X a ta) : PI X tg a (iTup K ta) := by subst h; exact L2.pi_tup ha
theorem pg_tup {es : List Expr} {k : Nat} {t : TGs} {n : Nat} (h : X.K = K) (hc : X.calm = true) (ht : PGs X es t) (hn : (assignEach es X.env).length = n := by rfl) (hst : (assignEach es X.env).findIdx? (·.1) = none := by rfl) : PG X (.Tuple es k pos) (gTup K n t) := by
  subst h; exact L2.pg_tup hc ht hn hst
theorem pe_fld {f : Str} (h : X.K = K) (he : PE X e ta) (hb : attributeBase e f X.env (eval e X.env) = eval e X.env) : PE X (.Attribute e f pos) (tFld K ta f) := by subst h; exact L2.pe_fld he hb
theorem ps_fld {o value : Expr} {f : Str} {pos' : Pos} {tv : TE} (h : X.K = K) (ha : PE X o ta) (hv : PE X value tv) (hs : swapsWith value (some (.Attribute o f pos')) pos.line X.env = pure false) : PS X (.Assign [.Attribute o f pos'] value pos) (sFld K ta tv f) := by
  subst h; exact L2.ps_fld ha hv hs
theorem pe_revL {k : Nat} {p1 p2 p3 : Pos} (h : X.K = K) (he : PE X e te) : PE X (.Subscript e (.Slice none none (some (.UnaryOp .USub (.Constant (.int 1) k p1) p2)) p3) pos) (tRevL K te) := by subst h; exact L2.pe_revL he
end Kx
end PR
end

section
/-! trees as lists of rows: paths up, spans, moves (no program in sight) -/
namespace PR
theorem nodup_len {α : Type} [BEq α] [LawfulBEq α] : ∀ {xs ys : List α}, xs.Nodup → (∀ x, x ∈ xs → x ∈ ys) → xs.length ≤ ys.length
  | [], _, _, _ => Nat.zero_le _
  | x :: xs, ys, nd, h => by
    obtain ⟨n1, n2⟩ := List.nodup_cons.mp nd
    have hx := h x List.mem_cons_self
    have := nodup_len (xs := xs) (ys := ys.erase x) n2 fun y hy => by
      refine (List.mem_erase_of_ne (fun e => n1 (by rw [← e]; exact hy))).mpr (h y (List.mem_cons_of_mem _ hy))
    rw [List.length_erase_of_mem hx] at this
    have := List.length_pos_of_mem hx
    rw [List.length_cons]
    omega
inductive Up (rows : List Row) : Int → List Int → Prop
  | root {k : Int} : (k, none) ∈ rows → Up rows k [k]
  | step {k q : Int} {ps : List Int} : (k, some q) ∈ rows → Up rows q ps → Up rows k (k :: ps)
/-- a tree: unlike keys, each with a way up to a root -/
structure Tr (rows : List Row) : Prop where
  nd : (keysOf rows).Nodup
  up : ∀ k, k ∈ keysOf rows → ∃ ps, Up rows k ps
theorem key_of {rows : List Row} {r : Row} (h : r ∈ rows) : r.1 ∈ keysOf rows := List.mem_map.mpr ⟨r, h, rfl⟩
theorem nd_row : ∀ {rows : List Row}, (keysOf rows).Nodup → ∀ {k : Int} {a b : Option Int}, (k, a) ∈ rows → (k, b) ∈ rows → a = b
  | [], _, _, _, _, h, _ => by cases h
  | r :: rows, nd, k, a, b, h1, h2 => by
    have nd' : (r.1 :: keysOf rows).Nodup := nd
    obtain ⟨n1, n2⟩ := List.nodup_cons.mp nd'
    rcases List.mem_cons.mp h1 with e1 | m1
    · rcases List.mem_cons.mp h2 with e2 | m2
      · rw [← e2] at e1
        exact congrArg Prod.snd e1
      · exact absurd (by rw [← e1]; exact (show k ∈ keysOf rows from key_of m2)) n1
    · rcases List.mem_cons.mp h2 with e2 | m2
      · exact absurd (by rw [← e2]; exact (show k ∈ keysOf rows from key_of m1)) n1
      · exact nd_row n2 m1 m2
section
variable {rows : List Row} {k : Int} {ps qs : List Int}
theorem Up.key (h : Up rows k ps) : k ∈ keysOf rows := by
  cases h with
  | root h => exact key_of h
  | step h _ => exact key_of h
theorem Up.ne (h : Up rows k ps) : ps ≠ [] := by cases h <;> simp
theorem Up.head (h : Up rows k ps) : ∃ t, ps = k :: t := by cases h <;> exact ⟨_, rfl⟩
theorem Up.sub (h : Up rows k ps) : ∀ j, j ∈ ps → j ∈ keysOf rows := by
  induction h with
  | root h => intro j hj; rw [List.mem_singleton.mp hj]; exact key_of h
  | step h _ ih =>
    intro j hj
    rcases List.mem_cons.mp hj with e | m
    · rw [e]; exact key_of h
    · exact ih j m
theorem Up.uniq (nd : (keysOf rows).Nodup) (h : Up rows k ps) : ∀ {qs}, Up rows k qs → ps = qs := by
  induction h with
  | root h =>
    intro qs g
    cases g with
    | root _ => rfl
    | step g _ => cases nd_row nd h g
  | step h _ ih =>
    intro qs g
    cases g with
    | root g => cases nd_row nd h g
    | step g u =>
      cases nd_row nd h g
      rw [ih u]
/-- from each key on a way up, the rest is its way up -/
theorem Up.tail {j : Int} (h : Up rows k ps) : j ∈ ps → ∃ a b, ps = a ++ j :: b ∧ Up rows j (j :: b) ∧ j ∉ a := by
  induction h with
  | @root k h =>
    intro hj
    cases List.mem_singleton.mp hj
    exact ⟨[], [], rfl, .root h, by simp⟩
  | @step k q ps h u ih =>
    intro hj
    by_cases e : j = k
    · subst e
      exact ⟨[], ps, rfl, .step h u, by simp⟩
    · rcases List.mem_cons.mp hj with e' | m
      · exact absurd e' e
      · obtain ⟨a, b, e1, u1, n1⟩ := ih m
        refine ⟨k :: a, b, by rw [e1]; rfl, u1, fun z => ?_⟩
        rcases List.mem_cons.mp z with z | z
        · exact e z
        · exact n1 z
theorem Up.nodup (nd : (keysOf rows).Nodup) (h : Up rows k ps) : ps.Nodup := by
  induction h with
  | root h => exact List.nodup_cons.mpr ⟨by simp, List.nodup_nil⟩
  | @step k q ps h u ih =>
    refine List.nodup_cons.mpr ⟨fun hk => ?_, ih⟩
    obtain ⟨a, b, e1, u1, _⟩ := u.tail hk
    have := Up.uniq nd (.step h u) u1
    have e2 : ps = b := by injection this
    rw [e2] at e1
    have := congrArg List.length e1
    simp at this
    omega
theorem Up.len (nd : (keysOf rows).Nodup) (h : Up rows k ps) : ps.length ≤ rows.length := by
  have : ps.length ≤ (keysOf rows).length := by
    exact nodup_len (h.nodup nd) h.sub
  rwa [keysOf, List.length_map] at this
end
theorem Tr.len_path {rows : List Row} {k : Int} {ps : List Int} (t : Tr rows) (h : Up rows k ps) : ps.length ≤ rows.length := h.len t.nd
/-- the keys whose way up goes by k -/
def Desc (rows : List Row) (k j : Int) : Prop := ∃ ps, Up rows j ps ∧ k ∈ ps
/-! spans -/
def spanL : List Row → List Int → Nat
  | [], _ => 0
  | r :: rest, ins => match r.2 with
    | none => 0
    | some q => if q ∈ ins then 1 + spanL rest (ins ++ [r.1]) else 0
theorem spanL_le : ∀ (rest : List Row) (ins : List Int), spanL rest ins ≤ rest.length
  | [], _ => Nat.le_refl _
  | (a, none) :: rest, ins => Nat.zero_le _
  | (a, some q) :: rest, ins => by
    show (if q ∈ ins then 1 + spanL rest (ins ++ [a]) else 0) ≤ _
    split
    · have := spanL_le rest (ins ++ [a])
      rw [List.length_cons]; omega
    · exact Nat.zero_le _
theorem span_desc {rows : List Row} {k : Int} : ∀ (rest : List Row) (ins : List Int), (∀ r, r ∈ rest → r ∈ rows) → (∀ j, j ∈ ins → Desc rows k j) → ∀ r, r ∈ rest.take (spanL rest ins) → Desc rows k r.1
  | [], _, _, _, r, h => by simp at h
  | (a, none) :: rest, ins, _, _, r, h => by
    have : r ∈ List.take 0 ((a, none) :: rest) := h
    simp at this
  | (a, some q) :: rest, ins, hs, hi, r, h => by
    have h' : r ∈ List.take (if q ∈ ins then 1 + spanL rest (ins ++ [a]) else 0) ((a, some q) :: rest) := h
    by_cases c : q ∈ ins
    · rw [if_pos c, Nat.add_comm, List.take_succ_cons] at h'
      obtain ⟨ps, u, hk⟩ := hi q c
      have da : Desc rows k a := ⟨a :: ps, .step (hs _ List.mem_cons_self) u, List.mem_cons_of_mem _ hk⟩
      rcases List.mem_cons.mp h' with e | m
      · rw [e]; exact da
      · refine span_desc rest (ins ++ [a]) (fun r hr => hs r (List.mem_cons_of_mem _ hr)) (fun j hj => ?_) r m
        rcases List.mem_append.mp hj with z | z
        · exact hi j z
        · rw [List.mem_singleton.mp z]; exact da
    · rw [if_neg c] at h'
      simp at h'
def keyAt (rows : List Row) (p : Nat) : Int := ((keysOf rows)[p]?).getD 0
def endF (rows : List Row) (p : Nat) : Nat := p + 1 + spanL (rows.drop (p + 1)) [keyAt rows p]
theorem endF_le {rows : List Row} {p : Nat} (h : p < rows.length) : endF rows p ≤ rows.length := by
  have := spanL_le (rows.drop (p + 1)) [keyAt rows p]
  rw [List.length_drop] at this
  unfold endF
  omega
theorem endF_gt {rows : List Row} {p : Nat} : p + 1 ≤ endF rows p := by unfold endF; omega
theorem idxK_get {rows : List Row} {k : Int} (h : k ∈ keysOf rows) : ∃ o, rows[idxK rows k]? = some (k, o) := by
  have hlt := idxK_lt h
  have h2 := List.idxOf_lt_length_of_mem h
  have e : (keysOf rows)[(keysOf rows).idxOf k]'h2 = k := List.getElem_idxOf h2
  refine ⟨(rows[idxK rows k]'hlt).2, ?_⟩
  rw [List.getElem?_eq_getElem hlt]
  refine congrArg some (Prod.ext ?_ rfl)
  have e2 : (keysOf rows)[(keysOf rows).idxOf k]'h2 = (rows[idxK rows k]'hlt).1 := List.getElem_map _
  exact e2.symm.trans e
theorem keyAt_idx {rows : List Row} {k : Int} (h : k ∈ keysOf rows) : keyAt rows (idxK rows k) = k := by
  unfold keyAt idxK
  rw [List.getElem?_eq_getElem (List.idxOf_lt_length_of_mem h), List.getElem_idxOf]
  rfl
def landF (rows : List Row) : Option Int → Nat
  | none => rows.length
  | some q => endF rows (idxK rows q)
theorem landF_le {rows : List Row} {o : Option Int} (h : ∀ q, o = some q → q ∈ keysOf rows) : landF rows o ≤ rows.length := by
  cases o with
  | none => exact Nat.le_refl _
  | some q => exact endF_le (idxK_lt (h q rfl))
def putR (rows : List Row) (k : Int) (o : Option Int) : List Row := rows.take (landF rows o) ++ (k, o) :: rows.drop (landF rows o)
def othersF (rows : List Row) (k : Int) : List Row := rows.take (idxK rows k) ++ rows.drop (endF rows (idxK rows k))
def blockF (rows : List Row) (k : Int) (o : Option Int) : List Row := (k, o) :: (rows.drop (idxK rows k + 1)).take (endF rows (idxK rows k) - (idxK rows k + 1))
def moveF (rows : List Row) (k : Int) (o : Option Int) : List Row := (othersF rows k).take (landF (othersF rows k) o) ++ blockF rows k o ++ (othersF rows k).drop (landF (othersF rows k) o)
theorem putR_perm (rows : List Row) (k : Int) (o : Option Int) : (putR rows k o).Perm ((k, o) :: rows) := by
  unfold putR
  refine List.perm_middle.trans ?_
  rw [List.take_append_drop]
theorem split3 {rows : List Row} {k : Int} (h : k ∈ keysOf rows) : ∃ o, rows = rows.take (idxK rows k) ++ (k, o) :: ((rows.drop (idxK rows k + 1)).take (endF rows (idxK rows k) - (idxK rows k + 1)) ++ rows.drop (endF rows (idxK rows k))) := by
  obtain ⟨o, e⟩ := idxK_get h
  have hlt := idxK_lt h
  have e2 : rows.drop (idxK rows k) = (k, o) :: rows.drop (idxK rows k + 1) := by
    rw [List.drop_eq_getElem_cons hlt]
    rw [List.getElem?_eq_getElem hlt] at e
    rw [Option.some.inj e]
  have e3 : rows.drop (endF rows (idxK rows k)) = (rows.drop (idxK rows k + 1)).drop (endF rows (idxK rows k) - (idxK rows k + 1)) := by
    rw [List.drop_drop]
    congr 1
    have := endF_gt (rows := rows) (p := idxK rows k)
    omega
  refine ⟨o, ?_⟩
  rw [e3, List.take_append_drop, ← e2, List.take_append_drop]
/-- a row of the key k, elsewhere: what a move makes -/
structure Moved (rows : List Row) (k : Int) (o : Option Int) (rows' : List Row) : Prop where
  own : (k, o) ∈ rows'
  old : ∀ r, r ∈ rows → r.1 ≠ k → r ∈ rows'
  keys : (keysOf rows').Perm (keysOf rows)
theorem moveF_moved {rows : List Row} {k : Int} (h : k ∈ keysOf rows) (o : Option Int) : Moved rows k o (moveF rows k o) := by
  obtain ⟨o0, e⟩ := split3 h
  have pm : (moveF rows k o).Perm (blockF rows k o ++ othersF rows k) := by
    unfold moveF
    rw [List.append_assoc]
    refine (List.perm_append_comm_assoc _ _ _).trans ?_
    rw [List.take_append_drop]
  generalize hX : (rows.drop (idxK rows k + 1)).take (endF rows (idxK rows k) - (idxK rows k + 1)) = X at e
  have hB : blockF rows k o = (k, o) :: X := by rw [← hX]; rfl
  have hO : othersF rows k = rows.take (idxK rows k) ++ rows.drop (endF rows (idxK rows k)) := rfl
  have pm2 : rows.Perm ((k, o0) :: (X ++ othersF rows k)) := by
    rw [hO]
    conv => lhs; rw [e]
    refine List.perm_middle.trans (List.Perm.cons _ ?_)
    exact List.perm_append_comm_assoc _ _ _
  rw [hB] at pm
  have pm' : (moveF rows k o).Perm ((k, o) :: (X ++ othersF rows k)) := pm
  refine ⟨pm'.mem_iff.mpr List.mem_cons_self, fun r hr hn => ?_, ?_⟩
  · rcases List.mem_cons.mp (pm2.mem_iff.mp hr) with q | q
    · exact absurd (by rw [q]) hn
    · exact pm'.mem_iff.mpr (List.mem_cons_of_mem _ q)
  · have a := pm'.map Prod.fst
    have b := pm2.map Prod.fst
    exact a.trans b.symm
theorem Moved.row {rows rows' : List Row} {k : Int} {o : Option Int} (h : Moved rows k o rows') {r : Row} (hr : r ∈ rows') (nd : (keysOf rows).Nodup) : r = (k, o) ∨ (r.1 ≠ k ∧ r ∈ rows) := by
  have nd' : (keysOf rows').Nodup := h.keys.nodup_iff.mpr nd
  obtain ⟨a, b⟩ := r
  by_cases e : a = k
  · subst e
    exact .inl (by rw [nd_row nd' hr h.own])
  · refine .inr ⟨e, ?_⟩
    have : a ∈ keysOf rows := h.keys.mem_iff.mp (key_of hr)
    obtain ⟨⟨a', b'⟩, hm, ea⟩ := List.mem_map.mp this
    have ea' : a' = a := ea
    subst ea'
    rw [nd_row nd' hr (h.old _ hm e)]
    exact hm
/-- a way up that does not meet the moved key stays -/
theorem Moved.keep {rows rows' : List Row} {k : Int} {o : Option Int} (h : Moved rows k o rows') {j : Int} {ps : List Int} (u : Up rows j ps) : k ∉ ps → Up rows' j ps := by
  induction u with
  | root hr => intro n; exact .root (h.old _ hr fun e => n (by rw [← e]; exact List.mem_cons_self))
  | step hr _ ih => intro n; exact .step (h.old _ hr fun e => n (by rw [← e]; exact List.mem_cons_self)) (ih fun z => n (List.mem_cons_of_mem _ z))
/-- from below the moved key: up to it as before, then its new way -/
theorem Moved.below {rows rows' : List Row} {k : Int} {o : Option Int} (h : Moved rows k o rows') {j : Int} {ps a b c : List Int} (u : Up rows j ps) (hc : Up rows' k (k :: c)) : ps = a ++ k :: b → k ∉ a → Up rows' j (a ++ k :: c) := by
  intro e n
  induction u generalizing a with
  | @root j hr =>
    cases a with
    | nil =>
      have : j = k := by injection e
      rw [this]; exact hc
    | cons x a =>
      have : ([] : List Int) = a ++ k :: b := by injection e
      cases a <;> cases this
  | @step j q ps hr u ih =>
    cases a with
    | nil =>
      have : j = k := by injection e
      rw [this]; exact hc
    | cons x a =>
      have e1 : j = x := by injection e
      have e2 : ps = a ++ k :: b := by injection e
      subst e1
      exact .step (h.old _ hr fun z => n (by rw [← z]; exact List.mem_cons_self)) (ih e2 fun z => n (List.mem_cons_of_mem _ z))
theorem Moved.tr {rows rows' : List Row} {k : Int} {o : Option Int} (h : Moved rows k o rows') (t : Tr rows) (hk : ∃ c, Up rows' k (k :: c)) : Tr rows' := by
  refine ⟨h.keys.nodup_iff.mpr t.nd, fun j hj => ?_⟩
  obtain ⟨ps, u⟩ := t.up j (h.keys.mem_iff.mp hj)
  by_cases c : k ∈ ps
  · obtain ⟨a, b, e, _, n⟩ := u.tail c
    obtain ⟨c', hc⟩ := hk
    exact ⟨_, h.below u hc e n⟩
  · exact ⟨ps, h.keep u c⟩
/-- a move that is let makes a tree -/
theorem Moved.let_none {rows rows' : List Row} {k : Int} (h : Moved rows k none rows') (t : Tr rows) : Up rows' k [k] ∧ Tr rows' := ⟨.root h.own, h.tr t ⟨[], .root h.own⟩⟩
theorem Moved.let_some {rows rows' : List Row} {k q : Int} {ps : List Int} (h : Moved rows k (some q) rows') (t : Tr rows) (u : Up rows q ps) (n : k ∉ ps) : Up rows' k (k :: ps) ∧ Tr rows' :=
  ⟨.step h.own (h.keep u n), h.tr t ⟨ps, .step h.own (h.keep u n)⟩⟩
/-- a key that is not below k is in no block of k -/
theorem others_key {rows : List Row} {k q : Int} {ps : List Int} (t : Tr rows) (hk : k ∈ keysOf rows) (u : Up rows q ps) (n : k ∉ ps) : q ∈ keysOf (othersF rows k) := by
  obtain ⟨o, e⟩ := split3 hk
  have hq := u.key
  obtain ⟨⟨q', o'⟩, hm, eq⟩ := List.mem_map.mp hq
  have eq' : q' = q := eq
  subst eq'
  rw [e] at hm
  unfold othersF keysOf
  rw [List.map_append]
  rcases List.mem_append.mp hm with z | z
  · exact List.mem_append_left _ (List.mem_map.mpr ⟨_, z, rfl⟩)
  rcases List.mem_cons.mp z with z | z
  · refine absurd ?_ n
    have : q' = k := by injection z
    rw [← this]
    obtain ⟨t', e'⟩ := u.head
    rw [e']; exact List.mem_cons_self
  rcases List.mem_append.mp z with z | z
  · refine absurd ?_ n
    have hpos : 0 < endF rows (idxK rows k) - (idxK rows k + 1) ∨ True := .inr trivial
    have hs : endF rows (idxK rows k) - (idxK rows k + 1) = spanL (rows.drop (idxK rows k + 1)) [k] := by
      unfold endF
      rw [keyAt_idx hk]
      omega
    rw [hs] at z
    obtain ⟨pk, uk⟩ := t.up k hk
    obtain ⟨tk, ek⟩ := uk.head
    have hd := span_desc (rows := rows) (k := k) (rows.drop (idxK rows k + 1)) [k] (fun r hr => List.mem_of_mem_drop hr) (fun j hj => by
      rw [List.mem_singleton.mp hj]
      exact ⟨pk, uk, by rw [ek]; exact List.mem_cons_self⟩) _ z
    obtain ⟨ps', u', hk'⟩ := hd
    rw [u.uniq t.nd u']
    exact hk'
  · exact List.mem_append_right _ (List.mem_map.mpr ⟨_, z, rfl⟩)
theorem putR_tr {rows : List Row} {k : Int} {o : Option Int} (t : Tr rows) (hk : k ∉ keysOf rows) (ho : ∀ q, o = some q → q ∈ keysOf rows) : Tr (putR rows k o) := by
  have pm := putR_perm rows k o
  have pk : (keysOf (putR rows k o)).Perm (k :: keysOf rows) := pm.map Prod.fst
  have mono : ∀ {j : Int} {ps : List Int}, Up rows j ps → Up (putR rows k o) j ps := by
    intro j ps u
    induction u with
    | root h => exact .root (pm.mem_iff.mpr (List.mem_cons_of_mem _ h))
    | step h _ ih => exact .step (pm.mem_iff.mpr (List.mem_cons_of_mem _ h)) ih
  refine ⟨pk.nodup_iff.mpr (List.nodup_cons.mpr ⟨hk, t.nd⟩), fun j hj => ?_⟩
  rcases List.mem_cons.mp (pk.mem_iff.mp hj) with e | m
  · subst e
    cases o with
    | none => exact ⟨_, .root (pm.mem_iff.mpr List.mem_cons_self)⟩
    | some q =>
      obtain ⟨ps, u⟩ := t.up q (ho q rfl)
      exact ⟨_, .step (pm.mem_iff.mpr List.mem_cons_self) (mono u)⟩
  · obtain ⟨ps, u⟩ := t.up j m
    exact ⟨ps, mono u⟩
theorem tr_nil : Tr [] := ⟨List.nodup_nil, fun k h => by cases h⟩
end PR
end

section
set_option maxHeartbeats 4000000
/-! name = {..} by a dict comprehension; walks of dict comprehensions -/
namespace PR
open PySem L2 PySem.Spec PyProof.Rows
section
variable {X : Cx}
theorem ps_setDc {i : Nat} {y : Str} {py : Pos} {kx vx tg iter : Expr} {ifs : List Expr} {scope : Scope} {own : List (Str × Nat)} {pos spos : Pos} {wi : TI} {g : TG} {tt : TT} {tk tv : TE} (hc : X.calm = true) (hN : X.N.Nodup) (hy : X.N[i]? = some y) (hyl : X.env.scope.names.lookup y = some .local)
    (hsw : swapsWith (.DictComp kx vx [⟨tg, iter, ifs, 0⟩] scope pos) (some (.Name y py)) spos.line X.env = pure true) (hi : PI X tg iter wi) (ok : BlkOk X.N X.env.scope scope own)
    (hg : ∀ (s : Shared) (H : Hp) (C : Addr) (cl : List (Str × Addr)) (fp : List Addr), PG (X.blk s H scope (compEnvC scope cl C X.env) fp) tg g) (ht : ∀ (s : Shared) (H : Hp) (C : Addr) (cl : List (Str × Addr)) (fp : List Addr), PTs (X.blk s H scope (compEnvC scope cl C X.env) fp) ifs tt)
    (hk : ∀ (s : Shared) (H : Hp) (C : Addr) (cl : List (Str × Addr)) (fp : List Addr), PE (X.blk s H scope (compEnvC scope cl C X.env) fp) kx tk)
    (he : ∀ (s : Shared) (H : Hp) (C : Addr) (cl : List (Str × Addr)) (fp : List Addr), PE (X.blk s H scope (compEnvC scope cl C X.env) fp) vx tv) (hs : ∀ x, foldedSetIterable iter X.env x = pure x := by intro _; rfl) :
    PS X (.Assign [.Name y py] (.DictComp kx vx [⟨tg, iter, ifs, 0⟩] scope pos) spos) (tAsg (tDc wi g tt tk tv (own.map (·.2))) (gName i)) := by
  refine ⟨fun pins s σ H D I h => ?_⟩
  rw [exec_Assign_Name_used _ _ _ _ hsw]
  refine wpAny_bind (wpAny_standAt (wpAny_bind ?_))
  show wpAny _ X.A (do let _ ← comprehension (.DictComp kx vx [⟨tg, iter, ifs, 0⟩] scope pos) scope X.env (firstIterPos [⟨tg, iter, ifs, 0⟩] pos) newDict false (eval iter X.env) (some (assign (.Name y py) X.env))) _ _ s
  have h : tDc wi g tt tk tv (own.map (·.2)) σ H (fun x H1 => gName i x σ H1 D.nx) := h
  refine wpAny_bind (thn (dc_core (Qf := fun _ s' => SP X pins D .next s') hc hN I hi ok hg ht hk he hs h fun L C s' m H' I' q hn f => ?_) fun _ s' hq => wpAny_pure (wpAny_pure hq))
  show wpAny _ _ (assign (.Name y py) X.env (.ref L)) _ _ _
  refine wpAny_assign_Name (store_ok2 (v := V.ref L) I' hN hy (.inl hyl) rfl (fun s2 I2 ⟨a, sb, ha⟩ => ?_) (.inr hyl))
  obtain ⟨f0, f1, f2, f3, f4, f5⟩ := f
  have haC : C ≠ a := by
    rcases ha with z | z
    · rw [z]; exact f1
    · exact fun e => f4 y a z e.symm
  refine ⟨m, hn.sameBut sb haC, fun h3 sb3 => ?_⟩
  exact ⟨_, H', I2.turned (t' := s2.toks) (fun b o hb e => (sb3.2 b hb).trans e) f0 f1 f3 f4 f5, q⟩
theorem sw_trueD {kx vx : Expr} {gs : List Comprehension} {scope : Scope} {pos py : Pos} {y : Str} {l : Nat} {env : Env} (hk : env.scope.kind = .function) (hy : env.scope.names.lookup y = some .local) (hl : (py.line == pos.line) = true)
    (ha : (scope.names.any fun (n, k) => n == y && (k == .local || k == .cell)) = false) : swapsWith (.DictComp kx vx gs scope pos) (some (.Name y py)) l env = pure true := by
  have ky : env.kindOf y = some .local := hy
  have hb : env.blockKind = .function := by unfold Env.blockKind; rw [hk]; rfl
  unfold swapsWith
  simp only [hb, ky, ha, Expr.pos, hl]
  rfl
end
section
variable {J : It} {n : Nat} {G : Hp → Prop} {Y : Nat → Hp → V → Hp → Prop} {g : TG} {tt : TT} {tk tv : TE} {vs : List Nat} {σ : L2.St} {H : Hp} {D : Addr} {Qd : Hp → Prop} {K : PySem.W.Frag}
/-- what a dict comprehension's loop asks -/
def DcAt (J : It) (H1 : Hp) (D : Addr) (g : TG) (tt : TT) (tk tv : TE) (vs : List Nat) (σ : L2.St) (Qd : Hp → Prop) : Prop := ∃ W : Nat → Nat → Hp → Prop, (∃ m, W 0 m (upd H1 D (.dK []))) ∧ ∀ i m H, W i m H →
  (J.stop i H ∧ Qd H) ∨ (J.go i H ∧ ∃ Nx : Hp → Prop, (∀ H', Nx H' → ∃ m', m' < m ∧ W (i + 1) m' H') ∧ ∀ x H', J.yld i H x H' → g x (wipe σ vs) H' fun σ2 H2 => wipe σ2 vs = wipe σ vs ∧ tt σ2 H2 fun b H3 =>
    if b = true then tk σ2 H3 fun y H4 => tv σ2 H4 fun z H5 => ∃ kvs k, y = kV k ∧ H5 D = some (.dK kvs) ∧ kvs.length < sizeLine ∧ Nx (upd H5 D (.dK (putK kvs k z))) else Nx H3)
theorem Rd.tdc {wi : TI} {Q : VK} (h : wi σ H fun J H1 => ∀ D, H1 D = none → DcAt J H1 D g tt tk tv vs σ fun H' => Q (.ref D) H') : tDc wi g tt tk tv vs σ H Q := h
theorem dc_it (w : Walk J n G Y) (Pv : Nat → Hp → Prop) (h0 : Pv 0 (upd H D (.dK []))) (hG : ∀ i H, i ≤ n → Pv i H → G H)
    (hs : ∀ i x H H', i < n → Pv i H → Y i H x H' → g x (wipe σ vs) H' fun σ2 H2 => wipe σ2 vs = wipe σ vs ∧ tt σ2 H2 fun b H3 =>
      if b = true then tk σ2 H3 fun y H4 => tv σ2 H4 fun z H5 => ∃ kvs k, y = kV k ∧ H5 D = some (.dK kvs) ∧ kvs.length < sizeLine ∧ Pv (i + 1) (upd H5 D (.dK (putK kvs k z))) else Pv (i + 1) H3) (hd : ∀ H, Pv n H → Qd H) :
    DcAt J H D g tt tk tv vs σ Qd := by
  refine ⟨fun i m H => m = n - i ∧ i ≤ n ∧ Pv i H, ⟨n, by simp, Nat.zero_le _, h0⟩, ?_⟩
  rintro i m H ⟨rfl, hi, p⟩
  have q := hG i H hi p
  by_cases hlt : i < n
  · exact .inr ⟨w.goes i H hlt q, Pv (i + 1), fun H' p' => ⟨n - (i + 1), by omega, rfl, hlt, p'⟩, fun x H' y => hs i x H H' hlt p (w.yields i H x H' hlt q y)⟩
  · have e : i = n := by omega
    subst e
    exact .inl ⟨w.stops H q, hd H p⟩
/-- the dict of the rows: keys to parents -/
def dictOf (rows : List Row) : List (Key × V) := rows.map fun r => ((.inl r.1 : Key), optV r.2)
theorem dictOf_none : ∀ {rows : List Row} {k : Int}, k ∉ keysOf rows → valV (dictOf rows) (.inl k) = none
  | [], _, _ => rfl
  | r :: rows, k, h => by
    have h' : k ∉ r.1 :: keysOf rows := h
    rw [List.mem_cons, not_or] at h'
    show valV (((.inl r.1 : Key), optV r.2) :: dictOf rows) (.inl k) = none
    rw [valV_neg (fun e => h'.1 (by injection e with e; exact e.symm))]
    exact dictOf_none h'.2
theorem dictOf_some : ∀ {rows : List Row} {k : Int} {o : Option Int}, (keysOf rows).Nodup → (k, o) ∈ rows → valV (dictOf rows) (.inl k) = some (optV o)
  | [], _, _, _, h => by cases h
  | r :: rows, k, o, nd, h => by
    have nd' : (r.1 :: keysOf rows).Nodup := nd
    obtain ⟨n1, n2⟩ := List.nodup_cons.mp nd'
    show valV (((.inl r.1 : Key), optV r.2) :: dictOf rows) (.inl k) = _
    rcases List.mem_cons.mp h with e | m
    · subst e
      exact valV_pos rfl
    · have hk : k ∈ keysOf rows := List.mem_map.mpr ⟨_, m, rfl⟩
      rw [valV_neg (fun e => n1 (by injection e with e; have e' : r.1 = k := e; rw [e']; exact hk))]
      exact dictOf_some n2 m
theorem dictOf_take {rows : List Row} {i : Nat} {r : Row} (nd : (keysOf rows).Nodup) (e : rows[i]? = some r) : putK (dictOf (rows.take i)) (.inl r.1) (optV r.2) = dictOf (rows.take (i + 1)) := by
  have hlt : i < rows.length := (List.getElem?_eq_some_iff.mp e).1
  have e' : rows[i] = r := (List.getElem?_eq_some_iff.mp e).2
  have e2 : rows.take (i + 1) = rows.take i ++ [r] := by rw [List.take_add_one, e]; rfl
  have hk : r.1 ∉ keysOf (rows.take i) := fun z => by
    have nd2 : (keysOf (rows.take (i + 1))).Nodup := by
      unfold keysOf at nd ⊢
      rw [List.map_take]
      exact nd.sublist (List.take_sublist _ _)
    rw [e2] at nd2
    unfold keysOf at nd2
    rw [List.map_append] at nd2
    have := (List.nodup_append.mp nd2).2.2 r.1 z r.1 (by simp)
    exact this rfl
  rw [putK_new _ (dictOf_none hk), e2]
  unfold dictOf
  rw [List.map_append]
  rfl
end
theorem Kx.call_dictP {X : Cx} {K : PySem.W.Frag} (h : X.K = K) (hc : X.calm = true) : CallR X (.type "dict") (fun xs H Q => ∃ (a : Addr) (ps : List Addr) (kvs : List (Key × V)), xs = [.ref a] ∧ SqL K H a (ps.map V.ref) ∧ Paired (fun p kv => SqT K H p [kV kv.1, kv.2]) ps kvs ∧
    ∀ p, H p = none → Q (.ref p) (upd H p (.dK (mergeK [] kvs)))) := by subst h; exact L2.call_dictP hc
namespace Rd
theorem tdget {td ty : TE} {σ : L2.St} {H : Hp} {Q : VK} (h : td σ H fun x H1 => ty σ H1 fun y H2 => ∃ a v, x = .ref a ∧ DGet H2 a y (some v) ∧ Q v H2) : tDGet td ty σ H Q := h
theorem dgetI {H : Hp} {D : Addr} {k : Int} {kvs : List (Key × V)} {v : V} {P : V → Prop} (h1 : H D = some (.dK kvs)) (h2 : valV kvs (.inl k) = some v) (h : P v) : ∃ a v, V.ref D = .ref a ∧ DGet H a (.int k) (some v) ∧ P v :=
  ⟨D, v, rfl, .inl ⟨kvs, .inl k, .inl h1, rfl, h2.symm⟩, h⟩
theorem star {K : PySem.W.Frag} {te : TE} {t : TA} {σ : L2.St} {H : Hp} {Q : List V → Hp → Prop} (h : te σ H fun x H1 => ∃ p xs, x = V.ref p ∧ (SqT K H1 p xs ∨ SqL K H1 p xs) ∧ t σ H1 fun ys H2 => Q (xs ++ ys) H2) : StX.tStar K te t σ H Q := h
theorem starL {K : PySem.W.Frag} {H : Hp} {p : Addr} {xs : List V} {P : List V → Prop} (h1 : SqL K H p xs) (h : P xs) : ∃ p' ys, V.ref p = V.ref p' ∧ (SqT K H p' ys ∨ SqL K H p' ys) ∧ P ys := ⟨p, xs, rfl, .inr h1, h⟩
end Rd
end PR
end

section
/-! dict(rows) -/
namespace PR
open PySem L2 PySem.Spec PyProof.Rows
theorem rows_pairs {K : PySem.W.Frag} {H : Hp} : ∀ {rows : List Row} {xs : List V}, DpAll K H xs (rows.map rowD) → ∃ ps : List Addr, xs = ps.map V.ref ∧ Paired (fun p (kv : Key × V) => SqT K H p [kV kv.1, kv.2]) ps (dictOf rows)
  | [], xs, h => by
    cases h
    exact ⟨[], rfl, .nil⟩
  | r :: rows, xs, h => by
    cases h with
    | cons h1 t1 =>
      obtain ⟨b, rfl, hb⟩ := dp_row h1
      obtain ⟨ps, rfl, hp⟩ := rows_pairs t1
      exact ⟨b :: ps, rfl, .cons hb hp⟩
theorem merge_take {rows : List Row} (nd : (keysOf rows).Nodup) : ∀ n, n ≤ rows.length → mergeK [] (dictOf (rows.take n)) = dictOf (rows.take n) := by
  intro n
  induction n with
  | zero => intro _; rfl
  | succ n ih =>
    intro hn
    have e := dictOf_take nd (List.getElem?_eq_getElem (show n < rows.length by omega))
    have e2 : rows.take (n + 1) = rows.take n ++ [rows[n]] := by rw [List.take_add_one, List.getElem?_eq_getElem (by omega)]; rfl
    have e3 : dictOf (rows.take (n + 1)) = dictOf (rows.take n) ++ [((.inl rows[n].1 : Key), optV rows[n].2)] := by
      rw [e2]
      unfold dictOf
      rw [List.map_append]
      rfl
    rw [e3]
    unfold mergeK at ih ⊢
    rw [List.foldl_append, ih (by omega)]
    show putK (dictOf (rows.take n)) (.inl rows[n].1) (optV rows[n].2) = _
    rw [e, e3]
theorem merge_all {rows : List Row} (nd : (keysOf rows).Nodup) : mergeK [] (dictOf rows) = dictOf rows := by
  have := merge_take nd rows.length (Nat.le_refl _)
  rwa [List.take_length] at this
/-- two lists of the same data are equal -/
theorem eqv_self_rows (rows : List Row) : PyData.eqv (.list (rows.map rowD)) (.list (rows.map rowD)) = true := by
  refine SeqAt.eqv_refl _ ?_
  exact (shN_list (n := 1) fun d hd => by
    obtain ⟨r, _, rfl⟩ := List.mem_map.mp hd
    refine shN_tuple fun z hz => ?_
    rcases List.mem_cons.mp hz with e | hz
    · rw [e]; exact ⟨by simp [PyData.canLay0], by simp [PyData.depth]⟩
    rcases List.mem_cons.mp hz with e | hz
    · rw [e]
      cases r.2 with
      | none => exact ⟨by simp [optD, PyData.canLay0], by simp [optD, PyData.depth]⟩
      | some q => exact ⟨by simp [optD, PyData.canLay0], by simp [optD, PyData.depth]⟩
    · cases hz).1
end PR
end

section
set_option maxHeartbeats 4000000
/-! o[i] by an own __getitem__; o.f = v by a property's setter -/
namespace PR
open PySem L2 PySem.Spec PyProof.Rows
structure ItemC (K : PySem.W.Frag) (C g : Addr) : Prop where
  at_ : PySem.W.findIn K (.ref C) "__getitem__" = some (some (.ref g))
  fnI : PySem.W.fnIn K g = true
  fn : PySem.W.isFn K (.ref g) = true
structure SetOf (K : PySem.W.Frag) (C : Addr) (f : Str) (p g : Addr) : Prop where
  tak : PySem.W.takerIn K C f = some (some (.ref p))
  ty : PySem.W.typeIn K (.ref p) = some (.type "property")
  rec_ : ∃ a rest, PySem.W.recIn K p "property" = some (a :: .ref g :: rest)
/-- e[i]: the promise of the class's __getitem__ -/
def tItem (C : Addr) (sp : Sp) (E : XK) (ta ti : TE) : TE := fun σ H Q => ta σ H fun x H1 => ti σ H1 fun y H2 => ∃ a dx fs, x = .ref a ∧ H2 a = some (.ins C dx fs) ∧ sp [.ref a, y] H2 Q E
/-- e.f = v: the promise of the setter -/
def sProp (C : Addr) (sp : Sp) (E : XK) (ta tv : TE) : TS := fun D σ H => tv σ H fun y H1 => ta σ H1 fun x H2 => ∃ a dx fs, x = .ref a ∧ H2 a = some (.ins C dx fs) ∧ sp [.ref a, y] H2 (fun _ H3 => D.nx σ H3) E
section
variable {X : Cx} {CX : CXT} {k : Nat} {C p g : Addr} {f : Str} {fd : FuncData} {ps : List Str} {sp : Sp} {E : XK} {a b : Expr} {pos pos' : Pos} {ta tb tv : TE}
theorem pe_item (ha : PE X a ta) (hb : PE X b tb) (hc : ItemC X.K C g) (F : FnOk X.prog X.w X.K X.mg X.base CX k g fd ps sp) (hr : Room (k + 1) X.A) (hbn : Binds X.K fd ps []) (hx : Passes CX X E)
    (hs : ∀ x i, subscripted b true (.ref x) i = runValue (.builtin "lifetime.subscript" ⟨[.ref x, i], []⟩)) : PE X (.Subscript a b pos) (tItem C sp E ta tb) := by
  refine ⟨fun pins s σ H Q I h => ?_⟩
  refine Subscript_ (thn (ha.run pins s σ H _ I h) fun v s1 ⟨x, H1, I1, rx, q1⟩ => thn (hb.run pins s1 σ H1 _ I1 q1) fun u s2 ⟨y, H2, I2, ry, o, dx, fs, ex, eo, q2⟩ => ?_)
  subst ex
  obtain rfl : v = Value.ref o := rx
  obtain ⟨mA, O, _, _, _, _⟩ := ins_get I2.hok eo
  obtain ⟨od, J, _⟩ := O.look
  obtain ⟨m, fr⟩ := I2.fr
  refine PySem.W.sub_K fr I2.ok.mod.kin J hc.at_ hc.fnI hc.fn ?_ (hs _ _)
  have hl : ([Value.ref o, u] ++ ([] : List Value)).length = ps.length := by
    rw [← F.len _ _ _ _ q2]
    rfl
  refine wpAny_call (codeAny_mono (F.run X.A.in1 X.stack s2 H2 ⟨[.ref o, u], []⟩ [.ref o, u] [.ref o, y] Q E hr.in1 I2.env0.in1 (hbn _ [.ref o, u] I2.kIn hl) (.cons rfl (.cons ry .nil)) q2) fun r s' hq => ?_)
  cases r with
  | error er => exact hx pins σ H2 s2 er s' I2 hq
  | ok fl =>
    cases fl with
    | ret z => exact I2.after hq
    | next => exact False.elim hq
    | brk => exact False.elim hq
    | cont => exact False.elim hq
theorem ps_prop {value : Expr} (ha : PE X a ta) (hv : PE X value tv) (c : Cls X.K C) (hp : SetOf X.K C f p g) (F : FnOk X.prog X.w X.K X.mg X.base CX k g fd ps sp) (hr : Room (k + 2) X.A) (hbn : Binds X.K fd ps []) (hx : Passes CX X E)
    (hs : swapsWith value (some (.Attribute a f pos')) pos.line X.env = pure false) : PS X (.Assign [.Attribute a f pos'] value pos) (sProp C sp E ta tv) := by
  refine ⟨fun pins s σ H D I h => ?_⟩
  refine plainObj_wpAny_Assign_Attribute (thn (hv.run pins s σ H _ I h) fun u s1 ⟨y, H1, I1, ry, q⟩ => thn (ha.run pins s1 σ H1 _ I1 q) fun ov s2 ⟨x, H2, I2, rx, o, dx, fs, ex, eo, q2⟩ => ?_) hs
  subst ex
  obtain rfl : ov = Value.ref o := rx
  obtain ⟨mA, O, _, _, _, _⟩ := ins_get I2.hok eo
  obtain ⟨od, J, _⟩ := O.look
  obtain ⟨m, fr⟩ := I2.fr
  obtain ⟨a', rest, hrec⟩ := hp.rec_
  refine PySem.W.set_prop fr I2.ok.mod.kin J c.sa c.po hp.tak hp.ty hrec ?_
  have hl : ([Value.ref o, u] ++ ([] : List Value)).length = ps.length := by
    rw [← F.len _ _ _ _ q2]
    rfl
  have I3 := I2.tok (s2.toks + 1)
  refine codeAny_mono (F.run X.A.in1.in1 X.stack { s2 with toks := s2.toks + 1 } H2 ⟨[.ref o, u], []⟩ [.ref o, u] [.ref o, y] _ E hr.in1.in1 I3.env0.in1.in1 (hbn _ [.ref o, u] I3.kIn hl) (.cons rfl (.cons ry .nil)) q2) fun r s' hq => ?_
  cases r with
  | error er => exact hx pins σ H2 _ er s' I3 hq
  | ok fl =>
    cases fl with
    | ret z =>
      obtain ⟨v', H', I4, _, q3⟩ := I3.after hq
      exact ⟨σ, H', I4, q3⟩
    | next => exact False.elim hq
    | brk => exact False.elim hq
    | cont => exact False.elim hq
end
namespace Rd
variable {H : Hp} {Q : VK} {σ : L2.St} {C : Addr} {sp : Sp} {E : XK} {ta ti : TE} {D : Ends}
theorem prop {dvs : List V} (h : ta σ H fun x H1 => ∃ a dx fs, x = .ref a ∧ H1 a = some (.ins C dx fs) ∧ sp (.ref a :: dvs) H1 Q E) : tProp C sp dvs E ta σ H Q := h
theorem item (h : ta σ H fun x H1 => ti σ H1 fun y H2 => ∃ a dx fs, x = .ref a ∧ H2 a = some (.ins C dx fs) ∧ sp [.ref a, y] H2 Q E) : tItem C sp E ta ti σ H Q := h
theorem sprop (h : ti σ H fun y H1 => ta σ H1 fun x H2 => ∃ a dx fs, x = .ref a ∧ H2 a = some (.ins C dx fs) ∧ sp [.ref a, y] H2 (fun _ H3 => D.nx σ H3) E) : sProp C sp E ta ti D σ H := h
end Rd
end PR
end

section
set_option maxHeartbeats 4000000
/-! own error classes with one field, over any built-in error: class C(B): def __init__(self, f): self.f = f -/
namespace PySem
namespace EX
open PySem.W PySem.Calls PyProof.Rows
section
open Builtin Builtin.ObjectAttr
variable {prog : Program} {w : World} {A : Around} {E : Value → Shared → Prop} {R : Result → Shared → Prop} {hp : Heap} {g : Array GenState} {d : Drawn} {t : Nat} {os : OsState}
/-- the first store into an error, over any built-in base -/
theorem osa_first {K : Frag} {name : Str} {tk : Tok} {v : Value} {x C t1 : Addr} {bmB : List Value} {B : String} (SF : StoreFacts B bmB "object.__setattr__" "object")
    (X : K.In hp) (hx : hp.get? x = some (excObj C t1 none .none)) (ho : excOver K C bmB = true) (ht : takerIn K C name = some none) (hh : hasDictIn K C = true)
    (hq : ∀ h' tk' dx, (∀ b o, b ≠ x → hp.get? b = some o → h'.get? b = some o) → hp.objs.size ≤ dx → dx ≠ x → h'.get? x = some (excObj C t1 (some dx) .none) →
      h'.Ns1 dx (fun y => if y = name then some v else none) → R (.ok (.ret .none)) ⟨h', g, d, tk', os⟩) :
    codeAny (model prog w) A (.call (.builtin "object.__setattr__") ⟨[.ref x, .str name tk, v], []⟩) R ⟨hp, g, d, t, os⟩ := by
  refine osa_openX (s := ⟨hp, g, d, t, os⟩) (od := none) SF X ⟨hx, rfl, rfl, trivial⟩ ho ht fun b => ?_
  obtain ⟨cd, hc, hd'⟩ := any_some hh
  have hxs : x < hp.objs.size := Heap.lt_size hx
  have hne : x ≠ hp.objs.size := Nat.ne_of_lt hxs
  refine wpAny_bind (wpAny_pure (wpAny_bind (instanceDict_exc (s := ⟨hp, g, d, t, os⟩) hx (looks_clsIn X hc) hd' ?_)))
  show wpAny _ _ (storeInDict hp.objs.size (.str name tk) name v) _ _ _
  have hx1 : (hp.push (dictOf [] 0)).get? x = some (excObj C t1 none .none) := Heap.get?_push_of_some _ hx
  refine PySem.HandSPX.store_in_new (hp := (hp.push (dictOf [] 0)).update x fun o => { o with dict := some hp.objs.size }) ?_ fun h' tk' hn' hs => ?_
  · exact ⟨_, #[], _, (Heap.get?_update_ne _ _ _ _ hne.symm).trans (Heap.get?_push_at rfl rfl), rfl, fun e he => absurd he (by simp), fun _ => rfl⟩
  · refine hq h' tk' hp.objs.size (fun b o hb e => ?_) (Nat.le_refl _) hne.symm ?_ hn'
    · have hbs : b ≠ hp.objs.size := Nat.ne_of_lt (Heap.lt_size e)
      exact (hs.2 b hbs).trans ((Heap.get?_update_ne _ _ _ _ hb).trans (Heap.get?_push_of_some _ e))
    · exact (hs.2 x hne).trans (Heap.get?_update_self _ hx1 rfl)
end
def iA (fl : Str) (p1 p2 : Pos) : Arguments := { posonlyargs := [], args := [{ arg := "self", annotation := none, pos := p1 }, { arg := fl, annotation := none, pos := p2 }], vararg := none, kwonlyargs := [], kw_defaults := [], kwarg := none, defaults := [] }
def iB (fl : Str) (q1 q2 q3 q4 : Pos) : List Stmt := [.Assign [.Attribute (.Name "self" q1) fl q2] (.Name fl q3) q4]
def iS (fl : Str) : Scope := { kind := .function, names := [(PySem.Str.ofString "self", .local), (fl, .local)], isGenerator := false, isCoroutine := false, more := [] }
/-- a field's name: not self, not a word of the machine's -/
structure FlOk (fl : Str) : Prop where
  ns : (fl == ("self" : Str)) = false
  nd : (fl == ("__debug__" : Str)) = false
/-- what the written part says of the class nm, at C, and of its __init__, at fI -/
structure E1 (K : Frag) (mg : Str → Option Value) (nm fl qual : Str) (bmB : List Value) (newId : String) (C fI : Addr) : Prop where
  fo : FlOk fl
  bd : ∀ (p1 p2 q1 q2 q3 q4 : Pos) (doc pm : Value) (an : Option Addr) (cdv ct a v : Value), bindArgs (fnOf "__init__" qual (iA fl p1 p2) (iB fl q1 q2 q3 q4) (iS fl) .none .none doc pm an cdv ct) ⟨[a, v], []⟩ = pure [(("self" : Str), a), (fl, v)]
  gC : mg nm = some (.ref C)
  cls : ∃ n q N bs bm sn sub ab col dd k0 k1 k2 k3 k5, K.lookup C = some (excClassObj n q C N bs bm true sn sub ab col dd k0 k1 k2 k3 k5 newId) ∧ excTail bmB bm = true
  ov : excOver K C bmB = true
  sa : findIn K (.ref C) "__setattr__" = some (some (.builtin "object.__setattr__"))
  ga : findIn K (.ref C) "__getattribute__" = some (some (.builtin "BaseException.__getattribute__"))
  gg : findIn K (.ref C) "__getattr__" = some none
  noN : findIn K (.ref C) fl = some none
  iC : findIn K (.ref C) "__init__" = some (some (.ref fI))
  tC : typeIn K (.ref fI) = some (.type "function")
  kC : keepIn K (.ref C) = true
  exC : subIn K (.ref C) (.type "BaseException") = some true
  tyC : typeIn K (.ref C) = some (.type "type")
  hdC : hasDictIn K C = true
  fn : ∃ (oc : Value) (od : Option Addr) (doc pm : Value) (an : Option Addr) (cdv ct : Value) (osl : Array (Option Value)) (p1 p2 q1 q2 q3 q4 : Pos),
    K.lookup fI = some ⟨oc, od, .func (fnOf "__init__" qual (iA fl p1 p2) (iB fl q1 q2 q3 q4) (iS fl) .none .none doc pm an cdv ct), osl⟩ ∧ codeIn K cdv qual = true
/-- the binding, for a written name -/
theorem bd_key (qual : Str) : ∀ (p1 p2 q1 q2 q3 q4 : Pos) (doc pm : Value) (an : Option Addr) (cdv ct a v : Value), bindArgs (fnOf "__init__" qual (iA "key" p1 p2) (iB "key" q1 q2 q3 q4) (iS "key") .none .none doc pm an cdv ct) ⟨[a, v], []⟩ = pure [(("self" : Str), a), (("key" : Str), v)] := fun _ _ _ _ _ _ _ _ _ _ _ _ _ => rfl
theorem one_size (v : Value) : [v].length ≤ sizeLine := by rw [sizeLine_eq]; exact (by decide : 1 ≤ 16777216)
theorem ldE {M : Model} {s : Shared} {name : Str} {scope : Scope} {L a : Addr} {cd : Value} {m : Str → Option Value} {x : Str} {pos : Pos} {v : Value} {Q : Value → Shared → Prop} {A : Around} {E : Value → Shared → Prop} (hn : s.heap.Ns L m) (hv : m x = some v) (h : Q v s)
    (hk : scope.kind = .function) (hl : (envOfC name scope L a cd).kindOf x = some .local) (hd : (x == ("__debug__" : Str)) = false) :
    wpAny M A (eval (.Name x pos) (envOfC name scope L a cd)) Q E s := wpAny_Name (wpAny_loadName_local hk hl hn hv h) hd
theorem iS_self (fl : Str) : (iS fl).names.lookup ("self" : Str) = some NameKind.local := rfl
theorem iS_fl {fl : Str} (h : FlOk fl) : (iS fl).names.lookup fl = some NameKind.local := by
  show List.lookup fl [(PySem.Str.ofString "self", NameKind.local), (fl, NameKind.local)] = _
  rw [List.lookup_cons, show (fl == PySem.Str.ofString "self") = false from h.ns, List.lookup_cons, beq_self_eq_true]
structure InitEnd (h h' : Heap) (x C dx t1 : Addr) (fl : Str) (v : Value) : Prop where
  keep : ∀ b o, b ≠ x → h.get? b = some o → h'.get? b = some o
  obj : h'.get? x = some (excObj C t1 (some dx) .none)
  dbig : h.objs.size ≤ dx
  dne : dx ≠ x
  ns : h'.Ns1 dx (fun y => if y = fl then some v else none)
/-- a made error: at e, its own dict at d -/
structure Made1 (h h' : Heap) (e C d t1 : Addr) (fl : Str) (v : Value) : Prop where
  keep : ∀ b o, h.get? b = some o → h'.get? b = some o
  new : h.objs.size ≤ e
  obj : h'.get? e = some (excObj C t1 (some d) .none)
  dbig : h.objs.size ≤ d
  dne : d ≠ e
  ns : h'.Ns1 d (fun y => if y = fl then some v else none)
section
variable {prog : Program} {w : World} {A : Around} {E : Value → Shared → Prop} {R : Result → Shared → Prop} {s : Shared} {K : Frag} {mg : Str → Option Value} {C fI : Addr} {nm fl qual : Str} {bmB : List Value} {B newId initId : String}
theorem e1_init (T : E1 K mg nm fl qual bmB newId C fI) (SF : StoreFacts B bmB "object.__setattr__" "object") {x t0 : Addr} {v : Value} (X : K.In s.heap) (hlim : s.heap.NoLimit) (hx : s.heap.get? x = some (excObj C t0 none .none)) (hroom : A.depth < recursionLimit)
    (hq : ∀ h' tk dx, InitEnd s.heap h' x C dx t0 fl v → R (.ok (.ret .none)) { s with heap := h', toks := tk }) :
    codeAny (model prog w) A (.call (.ref fI) ⟨[.ref x, v], []⟩) R s := by
  obtain ⟨oc, od, doc, pm, an, cdv, ct, osl, p1, p2, q1, q2, q3, q4, ho, hcd⟩ := T.fn
  have kf := iS_fl T.fo
  refine Att.call_fn (binds := [("self", .ref x), (fl, v)]) X hlim ho hcd hroom (BindsTo.of_eq (T.bd _ _ _ _ _ _ _ _ _ _ _ _ _)) ?_ (fun s₁ IC => ?_) rfl rfl rfl
  · rw [List.all_cons, List.all_cons, List.all_nil, iS_self, kf] <;> rfl
  obtain ⟨h₁, tk₁, rfl⟩ := IC.toInCall.same
  have k : ∀ b o, s.heap.get? b = some o → h₁.get? b = some o := IC.toInCall.keep
  have hn := IC.toInCall.ns
  have X₁ : K.In h₁ := X.keeps k
  have hx₁ := k _ _ hx
  have hnf : ¬ (("self" : Str) = fl) := fun z => by
    have q := T.fo.ns
    rw [← z, beq_self_eq_true] at q; cases q
  have ms : bindL (envOfC qual (iS fl) s.heap.objs.size fI cdv).kindOf [("self", Value.ref x), (fl, v)] (fun _ => none) "self" = some (.ref x) := by
    unfold bindL bindL bindL
    rw [show (envOfC qual (iS fl) s.heap.objs.size fI cdv).kindOf fl = some .local from kf, show (envOfC qual (iS fl) s.heap.objs.size fI cdv).kindOf "self" = some .local from iS_self fl, if_pos rfl, if_pos rfl]
    show (if ("self" : Str) = fl then _ else _) = _
    rw [if_neg hnf] <;> rfl
  have mf : bindL (envOfC qual (iS fl) s.heap.objs.size fI cdv).kindOf [("self", Value.ref x), (fl, v)] (fun _ => none) fl = some v := by
    unfold bindL bindL bindL
    rw [show (envOfC qual (iS fl) s.heap.objs.size fI cdv).kindOf fl = some .local from kf, if_pos rfl]
    show (if fl = fl then some v else _) = _
    rw [if_pos rfl]
  show wpAny _ _ (execs _ _) _ _ _
  refine wpAny_execs_cons (plainObj_wpAny_Assign_Attribute ?_)
  refine ldE (v := v) hn mf (ldE (v := .ref x) hn ms ?_ rfl (iS_self fl) (by decide)) rfl kf T.fo.nd
  have htk : takerIn K C fl = some none := by
    unfold takerIn
    rw [T.noN] <;> rfl
  refine set_plain X₁ (ox := excObj C t0 none .none) (od := none) ⟨hx₁, rfl, rfl, trivial⟩ T.sa ?_
  refine osa_first SF X₁ hx₁ T.ov htk T.hdC (fun h₃ tk₃ dx k₃ dn dne hx₃ hn₃ => ?_)
  show wpAny _ _ (execs _ _) _ _ _
  have z : s.heap.objs.size < h₁.objs.size := hn.lt
  exact wpAny_execs_nil (hq h₃ tk₃ dx ⟨fun b o hb e => k₃ b o hb (k b o e), hx₃, Nat.le_of_lt (Nat.lt_of_lt_of_le z dn), dne, hn₃⟩)
theorem e1_made (T : E1 K mg nm fl qual bmB newId C fI) (FB : ExcBaseFacts B newId initId bmB) (SF : StoreFacts B bmB "object.__setattr__" "object") {v : Value} (X : K.In s.heap) (hlim : s.heap.NoLimit) (hroom : A.depth + 1 < recursionLimit)
    (hq : ∀ h' tk e d t1, Made1 s.heap h' e C d t1 fl v → R (.ok (.ret (.ref e))) { s with heap := h', toks := tk }) :
    codeAny (model prog w) A (.call (.ref C) ⟨[v], []⟩) R s := by
  obtain ⟨n', q, N, bs, bm, sn, sub, ab, col, dd, k0, k1, k2, k3, k5, hC, hbm⟩ := T.cls
  obtain ⟨hp, g, dr, tk, os⟩ := s
  have k : ∀ b o, hp.get? b = some o → ((hp.push (kdv_tup [v])).push (PySem.HandSPX.excO C hp.objs.size)).get? b = some o := fun b o e => Heap.get?_push_of_some _ (Heap.get?_push_of_some _ e)
  have hget : ((hp.push (kdv_tup [v])).push (PySem.HandSPX.excO C hp.objs.size)).get? (hp.objs.size + 1) = some (excObj C hp.objs.size none .none) := by heap_get
  refine PySem.HandSPX.call_own FB (fun Y => excTail_contains Y bm hbm) (X _ _ hC) (looks_findIn X T.iC) (fun self => bind_fn X self T.tC) (one_size v) ?_
  refine e1_init (s := ⟨(hp.push (kdv_tup [v])).push (PySem.HandSPX.excO C hp.objs.size), g, dr, tk, os⟩) T SF (X.keeps k) (hlim.keeps k) hget ?_ fun h' tk' dx ⟨k', hx, dn, dne, hns⟩ => ?_
  · show A.depth + 1 < recursionLimit
    exact hroom
  · have old : ∀ b o, hp.get? b = some o → h'.get? b = some o := fun b o e => k' b o (Nat.ne_of_lt (Nat.lt_succ_of_lt (Heap.lt_size e))) (k b o e)
    have z : hp.objs.size + 1 + 1 ≤ dx := by
      have q := dn
      rw [Heap.size_push, Heap.size_push] at q
      exact q
    exact ⟨rfl, hq h' tk' (hp.objs.size + 1) dx _ ⟨old, Nat.le_succ _, hx, Nat.le_trans (Nat.le_trans (Nat.le_succ _) (Nat.le_succ _)) z, dne, hns⟩⟩
end
end EX
end PySem
namespace PR
open PySem L2 PySem.Spec PyProof.Rows PySem.EX
theorem relO_one {fl : Str} {v : V} {v' : Value} (r : RelV v v') (f : Str) : RelO (List.lookup f [(fl, v)]) (if f = fl then some v' else none) := by
  rw [List.lookup_cons]
  by_cases h : f = fl
  · subst h
    rw [if_pos rfl, beq_self_eq_true]
    exact r
  · rw [if_neg h, show (f == fl) = false from beq_eq_false_iff_ne.mpr h]
    trivial
section
variable {X : Cx} {C fI : Addr} {nm fl qual : Str} {bmB : List Value} {B newId initId : String}
/-- C(e), to be raised -/
def tMk1 (C : Addr) (fl : Str) (ta : TA) : L2.St → Hp → XK → Prop := fun σ H Q => ta σ H fun vs H1 => ∃ v, vs = [v] ∧ ∀ d, H1 d = none → Q (.ref C) (some d) (upd H1 d (.xd [(fl, v)]))
theorem pmk_e1 {a : Expr} {ta : TA} {p pos : Pos} {k : Nat} (T : E1 X.K X.mg nm fl qual bmB newId C fI) (FB : ExcBaseFacts B newId initId bmB) (SF : StoreFacts B bmB "object.__setattr__" "object") (hr : Room k X.A) (ha : PA X [a] ta) (hg : Gl X nm := by rfl)
    (hd : (nm == ("__debug__" : Str)) = false := by decide) (he : starEach (a :: []) X.env = (false, eval a X.env) :: starEach [] X.env := by rfl) (hpl : (backTo pos (starEach [] X.env)).any (·.1) = false := by rfl) :
    L2N.PMk X (.Call (.Name nm p) [a] [] pos) (tMk1 C fl ta) := by
  intro pins s σ H Q I h
  refine wpAny_Call_Name_kw (ld_glob I hg T.gC ?_ hd)
  refine PySem.W.callWith_K (h₀ := X.base) I.ok.mod.kin T.kC (thn (ha.run pos pins s σ H _ I h) fun us s1 hh => ?_) he hpl
  obtain ⟨vs, H1, I1, r1, v, ev, q1⟩ := hh
  subst ev
  refine ⟨I1.kIn, ?_⟩
  obtain ⟨v', rfl, rv⟩ := Vals.one r1
  show wpAny _ _ (call (.ref C) [v']) _ _ _
  have hlim := I1.nolimit
  obtain ⟨hp, g, dr, tk, os⟩ := s1
  refine wpAny_call (e1_made T FB SF I1.kIn hlim (by have := hr.dp; omega) fun h' tk' e d t1 M => ?_)
  show L2N.MkP X pins σ Q (.ref e) ⟨h', g, dr, tk', os⟩
  have hns := M.ns
  obtain ⟨G', g1, g2⟩ := restrict h' fun b => decide (b ≠ e)
  have gk : ∀ b, b ≠ e → G'.get? b = h'.get? b := fun b hb => g1 b (decide_eq_true hb)
  have ge : G'.get? e = none := g2 e (by simp)
  have old : ∀ b o, hp.get? b = some o → G'.get? b = some o := fun b o q => (gk b (Nat.ne_of_lt (Nat.lt_of_lt_of_le (Heap.lt_size q) M.new))).trans (M.keep b o q)
  have ob : ObjOk X.prog X.w (upd H1 d (.xd [(fl, v)])) G' d (.xd [(fl, v)]) := ⟨_, hns.at (fun o q => (gk d M.dne).trans q), fun f => relO_one rv f⟩
  have J : Inv X pins σ (upd H1 d (.xd [(fl, v)])) ⟨G', g, dr, tk', os⟩ := I1.laid (t' := tk') old M.dbig ob
  refine ⟨e, _, _, ⟨G', g, dr, tk', os⟩, _, .ref C, some d, rfl, J, fun b o q => ?_, ge, M.obj, ⟨rfl, rfl, fun vs hv => by cases hv; rfl⟩, rfl, rfl, ?_, rfl, I1.bare, raises_own T.exC T.tyC, q1 d (I1.hok.fresh M.dbig)⟩
  · by_cases hb : b = e
    · rw [hb, ge] at q; cases q
    · exact (gk b hb).symm.trans q
  · rw [upd_ne (Ne.symm M.dne)]
    exact I1.hok.fresh M.new
/-- what making the error asks -/
def ErrA (C : Addr) (fl : Str) (vs : List V) (H1 : Hp) (Q : XK) : Prop := ∃ v, vs = [v] ∧ ∀ d, H1 d = none → Q (.ref C) (some d) (upd H1 d (.xd [(fl, v)]))
theorem Rd.mk1 {ta : TA} {σ : L2.St} {H : Hp} {Q : XK} (h : ta σ H fun vs H1 => ErrA C fl vs H1 Q) : tMk1 C fl ta σ H Q := h
theorem Rd.errA {v : V} {H1 : Hp} {Q : XK} (h : ∀ d H2, H1 d = none → Same H1 H2 → H2 d = some (.xd [(fl, v)]) → Q (.ref C) (some d) H2) : ErrA C fl [v] H1 Q := ⟨v, rfl, fun d n => h d _ n (same_upd n) upd_same⟩
/-- raise C(e) -/
theorem ps_raise1 {a : Expr} {ta : TA} {W : WX} {p pos pos2 : Pos} {k : Nat} (hc : X.calm = true) (T : E1 X.K X.mg nm fl qual bmB newId C fI) (FB : ExcBaseFacts B newId initId bmB) (SF : StoreFacts B bmB "object.__setattr__" "object") (hr : Room k X.A) (tk : L2N.Takes X W) (ha : PA X [a] ta) (hg : Gl X nm := by rfl)
    (hd : (nm == ("__debug__" : Str)) = false := by decide) (he : starEach (a :: []) X.env = (false, eval a X.env) :: starEach [] X.env := by rfl) (hpl : (backTo pos (starEach [] X.env)).any (·.1) = false := by rfl) :
    PS X (.Raise (some (.Call (.Name nm p) [a] [] pos)) none pos2) (fun _ σ H => tMk1 C fl ta σ H fun cls d H' => W cls d σ H') := L2N.ps_raise hc tk (pmk_e1 T FB SF hr ha hg hd he hpl)
end
/-! ### defs whose errors have no context -/
section
variable {P : Program} {w : World} {K : PySem.W.Frag} {mg : Str → Option Value} {base : Heap}
theorem cxN_cx {outer : List Env} {H : Hp} {s : Shared} {E : XK} {u : Value} {s' : Shared} (h : L2N.CX P w outer H s E u s') : L2.CX P w outer H s E u s' := by
  obtain ⟨a, B, H', cls, d, e, fl, hok, ub, na, os, ag, he⟩ := h
  obtain ⟨f1, f2, f3, oe, vs, T, oT, ts, g1, hz, g2⟩ := fl
  exact ⟨a, B, H', cls, d, e, ⟨f1, f2, f3, oe, vs, T, oT, ts, g1, hz.zc, g2⟩, hok, ub, na, os, ag, he⟩
theorem _root_.L2.FnOk.weakN {k : Nat} {f : Addr} {fd : FuncData} {ps : List Str} {sp : Sp} (F : FnOk P w K mg base (L2N.CX P w) k f fd ps sp) : FnOk P w K mg base (L2.CX P w) k f fd ps sp :=
  ⟨F.len, fun A outer s H args us vs Q E hr he hb hv hs => codeAny_mono (F.run A outer s H args us vs Q E hr he hb hv hs) fun r s' h => by
    cases r with
    | error e => exact cxN_cx h
    | ok fl => cases fl <;> exact h⟩
theorem _root_.L2.Fun.okN {x qual : Str} {st : Stmt} {f : Addr} {fd : FuncData} {N ps : List Str} {k : Nat} {sp : Sp} (F : Fun K x qual st f fd) (S : FnScope N ps (defScope st)) (len : ∀ vs H Q E, sp vs H Q E → vs.length = ps.length)
    (hbody : ∀ (cdv : Value) (A : Around) (outer : List Env) (s : Shared) (H : Hp) (vs : List V) (Q : VK) (E : XK), Room k (A.deeper (envOfC qual (defScope st) s.heap.objs.size f cdv)) → sp vs H Q E →
      ∃ t, PSs (cxOf (L2N.CX P w) P w K mg base N qual (defScope st) f cdv A outer s H E) (defBody st) t ∧ t { nx := fun _ H' => Q .non H', rt := Q } (L2.start N vs) H) : FnOk P w K mg base (L2N.CX P w) (k + 1) f fd ps sp := by
  obtain ⟨oc, od, kV, doc, pm, an, cdv, ct, osl, rfl, lk, hcd⟩ := F.ex
  exact fn_of lk hcd S len fun A outer s H vs Q E hr hsp => hbody cdv A outer s H vs Q E hr hsp
theorem _root_.L2.FunD.okN {x qual : Str} {params : Arguments} {body : List Stmt} {scope : Scope} {dvs : List V} {kws : List (Str × V)} {f : Addr} {fd : FuncData} {N ps : List Str} {k : Nat} {sp : Sp} (F : FunD K x qual params body scope dvs kws f fd) (S : FnScope N ps scope) (len : ∀ vs H Q E, sp vs H Q E → vs.length = ps.length)
    (hbody : ∀ (cdv : Value) (A : Around) (outer : List Env) (s : Shared) (H : Hp) (vs : List V) (Q : VK) (E : XK), Room k (A.deeper (envOfC qual scope s.heap.objs.size f cdv)) → sp vs H Q E →
      ∃ t, PSs (cxOf (L2N.CX P w) P w K mg base N qual scope f cdv A outer s H E) body t ∧ t { nx := fun _ H' => Q .non H', rt := Q } (L2.start N vs) H) : FnOk P w K mg base (L2N.CX P w) (k + 1) f fd ps sp := FunD.ok F S len hbody
theorem passN {N : List Str} {qual : Str} {scope : Scope} {f : Addr} {cd : Value} {Ar : Around} {outer : List Env} {s : Shared} {H : Hp} {E : XK} : Passes (L2N.CX P w) (cxOf (L2N.CX P w) P w K mg base N qual scope f cd Ar outer s H E) E :=
  L2N.passes_call (L2N.takes_of rfl rfl rfl rfl) fun _ _ _ _ h => h
end
end PR
end

section
set_option maxHeartbeats 4000000
/-! exceptions in the air: clauses with names whose suites raise, raise .. from a name, with -/
namespace PR
open PySem PySem.Spec PyProof.Rows L2 L2H HotX
section
variable {X : Cx} {pins : List (Addr × Obj)} {σ : L2.St} {H : Hp}
/-- what is told of an exception at x with its trace at t -/
structure Air (X : Cx) (pins : List (Addr × Obj)) (Z : Obj → Prop) (x t : Addr) (ox ot : Obj) (va vt : Array Value) (fl : Value) : Prop where
  z : Z ox
  dx : ox.data = .fields va
  v1 : va[1]? = some (.ref t)
  ne : t ≠ x
  dt : ot.data = .fields vt
  v3 : vt[3]? = some fl
  far : ∀ b o, X.s_0.heap.get? b = some o → b ≠ x ∧ b ≠ t
  farP : ∀ p, p ∈ X.pn ++ pins → p.1 ≠ x ∧ p.1 ≠ t
/-- noted: pinned, with its trace -/
theorem air_in {B : Heap} {sI s' : Shared} {x : Addr} {Z : Obj → Prop} {fl : Value} (hs : X.stack = X.env :: X.outer) (hf : X.env.frame = some X.env.locals) (hex : X.ex = []) (J : Inv X pins σ H sI)
    (nb : ∀ b o, sI.heap.get? b = some o → b ∉ frs X.stack → B.get? b = some o) (up : sI.heap.UpToSlots s'.heap) (st : B.StaysIn s'.heap) (bx : B.get? x = none) (ff : s'.heap.FunFrames B (X.env :: X.outer)) (tr : HandSPX.TracedZ s'.heap B x Z fl)
    (na : H x = none) (os : s'.os = sI.os) (ag : AllBare s'.gens) :
    ∃ t ox ot va vt, Air X pins Z x t ox ot va vt fl ∧ s'.heap.get? x = some ox ∧ s'.heap.get? t = some ot ∧ H t = none ∧ x ≠ X.env.locals ∧ x ∉ X.fs ∧ Inv X ((x, ox) :: (t, ot) :: pins) σ H s' := by
  have J2 : Inv X pins σ H s' := J.landed nb st up os ag
  obtain ⟨ox, va, t, ot, vt, gx, hz, dx, v1, bt, ne, gt, dt, v3⟩ := tr
  have ht : H t = none := (J.inGround nb).gone bt
  have nofr : ∀ (b : Addr) (o : Obj) (fv : Array Value), s'.heap.get? b = some o → o.data = .fields fv → b ∉ frs (X.env :: X.outer) := fun b o fv eb db hm => by
    obtain ⟨_, o2, e2, n2⟩ := ff.mem hm
    have eo : o = o2 := Option.some.inj (eb.symm.trans e2)
    rw [← eo] at n2
    exact n2 _ db
  have lf : X.env.locals ∈ frs (X.env :: X.outer) := List.mem_filterMap.mpr ⟨X.env, List.mem_cons_self, hf⟩
  have fsf : ∀ b, b ∈ X.fs → b ∈ frs (X.env :: X.outer) := fun b hm => by
    obtain ⟨e1, h1, q1⟩ := List.mem_filterMap.mp hm
    exact List.mem_filterMap.mpr ⟨e1, List.mem_cons_of_mem _ h1, q1⟩
  have fx := nofr x ox va gx dx
  have ft := nofr t ot vt gt dt
  have far1 : ∀ b o, sI.heap.get? b = some o → b ≠ x ∧ b ≠ t := fun b o eb => by
    by_cases hb : b ∈ frs X.stack
    · rw [hs] at hb
      exact ⟨fun z => fx (by rw [← z]; exact hb), fun z => ft (by rw [← z]; exact hb)⟩
    · have q := nb b o eb hb
      refine ⟨fun z => ?_, fun z => ?_⟩
      · rw [z, bx] at q
        cases q
      · rw [z, bt] at q
        cases q
  refine ⟨t, ox, ot, va, vt, ⟨hz, dx, v1, ne, dt, v3, fun b o eb => ?_, fun p hp => far1 p.1 p.2 (J.pin p hp).1⟩, gx, gt, ht, fun z => fx (by rw [z]; exact lf), fun z => fx (fsf _ z), J2.pins_of fun p hp => ?_⟩
  · obtain ⟨o2, q⟩ := J.base.there b o eb (by rw [hex]; simp)
    exact far1 b o2 q
  · rcases List.mem_cons.mp hp with z | hp
    · rw [z]
      refine ⟨gx, na, fun z2 => fx ?_, fun z2 => fx (fsf _ z2), fun v z2 => ?_⟩
      · rw [show x = X.env.locals from z2]
        exact lf
      · have z3 : ox.data = .cell v := z2
        rw [dx] at z3
        cases z3
    rcases List.mem_cons.mp hp with z | hp
    · rw [z]
      refine ⟨gt, ht, fun z2 => ft ?_, fun z2 => ft (fsf _ z2), fun v z2 => ?_⟩
      · rw [show t = X.env.locals from z2]
        exact lf
      · have z3 : ot.data = .cell v := z2
        rw [dt] at z3
        cases z3
    · exact J2.pin p (List.mem_append_right _ hp)
/-- on it goes -/
theorem air_out {α : Type} {nm : String} {s6 : Shared} {x t : Addr} {ox ot : Obj} {va vt : Array Value} {fl cls : Value} {d : Option Addr} {Wout : WX} {Q : α → Shared → Prop} (hs : X.stack = X.env :: X.outer) (hf : X.env.frame = some X.env.locals)
    (a : Air X pins (Zc cls d) x t ox ot va vt fl) (tk : Takes X Wout) (J : Inv X ((x, ox) :: (t, ot) :: pins) σ H s6) (w : Wout cls d σ H) : wpAny (model X.prog X.w) X.A (PySem.passOn nm (.ref x) X.env : Sem α) Q X.xe s6 := by
  have px := J.pin (x, ox) (List.mem_append_right _ List.mem_cons_self)
  have pt := J.pin (t, ot) (List.mem_append_right _ (List.mem_cons_of_mem _ List.mem_cons_self))
  have gx : s6.heap.get? x = some ox := px.1
  have gt : s6.heap.get? t = some ot := pt.1
  have J0 : Inv X pins σ H s6 := J.pins_of fun p hp => J.pin p (List.mem_append_right _ (List.mem_cons_of_mem _ (List.mem_cons_of_mem _ hp)))
  obtain ⟨G, g1, g2⟩ := restrict s6.heap fun b => !(decide (b = x) || decide (b = t))
  have gin : ∀ b o, G.get? b = some o → s6.heap.get? b = some o ∧ b ≠ x ∧ b ≠ t := fun b o eb => by
    cases q : (!(decide (b = x) || decide (b = t))) with
    | false =>
      rw [g2 b q] at eb
      cases eb
    | true =>
      rw [g1 b q] at eb
      simp only [Bool.not_eq_true', Bool.or_eq_false_iff, decide_eq_false_iff_not] at q
      exact ⟨eb, q.1, q.2⟩
  have gof : ∀ b o, b ≠ x → b ≠ t → s6.heap.get? b = some o → G.get? b = some o := fun b o n1 n2 eb => by
    rw [g1 b (by simp [n1, n2])]
    exact eb
  have I6 : Inv X pins σ H { s6 with heap := G } := J0.less (fun b o eb => (gin b o eb).1) gof ⟨ox, va, gx, a.dx⟩ ⟨ot, vt, gt, a.dt⟩ px.2.1 pt.2.1 a.far a.farP
  have bin : ∀ b o, (PySem.W.hideAll G (frs X.stack)).get? b = some o → s6.heap.get? b = some o := fun b o eb => (gin b o (PySem.W.of_hideAll _ eb)).1
  have bno : ∀ b, (b = x ∨ b = t) → (PySem.W.hideAll G (frs X.stack)).get? b = none := fun b hb => by
    cases q : (PySem.W.hideAll G (frs X.stack)).get? b with
    | none => rfl
    | some o =>
      obtain ⟨_, n1, n2⟩ := gin b o (PySem.W.of_hideAll _ q)
      rcases hb with z | z
      · exact absurd z n1
      · exact absurd z n2
  have ff : s6.heap.FunFrames (PySem.W.hideAll G (frs X.stack)) (X.env :: X.outer) := by
    have f0 := funFrames_none (B := PySem.W.hideAll G (frs X.stack)) J0.stack fun b hb => PySem.W.hideAll_none _ hb
    rw [← hs]
    exact f0
  have tr : HandSPX.TracedZ s6.heap (PySem.W.hideAll G (frs X.stack)) x (Zc cls d) fl := ⟨ox, va, t, ot, vt, gx, a.z, a.dx, a.v1, bno t (.inr rfl), a.ne, gt, a.dt, a.v3⟩
  unfold PySem.passOn
  refine wpAny_bind (wpAny_field gx a.dx a.v1 ?_)
  rw [if_neg (show ¬ ((Value.ref t == Value.none) = true) from by simp)]
  have go : wpAny (model X.prog X.w) X.A (setFlight (.ref x) X.env.frame) (fun _ s7 => wpAny (model X.prog X.w) X.A (throw (.ref x) : Sem α) Q X.xe s7) X.xe s6 := by
    rw [hf]
    refine HandSPX.setFlight_anyZ (fr := some X.env.locals) bin ff tr fun h7 k1 k2 k3 k4 => wpAny_throw (tk _ _ ?_)
    refine ⟨x, PySem.W.hideAll G (frs X.stack), { s6 with heap := G }, pins, σ, H, cls, d, rfl, I6, fun b o eb hb => PySem.W.hideAll_get _ eb hb, ?_, .inr (.inr ?_), px.2.1, rfl, J0.bare, w⟩
    · exact Heap.UpToSlots.trans (Heap.UpToSlots.of_keeps fun b o eb => (gin b o eb).1) k4
    · exact ⟨k1, bno x (.inl rfl), by rw [← hs] at k2; exact k2, k3⟩
  first
    | exact wpAny_bind (wpAny_pure (wpAny_bind go))
    | exact wpAny_bind go
end

/-- the context of a clause's suite -/
abbrev suiteN (X : Cx) (x : Addr) (pn : List (Addr × Obj)) (xe : Value → Shared → Prop) : Cx := { X with A := X.A.mark (some (.ref x)), calm := false, pn := pn, xe := xe }
def bnd : Option Nat → Addr → L2.St → L2.St
  | none, _, σ => σ
  | some i, a, σ => σ.set i (some (.ref a))
def unb : Option Nat → L2.St → L2.St
  | none, σ => σ
  | some i, σ => σ.set i none
def endsN (i : Option Nat) (D : Ends) : Ends := { nx := fun σ H => D.nx (unb i σ) H, rt := D.rt, bk := fun σ H => D.bk (unb i σ) H, ct := fun σ H => D.ct (unb i σ) H }
def outN (i : Option Nat) (Wout : WX) : WX := fun cls d σ H => Wout cls d (unb i σ) H
/-- a clause: its class, its name's slot, its suite (told what is wished of what the suite raises) -/
abbrev Cl := Value × Option Nat × (Addr → Value → Option Addr → WX → TS)
/-- what the clauses wish of an exception -/
def wN (K : PySem.W.Frag) (Wout : WX) (D : Ends) : List Cl → WX
  | [] => Wout
  | (c, i, ts) :: r => fun cls d σ H => ∃ b, PySem.W.exmOne K cls c = some b ∧ (b = true → ∀ a, H a = none → ts a cls d (outN i Wout) (endsN i D) (bnd i a σ) H) ∧ (b = false → wN K Wout D r cls d σ H)

inductive ClsN (X : Cx) : List ExceptHandler → List Cl → Prop
  | nil : ClsN X [] []
  | as_ {x n : Str} {c : Value} {i : Nat} {ts : Addr → Value → Option Addr → WX → TS} {b₀ : Stmt} {suite : List Stmt} {np pos' : Pos} {hds : List ExceptHandler} {l : List Cl} (hc : Names X x c) (hi : X.N[i]? = some n) (hln : X.env.kindOf n = some .local)
      (hsu : ∀ (a : Addr) (oe : Obj) (cls : Value) (d : Option Addr) (pn : List (Addr × Obj)) (xe : Value → Shared → Prop) (W : WX), L2N.Zn cls d oe → (∃ vs, oe.data = .fields vs) → Takes (suiteN X a ((a, oe) :: pn) xe) W → HotC (suiteN X a ((a, oe) :: pn) xe) →
        PSs (suiteN X a ((a, oe) :: pn) xe) (b₀ :: suite) (ts a cls d W)) (r : ClsN X hds l) :
      ClsN X (.ExceptHandler (some (.Name x np)) (some n) (b₀ :: suite) pos' :: hds) ((c, some i, ts) :: l)
  | no {x : Str} {c : Value} {ts : Addr → Value → Option Addr → WX → TS} {b₀ : Stmt} {suite : List Stmt} {np pos' : Pos} {hds : List ExceptHandler} {l : List Cl} (hc : Names X x c)
      (hsu : ∀ (a : Addr) (oe : Obj) (cls : Value) (d : Option Addr) (pn : List (Addr × Obj)) (xe : Value → Shared → Prop) (W : WX), L2N.Zn cls d oe → (∃ vs, oe.data = .fields vs) → Takes (suiteN X a ((a, oe) :: pn) xe) W → HotC (suiteN X a ((a, oe) :: pn) xe) →
        PSs (suiteN X a ((a, oe) :: pn) xe) (b₀ :: suite) (ts a cls d W)) (r : ClsN X hds l) :
      ClsN X (.ExceptHandler (some (.Name x np)) none (b₀ :: suite) pos' :: hds) ((c, none, ts) :: l)
section
variable {X : Cx} {body : List Stmt} {h₀ : ExceptHandler} {hds : List ExceptHandler} {l : List Cl} {pos : Pos} {tb : WX → TS} {Wout : WX}
theorem ps_tryN {K : PySem.W.Frag} (hK : X.K = K) (hs : X.stack = X.env :: X.outer) (hf : X.env.frame = some X.env.locals) (hex : X.ex = []) (hN : X.N.Nodup) (hpa : ∀ hd : Option Value, PassesOwnAt (model X.prog X.w) (X.A.mark hd) X.A X.env X.xe) (tk : Takes X Wout)
    (hb : ∀ (W : WX) (pn : List (Addr × Obj)) (xe : Value → Shared → Prop), L2N.Takes (X.tr pn xe) W → PassesOwn (model X.prog X.w) X.A X.env xe → PSs (X.tr pn xe) body (tb W))
    (hh : ClsN X (h₀ :: hds) l) : PS X (.Try body (h₀ :: hds) [] [] pos) (fun D σ H => tb (wN K Wout D l) D σ H) := by
  subst hK
  refine ⟨fun pins s σ H D I h => ?_⟩
  have ok := I.ok
  have hfr : X.A.frames = some (X.env :: X.outer) := by rw [ok.frames, hs]
  refine wpAny_Try_except ?_
  refine wpAny_mono ((hb (wN X.K Wout D l) (X.pn ++ pins) (fun e s₁ => wpAny (model X.prog X.w) X.A (noteFrame e X.env) (fun _ s₂ => wpAny (model X.prog X.w) X.A (setFlight e none) (fun _ s₃ =>
    wpAny (model X.prog X.w) X.A (handleBy e X.env (h₀ :: hds)) (SP X pins D) X.xe s₃) X.xe s₂) X.xe s₁) (fun u s' xx => ?_) PassesOwn.looking).run [] s σ H D (I.toTry _) h) (fun f s1 hsp => ?_) (fun e s1 he => he)
  · obtain ⟨x, B, sI, pins', σ1, H1, cls, d, rfl, J', nb, up, sky, na, os, ag, w⟩ := xx
    have J : Inv X pins σ1 H1 sI := J'.ofTry ok
    have sky1 : Sky B (X.env :: X.outer) x (L2N.Zn cls d) X.env.locals s'.heap := by rw [← hs]; exact sky
    show wpAny (model X.prog X.w) X.A (noteFrame (.ref x) X.env) _ _ _
    refine L2N.Sky.land L2N.Zn.steady hfr hf sky1 fun h3 fl3 up3 => ?_
    obtain ⟨t, ox, ot, va, vt, air, gx, gt, ht, nL, nF, J3⟩ := air_in (s' := { s' with heap := h3 }) hs hf hex J nb (up.trans up3) fl3.1 fl3.2.1 fl3.2.2.1 fl3.2.2.2 na os ag
    have J2 : Inv X pins σ1 H1 { s' with heap := h3 } := J3.pins_of fun p hp => J3.pin p (List.mem_append_right _ (List.mem_cons_of_mem _ (List.mem_cons_of_mem _ hp)))
    have S3 := J2.suite gx air.dx na nL nF
    have zc : Zc cls d ox := air.z.zc
    have rest : ∀ {hds' : List ExceptHandler} {l' : List Cl}, ClsN X hds' l' → wN X.K Wout D l' cls d σ1 H1 → wpAny (model X.prog X.w) X.A (handleBy (.ref x) X.env hds') (SP X pins D) X.xe { s' with heap := h3 } := by
      have test : ∀ {y : Str} {np : Pos} {c : Value}, Names X y c → ∀ {Q : Value → Shared → Prop} {E : Value → Shared → Prop}, Q c { s' with heap := h3 } → wpAny (model X.prog X.w) (X.A.mark (some (.ref x))) (eval (.Name y np) X.env) Q E { s' with heap := h3 } := fun {y np c} hc {Q E} q => by
        obtain ⟨hg, hdbg, hm | ⟨hm, hv, hnn⟩⟩ := hc
        · exact ld_glob (X := X.suite x ((x, ox) :: (X.pn ++ pins))) S3 hg hm q hdbg
        · exact ld_blt (X := X.suite x ((x, ox) :: (X.pn ++ pins))) S3 hg hm hv q hnn hdbg
      have LT : PySem.W.Looks (model X.prog X.w) h3 (typeOf (.ref x)) cls := fun A Q E s k q => wpAny_typeOf_ref (k _ _ gx) (by rw [zc.1]; exact q)
      have tkS : ∀ {oe : Obj} {W : WX}, Takes X W → Takes (suiteX X x ((x, oe) :: (X.pn ++ pins))) W := fun {oe W} tk0 u2 s2 x2 => by
        obtain ⟨a2, B2, sI2, pn2, σ2, H2, cls2, d2, e2, I2, nb2, up2, sky2, na2, os2, ag2, w2⟩ := x2
        exact tk0 u2 s2 ⟨a2, B2, sI2, pins, σ2, H2, cls2, d2, e2, unsuiteX I2 ok, nb2, up2, sky2, na2, os2, ag2, w2⟩
      intro hds' l' hk
      induction hk with
      | nil =>
        intro w
        refine wpAny_handleBy_nil (air_out hs hf ⟨zc, air.dx, air.v1, air.ne, air.dt, air.v3, air.far, air.farP⟩ tk J3 w)
      | @as_ y n c i ts b₀ suite np pos' hds2 l2 hc hi hln hsu r ih =>
        intro w
        obtain ⟨b, hb1, hyes, hno⟩ := w
        refine wpAny_handleBy_cons (codeAny_handlers_test ?_) (by intro q; cases q)
        refine test hc ((PySem.W.exm_one (M := model X.prog X.w) J2.kIn LT hb1).here ?_)
        cases b with
        | false => exact ih (hno rfl)
        | true =>
          refine codeAny_handlers_suite_as ?_
          refine HandSPX.lands_againZ fl3 fun h4 fl4 up4 => ?_
          have J4 : Inv X pins σ1 H1 { s' with heap := h4 } := J.landed nb fl4.1 ((up.trans up3).trans up4) os ag
          obtain ⟨o4, v4, g4, z4, d4⟩ := fl4.there
          have S4 := J4.suite g4 d4 na nL nF
          have hloc : Loc X.env.scope n := .inl hln
          refine store_ok (X := X.suite x ((x, o4) :: (X.pn ++ pins))) (v := .ref x) S4 hN hi hloc rfl (fun s5 S5 => ?_) (.inr hln)
          have fin : ∀ {σ6 : L2.St} {H6 : Hp} {s6 : Shared} {Q : Shared → Prop}, Inv X pins σ6 H6 s6 → (∀ s7, Inv X pins (σ6.set i none) H6 s7 → Q s7) →
              wpAny (model X.prog X.w) X.A (do bindName X.env n .none; unbindBehindTheSuite X.env n pos') (fun _ s7 => Q s7) X.xe s6 := fun {σ6 H6 s6 Q} S6 hq => gone_ok S6 hN hi hln hq
          refine wpAny_mono ((hsu x o4 cls d (X.pn ++ pins) _ (outN (some i) Wout) z4 ⟨_, d4⟩ (fun u s6 x6 => ?_) ⟨(x, o4), ⟨rfl, v4, d4, z4.2.2 v4 d4⟩, List.mem_cons_self⟩).run [] s5 _ H1 _ (Inv.wish (X := suiteX X x ((x, o4) :: (X.pn ++ pins))) (suiteX_of S5) _) (hyes rfl x na)) (fun f s6 hsp => ?_) (fun _ _ z => z)
          · obtain ⟨a6, B6, sI6, pn6, σ6, H6, cls6, d6, rfl, I6, nb6, up6, sky6, na6, os6, ag6, w6⟩ := x6
            have I7 : Inv (suiteX X x ((x, o4) :: (X.pn ++ pins))) pn6 σ6 H6 sI6 := Inv.unwish I6
            have sky7 : Sky B6 (X.env :: X.outer) a6 (Zc cls6 d6) X.env.locals s6.heap := by rw [← hs]; exact sky6
            show wpAny (model X.prog X.w) (X.A.mark (some (.ref x))) (noteFrame (.ref a6) X.env) _ _ _
            have fin7 : ∀ h7, HandSPX.HeldZ B6 (X.env :: X.outer) a6 (Zc cls6 d6) X.env.locals h7 → s6.heap.UpToSlots h7 → wpAny (model X.prog X.w) (X.A.mark (some (.ref x))) (do bindName X.env n .none; unbindBehindTheSuite X.env n pos')
                (fun _ s₄ => wpAny (model X.prog X.w) (X.A.mark (some (.ref x))) (passOn "try.except-as" (.ref a6) X.env : Sem Flow) (fun _ _ => False) (notedBy (model X.prog X.w) (X.A.mark (some (.ref x))) X.env (cameBackBy (model X.prog X.w) X.A X.env X.xe)) s₄)
                (fun y s₄ => wpAny (model X.prog X.w) (X.A.mark (some (.ref x))) (setFlight (.ref a6) none) (fun _ s₅ => (notedBy (model X.prog X.w) (X.A.mark (some (.ref x))) X.env (cameBackBy (model X.prog X.w) X.A X.env X.xe)) y s₅) (notedBy (model X.prog X.w) (X.A.mark (some (.ref x))) X.env (cameBackBy (model X.prog X.w) X.A X.env X.xe)) s₄) { s6 with heap := h7 } := fun h7 fl7 up7 => by
              obtain ⟨t7, o7, ot7, va7, vt7, air7, gx7, gt7, ht7, nL7, nF7, J7⟩ := air_in (X := suiteX X x ((x, o4) :: (X.pn ++ pins))) (s' := { s6 with heap := h7 }) hs hf hex I7 nb6 (up6.trans up7) fl7.1 fl7.2.1 fl7.2.2.1 fl7.2.2.2 na6 os6 ag6
              refine gone_ok (X := suiteX X x ((x, o4) :: (X.pn ++ pins))) J7 hN hi hln fun s8 J8 => ?_
              exact wpAny_mono (air_out (X := suiteX X x ((x, o4) :: (X.pn ++ pins))) hs hf air7 (tkS tk) J8 w6) (fun _ _ z => z) (fun e8 s8 z => hpa (some (.ref x)) e8 s8 z)
            rcases sky7 with ⟨hB, hn, hl, oe, vs, he, hz, hd, h1⟩ | fl | hh
            · exact HandSPX.look_newZ Zc.steady hfr hl hf he hB hn hd h1 hz fin7
            · exact HandSPX.looks_onZ Zc.steady hfr hf fl fin7
            · exact HandSPX.againZ hf hh.2.2.2 (fin7 s6.heap hh (Heap.UpToSlots.refl _))
          · have back : ∀ {σ6 : L2.St} {H6 : Hp} {xe6 : Value → Shared → Prop}, Inv (suiteN X x ((x, o4) :: (X.pn ++ pins)) xe6) [] σ6 H6 s6 → Inv X pins σ6 H6 s6 := fun {σ6 H6 xe6} I6 => unsuiteX (Inv.unwish (X := suiteX X x ((x, o4) :: (X.pn ++ pins))) I6) ok
            cases f with
            | next =>
              obtain ⟨σ6, H6, S6, q6⟩ := hsp
              exact fin (back S6) fun s7 J7 => ⟨_, _, J7, q6⟩
            | brk =>
              obtain ⟨σ6, H6, S6, q6⟩ := hsp
              exact fin (back S6) fun s7 J7 => ⟨_, _, J7, q6⟩
            | cont =>
              obtain ⟨σ6, H6, S6, q6⟩ := hsp
              exact fin (back S6) fun s7 J7 => ⟨_, _, J7, q6⟩
            | ret u =>
              obtain ⟨v6, σ6, H6, S6, r6, q6⟩ := hsp
              exact fin (back S6) fun s7 J7 => ⟨_, _, _, J7, r6, q6⟩
      | @no y c ts b₀ suite np pos' hds2 l2 hc hsu r ih =>
        intro w
        obtain ⟨b, hb1, hyes, hno⟩ := w
        refine wpAny_handleBy_cons (codeAny_handlers_test ?_) (by intro q; cases q)
        refine test hc ((PySem.W.exm_one (M := model X.prog X.w) J2.kIn LT hb1).here ?_)
        cases b with
        | false => exact ih (hno rfl)
        | true =>
          refine codeAny_handlers_suite ?_
          refine HandSPX.lands_againZ fl3 fun h4 fl4 up4 => ?_
          have J4 : Inv X pins σ1 H1 { s' with heap := h4 } := J.landed nb fl4.1 ((up.trans up3).trans up4) os ag
          obtain ⟨o4, v4, g4, z4, d4⟩ := fl4.there
          have S4 := J4.suite g4 d4 na nL nF
          refine wpAny_mono ((hsu x o4 cls d (X.pn ++ pins) X.xe (outN none Wout) z4 ⟨_, d4⟩ (tkS tk) ⟨(x, o4), ⟨rfl, v4, d4, z4.2.2 v4 d4⟩, List.mem_cons_self⟩).run [] _ _ H1 _ (suiteX_of S4) (hyes rfl x na)) (fun f s6 hsp => ?_) (fun e6 s6 z => hpa (some (.ref x)) e6 s6 z)
          have back : ∀ {σ6 : L2.St} {H6 : Hp}, Inv (suiteX X x ((x, o4) :: (X.pn ++ pins))) [] σ6 H6 s6 → Inv X pins σ6 H6 s6 := fun {σ6 H6} I6 => unsuiteX I6 ok
          cases f with
          | next =>
            obtain ⟨σ6, H6, S6, q6⟩ := hsp
            exact ⟨_, _, back S6, q6⟩
          | brk =>
            obtain ⟨σ6, H6, S6, q6⟩ := hsp
            exact ⟨_, _, back S6, q6⟩
          | cont =>
            obtain ⟨σ6, H6, S6, q6⟩ := hsp
            exact ⟨_, _, back S6, q6⟩
          | ret u =>
            obtain ⟨v6, σ6, H6, S6, r6, q6⟩ := hsp
            exact ⟨_, _, _, back S6, r6, q6⟩
    exact rest hh w
  · cases f with
    | next =>
      obtain ⟨σ1, H1, J1, q⟩ := hsp
      exact wpAny_execs_nil ⟨σ1, H1, J1.ofTry ok, q⟩
    | brk =>
      obtain ⟨σ1, H1, J1, q⟩ := hsp
      exact ⟨σ1, H1, J1.ofTry ok, q⟩
    | cont =>
      obtain ⟨σ1, H1, J1, q⟩ := hsp
      exact ⟨σ1, H1, J1.ofTry ok, q⟩
    | ret u =>
      obtain ⟨v, σ1, H1, J1, r, q⟩ := hsp
      exact ⟨v, σ1, H1, J1.ofTry ok, r, q⟩
end

inductive ClsC (X : Cx) : List ExceptHandler → List Cl → Prop
  | nil : ClsC X [] []
  | as_ {x n : Str} {c : Value} {i : Nat} {ts : Addr → Value → Option Addr → WX → TS} {b₀ : Stmt} {suite : List Stmt} {np pos' : Pos} {hds : List ExceptHandler} {l : List Cl} (hc : Names X x c) (hi : X.N[i]? = some n) (hln : X.env.kindOf n = some .local)
      (hsu : ∀ (a : Addr) (oe : Obj) (cls : Value) (d : Option Addr) (pn : List (Addr × Obj)) (xe : Value → Shared → Prop) (W : WX), Zc cls d oe → (∃ vs, oe.data = .fields vs) → Takes (suiteN X a ((a, oe) :: pn) xe) W →
        PSs (suiteN X a ((a, oe) :: pn) xe) (b₀ :: suite) (ts a cls d W)) (r : ClsC X hds l) :
      ClsC X (.ExceptHandler (some (.Name x np)) (some n) (b₀ :: suite) pos' :: hds) ((c, some i, ts) :: l)
  | no {x : Str} {c : Value} {ts : Addr → Value → Option Addr → WX → TS} {b₀ : Stmt} {suite : List Stmt} {np pos' : Pos} {hds : List ExceptHandler} {l : List Cl} (hc : Names X x c)
      (hsu : ∀ (a : Addr) (oe : Obj) (cls : Value) (d : Option Addr) (pn : List (Addr × Obj)) (xe : Value → Shared → Prop) (W : WX), Zc cls d oe → (∃ vs, oe.data = .fields vs) → Takes (suiteN X a ((a, oe) :: pn) xe) W →
        PSs (suiteN X a ((a, oe) :: pn) xe) (b₀ :: suite) (ts a cls d W)) (r : ClsC X hds l) :
      ClsC X (.ExceptHandler (some (.Name x np)) none (b₀ :: suite) pos' :: hds) ((c, none, ts) :: l)
section
variable {X : Cx} {body : List Stmt} {h₀ : ExceptHandler} {hds : List ExceptHandler} {l : List Cl} {pos : Pos} {tb : WX → TS} {Wout : WX}
theorem ps_tryC {K : PySem.W.Frag} (hK : X.K = K) (hs : X.stack = X.env :: X.outer) (hf : X.env.frame = some X.env.locals) (hex : X.ex = []) (hN : X.N.Nodup) (hpa : ∀ hd : Option Value, PassesOwnAt (model X.prog X.w) (X.A.mark hd) X.A X.env X.xe) (tk : Takes X Wout)
    (hb : ∀ (W : WX) (pn : List (Addr × Obj)) (xe : Value → Shared → Prop), L2.Takes (X.tr pn xe) W → PassesOwn (model X.prog X.w) X.A X.env xe → PSs (X.tr pn xe) body (tb W))
    (hh : ClsC X (h₀ :: hds) l) : PS X (.Try body (h₀ :: hds) [] [] pos) (fun D σ H => tb (wN K Wout D l) D σ H) := by
  subst hK
  refine ⟨fun pins s σ H D I h => ?_⟩
  have ok := I.ok
  have hfr : X.A.frames = some (X.env :: X.outer) := by rw [ok.frames, hs]
  refine wpAny_Try_except ?_
  refine wpAny_mono ((hb (wN X.K Wout D l) (X.pn ++ pins) (fun e s₁ => wpAny (model X.prog X.w) X.A (noteFrame e X.env) (fun _ s₂ => wpAny (model X.prog X.w) X.A (setFlight e none) (fun _ s₃ =>
    wpAny (model X.prog X.w) X.A (handleBy e X.env (h₀ :: hds)) (SP X pins D) X.xe s₃) X.xe s₂) X.xe s₁) (fun u s' xx => ?_) PassesOwn.looking).run [] s σ H D (I.toTry _) h) (fun f s1 hsp => ?_) (fun e s1 he => he)
  · obtain ⟨x, B, sI, pins', σ1, H1, cls, d, rfl, J', nb, up, sky, na, os, ag, w⟩ := xx
    have J : Inv X pins σ1 H1 sI := J'.ofTry ok
    have sky1 : Sky B (X.env :: X.outer) x (Zc cls d) X.env.locals s'.heap := by rw [← hs]; exact sky
    show wpAny (model X.prog X.w) X.A (noteFrame (.ref x) X.env) _ _ _
    refine L2.Sky.land Zc.steady hfr hf sky1 fun h3 fl3 up3 => ?_
    obtain ⟨t, ox, ot, va, vt, air, gx, gt, ht, nL, nF, J3⟩ := air_in (s' := { s' with heap := h3 }) hs hf hex J nb (up.trans up3) fl3.1 fl3.2.1 fl3.2.2.1 fl3.2.2.2 na os ag
    have J2 : Inv X pins σ1 H1 { s' with heap := h3 } := J3.pins_of fun p hp => J3.pin p (List.mem_append_right _ (List.mem_cons_of_mem _ (List.mem_cons_of_mem _ hp)))
    have S3 := J2.suite gx air.dx na nL nF
    have zc : Zc cls d ox := air.z
    have rest : ∀ {hds' : List ExceptHandler} {l' : List Cl}, ClsC X hds' l' → wN X.K Wout D l' cls d σ1 H1 → wpAny (model X.prog X.w) X.A (handleBy (.ref x) X.env hds') (SP X pins D) X.xe { s' with heap := h3 } := by
      have test : ∀ {y : Str} {np : Pos} {c : Value}, Names X y c → ∀ {Q : Value → Shared → Prop} {E : Value → Shared → Prop}, Q c { s' with heap := h3 } → wpAny (model X.prog X.w) (X.A.mark (some (.ref x))) (eval (.Name y np) X.env) Q E { s' with heap := h3 } := fun {y np c} hc {Q E} q => by
        obtain ⟨hg, hdbg, hm | ⟨hm, hv, hnn⟩⟩ := hc
        · exact ld_glob (X := X.suite x ((x, ox) :: (X.pn ++ pins))) S3 hg hm q hdbg
        · exact ld_blt (X := X.suite x ((x, ox) :: (X.pn ++ pins))) S3 hg hm hv q hnn hdbg
      have LT : PySem.W.Looks (model X.prog X.w) h3 (typeOf (.ref x)) cls := fun A Q E s k q => wpAny_typeOf_ref (k _ _ gx) (by rw [zc.1]; exact q)
      have tkS : ∀ {oe : Obj} {W : WX}, Takes X W → Takes (suiteX X x ((x, oe) :: (X.pn ++ pins))) W := fun {oe W} tk0 u2 s2 x2 => by
        obtain ⟨a2, B2, sI2, pn2, σ2, H2, cls2, d2, e2, I2, nb2, up2, sky2, na2, os2, ag2, w2⟩ := x2
        exact tk0 u2 s2 ⟨a2, B2, sI2, pins, σ2, H2, cls2, d2, e2, unsuiteX I2 ok, nb2, up2, sky2, na2, os2, ag2, w2⟩
      intro hds' l' hk
      induction hk with
      | nil =>
        intro w
        refine wpAny_handleBy_nil (air_out hs hf ⟨zc, air.dx, air.v1, air.ne, air.dt, air.v3, air.far, air.farP⟩ tk J3 w)
      | @as_ y n c i ts b₀ suite np pos' hds2 l2 hc hi hln hsu r ih =>
        intro w
        obtain ⟨b, hb1, hyes, hno⟩ := w
        refine wpAny_handleBy_cons (codeAny_handlers_test ?_) (by intro q; cases q)
        refine test hc ((PySem.W.exm_one (M := model X.prog X.w) J2.kIn LT hb1).here ?_)
        cases b with
        | false => exact ih (hno rfl)
        | true =>
          refine codeAny_handlers_suite_as ?_
          refine HandSPX.lands_againZ fl3 fun h4 fl4 up4 => ?_
          have J4 : Inv X pins σ1 H1 { s' with heap := h4 } := J.landed nb fl4.1 ((up.trans up3).trans up4) os ag
          obtain ⟨o4, v4, g4, z4, d4⟩ := fl4.there
          have S4 := J4.suite g4 d4 na nL nF
          have hloc : Loc X.env.scope n := .inl hln
          refine store_ok (X := X.suite x ((x, o4) :: (X.pn ++ pins))) (v := .ref x) S4 hN hi hloc rfl (fun s5 S5 => ?_) (.inr hln)
          have fin : ∀ {σ6 : L2.St} {H6 : Hp} {s6 : Shared} {Q : Shared → Prop}, Inv X pins σ6 H6 s6 → (∀ s7, Inv X pins (σ6.set i none) H6 s7 → Q s7) →
              wpAny (model X.prog X.w) X.A (do bindName X.env n .none; unbindBehindTheSuite X.env n pos') (fun _ s7 => Q s7) X.xe s6 := fun {σ6 H6 s6 Q} S6 hq => gone_ok S6 hN hi hln hq
          refine wpAny_mono ((hsu x o4 cls d (X.pn ++ pins) _ (outN (some i) Wout) z4 ⟨_, d4⟩ (fun u s6 x6 => ?_)).run [] s5 _ H1 _ (Inv.wish (X := suiteX X x ((x, o4) :: (X.pn ++ pins))) (suiteX_of S5) _) (hyes rfl x na)) (fun f s6 hsp => ?_) (fun _ _ z => z)
          · obtain ⟨a6, B6, sI6, pn6, σ6, H6, cls6, d6, rfl, I6, nb6, up6, sky6, na6, os6, ag6, w6⟩ := x6
            have I7 : Inv (suiteX X x ((x, o4) :: (X.pn ++ pins))) pn6 σ6 H6 sI6 := Inv.unwish I6
            have sky7 : Sky B6 (X.env :: X.outer) a6 (Zc cls6 d6) X.env.locals s6.heap := by rw [← hs]; exact sky6
            show wpAny (model X.prog X.w) (X.A.mark (some (.ref x))) (noteFrame (.ref a6) X.env) _ _ _
            have fin7 : ∀ h7, HandSPX.HeldZ B6 (X.env :: X.outer) a6 (Zc cls6 d6) X.env.locals h7 → s6.heap.UpToSlots h7 → wpAny (model X.prog X.w) (X.A.mark (some (.ref x))) (do bindName X.env n .none; unbindBehindTheSuite X.env n pos')
                (fun _ s₄ => wpAny (model X.prog X.w) (X.A.mark (some (.ref x))) (passOn "try.except-as" (.ref a6) X.env : Sem Flow) (fun _ _ => False) (notedBy (model X.prog X.w) (X.A.mark (some (.ref x))) X.env (cameBackBy (model X.prog X.w) X.A X.env X.xe)) s₄)
                (fun y s₄ => wpAny (model X.prog X.w) (X.A.mark (some (.ref x))) (setFlight (.ref a6) none) (fun _ s₅ => (notedBy (model X.prog X.w) (X.A.mark (some (.ref x))) X.env (cameBackBy (model X.prog X.w) X.A X.env X.xe)) y s₅) (notedBy (model X.prog X.w) (X.A.mark (some (.ref x))) X.env (cameBackBy (model X.prog X.w) X.A X.env X.xe)) s₄) { s6 with heap := h7 } := fun h7 fl7 up7 => by
              obtain ⟨t7, o7, ot7, va7, vt7, air7, gx7, gt7, ht7, nL7, nF7, J7⟩ := air_in (X := suiteX X x ((x, o4) :: (X.pn ++ pins))) (s' := { s6 with heap := h7 }) hs hf hex I7 nb6 (up6.trans up7) fl7.1 fl7.2.1 fl7.2.2.1 fl7.2.2.2 na6 os6 ag6
              refine gone_ok (X := suiteX X x ((x, o4) :: (X.pn ++ pins))) J7 hN hi hln fun s8 J8 => ?_
              exact wpAny_mono (air_out (X := suiteX X x ((x, o4) :: (X.pn ++ pins))) hs hf air7 (tkS tk) J8 w6) (fun _ _ z => z) (fun e8 s8 z => hpa (some (.ref x)) e8 s8 z)
            rcases sky7 with ⟨hB, hn, hl, oe, vs, he, hz, hd, h1⟩ | fl | hh
            · exact HandSPX.look_newZ Zc.steady hfr hl hf he hB hn hd h1 hz fin7
            · exact HandSPX.looks_onZ Zc.steady hfr hf fl fin7
            · exact HandSPX.againZ hf hh.2.2.2 (fin7 s6.heap hh (Heap.UpToSlots.refl _))
          · have back : ∀ {σ6 : L2.St} {H6 : Hp} {xe6 : Value → Shared → Prop}, Inv (suiteN X x ((x, o4) :: (X.pn ++ pins)) xe6) [] σ6 H6 s6 → Inv X pins σ6 H6 s6 := fun {σ6 H6 xe6} I6 => unsuiteX (Inv.unwish (X := suiteX X x ((x, o4) :: (X.pn ++ pins))) I6) ok
            cases f with
            | next =>
              obtain ⟨σ6, H6, S6, q6⟩ := hsp
              exact fin (back S6) fun s7 J7 => ⟨_, _, J7, q6⟩
            | brk =>
              obtain ⟨σ6, H6, S6, q6⟩ := hsp
              exact fin (back S6) fun s7 J7 => ⟨_, _, J7, q6⟩
            | cont =>
              obtain ⟨σ6, H6, S6, q6⟩ := hsp
              exact fin (back S6) fun s7 J7 => ⟨_, _, J7, q6⟩
            | ret u =>
              obtain ⟨v6, σ6, H6, S6, r6, q6⟩ := hsp
              exact fin (back S6) fun s7 J7 => ⟨_, _, _, J7, r6, q6⟩
      | @no y c ts b₀ suite np pos' hds2 l2 hc hsu r ih =>
        intro w
        obtain ⟨b, hb1, hyes, hno⟩ := w
        refine wpAny_handleBy_cons (codeAny_handlers_test ?_) (by intro q; cases q)
        refine test hc ((PySem.W.exm_one (M := model X.prog X.w) J2.kIn LT hb1).here ?_)
        cases b with
        | false => exact ih (hno rfl)
        | true =>
          refine codeAny_handlers_suite ?_
          refine HandSPX.lands_againZ fl3 fun h4 fl4 up4 => ?_
          have J4 : Inv X pins σ1 H1 { s' with heap := h4 } := J.landed nb fl4.1 ((up.trans up3).trans up4) os ag
          obtain ⟨o4, v4, g4, z4, d4⟩ := fl4.there
          have S4 := J4.suite g4 d4 na nL nF
          refine wpAny_mono ((hsu x o4 cls d (X.pn ++ pins) X.xe (outN none Wout) z4 ⟨_, d4⟩ (tkS tk)).run [] _ _ H1 _ (suiteX_of S4) (hyes rfl x na)) (fun f s6 hsp => ?_) (fun e6 s6 z => hpa (some (.ref x)) e6 s6 z)
          have back : ∀ {σ6 : L2.St} {H6 : Hp}, Inv (suiteX X x ((x, o4) :: (X.pn ++ pins))) [] σ6 H6 s6 → Inv X pins σ6 H6 s6 := fun {σ6 H6} I6 => unsuiteX I6 ok
          cases f with
          | next =>
            obtain ⟨σ6, H6, S6, q6⟩ := hsp
            exact ⟨_, _, back S6, q6⟩
          | brk =>
            obtain ⟨σ6, H6, S6, q6⟩ := hsp
            exact ⟨_, _, back S6, q6⟩
          | cont =>
            obtain ⟨σ6, H6, S6, q6⟩ := hsp
            exact ⟨_, _, back S6, q6⟩
          | ret u =>
            obtain ⟨v6, σ6, H6, S6, r6, q6⟩ := hsp
            exact ⟨_, _, _, back S6, r6, q6⟩
    exact rest hh w
  · cases f with
    | next =>
      obtain ⟨σ1, H1, J1, q⟩ := hsp
      exact wpAny_execs_nil ⟨σ1, H1, J1.ofTry ok, q⟩
    | brk =>
      obtain ⟨σ1, H1, J1, q⟩ := hsp
      exact ⟨σ1, H1, J1.ofTry ok, q⟩
    | cont =>
      obtain ⟨σ1, H1, J1, q⟩ := hsp
      exact ⟨σ1, H1, J1.ofTry ok, q⟩
    | ret u =>
      obtain ⟨v, σ1, H1, J1, r, q⟩ := hsp
      exact ⟨v, σ1, H1, J1.ofTry ok, r, q⟩
end

/-! ### raise .. from a name -/
def from1 (h : Heap) (a : Addr) (v : Value) : Heap := (h.update a (Obj.mapFields (·.setIfInBounds 3 v))).update a (Obj.mapFields (·.setIfInBounds 4 (.bool true)))
theorem from1_at {h : Heap} {a : Addr} {v : Value} {oe : Obj} {vs : Array Value} (ga : h.get? a = some oe) (de : oe.data = .fields vs) :
    (from1 h a v).get? a = some ((oe.mapFields (·.setIfInBounds 3 v)).mapFields (·.setIfInBounds 4 (.bool true))) ∧ ((oe.mapFields (·.setIfInBounds 3 v)).mapFields (·.setIfInBounds 4 (.bool true))).data = .fields ((vs.setIfInBounds 3 v).setIfInBounds 4 (.bool true)) := by
  have d3 := Obj.data_mapFields de (·.setIfInBounds 3 v)
  have g3 := Heap.get?_update_self (Obj.mapFields (·.setIfInBounds 3 v)) ga (Obj.isFreed_of_fields d3)
  have d4 := Obj.data_mapFields d3 (·.setIfInBounds 4 (.bool true))
  exact ⟨Heap.get?_update_self (Obj.mapFields (·.setIfInBounds 4 (.bool true))) g3 (Obj.isFreed_of_fields d4), d4⟩
theorem from1_other {h : Heap} {a b : Addr} {v : Value} (n : a ≠ b) : (from1 h a v).get? b = h.get? b := by
  unfold from1
  rw [Heap.get?_update_other _ _ n, Heap.get?_update_other _ _ n]
theorem raise_hotF {prog : Program} {w : World} {A : Around} {E : Value → Shared → Prop} {env : Env} {s : Shared} {x c : Sem Value} {Q : Flow → Shared → Prop} {x1 : Addr}
    (h : wpAny (model prog w) A x (fun v s₁ => ∃ a oe vs cls o1 v1 c1, v = .ref a ∧ s₁.heap.get? a = some oe ∧ oe.cls = cls ∧ oe.data = .fields vs ∧ vs[1]? = some .none ∧ 4 < vs.size ∧ x1 ≠ a ∧ HotAt A x1 s₁.heap ∧
      s₁.heap.get? x1 = some o1 ∧ o1.cls = c1 ∧ o1.data = .fields v1 ∧ PySem.W.Looks (model prog w) s₁.heap (isSubtype c1 (.type "BaseException")) true ∧ (∀ Q' : Value → Shared → Prop, Q' (.ref x1) s₁ → wpAny (model prog w) A c Q' E s₁) ∧
      PySem.W.Looks (model prog w) s₁.heap (isSubtype cls (.type "BaseException")) true ∧ PySem.W.Looks (model prog w) (from1 s₁.heap a (.ref x1)) (typeOf cls) (.type "type") ∧
      E (.ref a) { s₁ with heap := (from1 s₁.heap a (.ref x1)).update a (Obj.mapFields (·.setIfInBounds 2 (.ref x1))) }) E s) :
    wpAny (model prog w) A (raiseStmt env (some x) (some c)) Q E s := by
  unfold raiseStmt
  dsimp only
  refine wpAny_bind (wpAny_mono h (fun v s₁ h₁ => ?_) fun _ _ x => x)
  obtain ⟨a, oe, vs, cls, o1, v1, c1, rfl, ga, hcls, de, h1, hi, hne, hot, g1, hc1, d1, LB, hcs, L1, L3, hE⟩ := h₁
  have LT : PySem.W.Looks (model prog w) s₁.heap (typeOf (.ref a)) cls := fun A Q E s k q => wpAny_typeOf_ref (k _ _ ga) (by rw [hcls]; exact q)
  have LI : PySem.W.Looks (model prog w) s₁.heap (isInstance (.ref a) (.type "BaseException")) true := LT.andThen L1
  have LT1 : PySem.W.Looks (model prog w) s₁.heap (typeOf (.ref x1)) c1 := fun A Q E s k q => wpAny_typeOf_ref (k _ _ g1) (by rw [hc1]; exact q)
  have LI1 : PySem.W.Looks (model prog w) s₁.heap (isInstance (.ref x1) (.type "BaseException")) true := LT1.andThen LB
  have noT : ∀ {y : Addr} {oy : Obj} {vy : Array Value} {Q' : Bool → Shared → Prop}, s₁.heap.get? y = some oy → oy.data = .fields vy → Q' false s₁ → wpAny (model prog w) A (isType (.ref y)) Q' E s₁ := by
    intro y oy vy Q' gy dy hq
    simp only [isType, loadHead]
    refine wpAny_bind (wpAny_loadPart gy ?_)
    rw [dy]
    exact wpAny_pure hq
  have d3 := Obj.data_mapFields de (·.setIfInBounds 3 (.ref x1))
  have g3 := Heap.get?_update_self (Obj.mapFields (·.setIfInBounds 3 (.ref x1))) ga (Obj.isFreed_of_fields d3)
  obtain ⟨g4, d4⟩ := from1_at (v := .ref x1) ga de
  have z3 : 3 < vs.size := by omega
  have z4 : 4 < (vs.setIfInBounds 3 (Value.ref x1)).size := by rw [set_size]; exact hi
  have z2 : 2 < ((vs.setIfInBounds 3 (Value.ref x1)).setIfInBounds 4 (Value.bool true)).size := by rw [set_size, set_size]; omega
  have h14 : ((vs.setIfInBounds 3 (Value.ref x1)).setIfInBounds 4 (Value.bool true))[1]? = some Value.none := set_other (by decide) (set_other (by decide) h1)
  have cls4 : ((oe.mapFields (·.setIfInBounds 3 (.ref x1))).mapFields (·.setIfInBounds 4 (.bool true))).cls = cls := by rw [Obj.cls_mapFields, Obj.cls_mapFields]; exact hcls
  have LT4 : PySem.W.Looks (model prog w) (from1 s₁.heap a (.ref x1)) (typeOf (.ref a)) cls := fun A Q E s k q => wpAny_typeOf_ref (k _ _ g4) (by rw [cls4]; exact q)
  have noT4 : ∀ {Q' : Bool → Shared → Prop}, Q' false { s₁ with heap := from1 s₁.heap a (.ref x1) } → wpAny (model prog w) A (isType (.ref a)) Q' E { s₁ with heap := from1 s₁.heap a (.ref x1) } := by
    intro Q' hq
    simp only [isType, loadHead]
    refine wpAny_bind (wpAny_loadPart g4 ?_)
    rw [d4]
    exact wpAny_pure hq
  have hot4 : HotAt A x1 (from1 s₁.heap a (.ref x1)) := by
    obtain ⟨q1, o, w1, q2, q3, q4⟩ := hot
    exact ⟨q1, o, w1, by rw [from1_other (Ne.symm hne)]; exact q2, q3, q4⟩
  have rest : wpAny (model prog w) A (do
      let b ← isType (.ref a)
      if b = true then do
        let e ← holding [.ref a] (raisedFor (.ref a) (.ref a))
        setFlight e none
        raiseNew e
      else do
        let e ← raisedInstance (.ref a)
        setFlight e none
        raiseNew e : Sem Flow) Q E { s₁ with heap := from1 s₁.heap a (.ref x1) } := by
    refine wpAny_bind (noT4 ?_)
    simp only [Bool.false_eq_true, if_false]
    unfold raisedInstance
    refine wpAny_bind (wpAny_bind (LT4.here (wpAny_bind (L3.here ?_))))
    rw [if_pos (beq_self_eq_true _)]
    refine wpAny_pure ?_
    unfold setFlight
    refine wpAny_bind (wpAny_bind (wpAny_field g4 d4 h14 ?_))
    rw [if_neg (by decide)]
    refine wpAny_pure ?_
    exact raiseNew_hot hot4 hne g4 d4 z2 hE
  refine wpAny_bind (wpAny_holding (hcs _ (wpAny_bind (wpAny_pure ?_))))
  dsimp only
  refine wpAny_bind (wpAny_holding ?_)
  unfold excFromValue isExcClass
  refine wpAny_bind (wpAny_bind (noT ga de ?_))
  simp only [Bool.false_eq_true, if_false]
  refine wpAny_pure ?_
  simp only [Bool.false_eq_true, if_false]
  refine wpAny_bind (LI.here ?_)
  simp only [if_true]
  refine wpAny_pure ?_
  rw [if_neg (show ¬ ((Value.ref x1 == Value.none) = true) from by simp)]
  refine wpAny_bind (wpAny_holding (wpAny_bind (wpAny_bind (noT g1 d1 ?_))))
  simp only [Bool.false_eq_true, if_false]
  refine wpAny_pure ?_
  simp only [Bool.false_eq_true, if_false]
  refine wpAny_bind (LI1.here ?_)
  simp only [if_true]
  refine wpAny_pure (wpAny_bind (wpAny_setField ga de z3 (wpAny_bind (wpAny_setField g3 d3 z4 ?_))))
  first
  | exact rest
  | (dsimp only; exact rest)
  | (refine wpAny_pure ?_; exact rest)
/-- raise X(..) from n, in the suite of a clause 'as n': n is the exception that is handled -/
theorem ps_raiseHF {X : Cx} {K : PySem.W.Frag} (hK : X.K = K) {W : WX} {e : Expr} {t : L2.St → Hp → XK → Prop} {n : Str} {i : Nat} {np pos : Pos} {x1 : Addr} {o1 : Obj} {c1 : Value} (hp : (x1, o1) ∈ X.pn) (hh : X.A.handled = some (.ref x1)) (hd1 : ∃ v1 : Array Value, o1.data = .fields v1 ∧ v1[2]? = some .none) (hc1 : o1.cls = c1)
    (hi : X.N[i]? = some n) (hnl : X.env.scope.names.lookup n = some .local) (hdb : (n == ("__debug__" : Str)) = false) (tk : L2.Takes X W) (he : PMk5 X e t) :
    PS X (.Raise (some e) (some (.Name n np)) pos) (fun _ σ H => t σ H fun cls d H' => PySem.W.subIn K c1 (.type "BaseException") = some true ∧ W cls d σ H' ∧ σ[i]? = some (some (.ref x1))) := by
  subst hK
  refine ⟨fun pins s σ H D I h => ?_⟩
  obtain ⟨v1, e1, c2⟩ := hd1
  show wpAny _ _ (do standAt pos; raiseStmt X.env (some (do let v ← eval e X.env; standAt pos; pure v)) (some (do let v ← eval (.Name n np) X.env; standAt pos; pure v))) _ _ _
  refine wpAny_bind (wpAny_standAt (raise_hotF (x1 := x1) (wpAny_bind (wpAny_mono (he pins s σ H _ I h) (fun u s1 hu => wpAny_bind (wpAny_standAt (wpAny_pure ?_))) fun _ _ x => x))))
  obtain ⟨⟨a, oe, vs, sI, H', cls, d, rfl, J, k, hne, ga, hz, de, h1, na, os, ag, r, hB, q, qn⟩, h5⟩ := hu
  have zi : 4 < vs.size := h5 a oe vs rfl ga de
  have k4 : ∀ b u, sI.heap.get? b = some u → (from1 s1.heap a (.ref x1)).get? b = some u := fun b u z => by
    have nab : a ≠ b := fun y => by
      rw [← y, hne] at z
      cases z
    rw [from1_other nab]
    exact k b u z
  obtain ⟨r1, _⟩ := r (model X.prog X.w) s1.heap (J.kIn.keeps k)
  obtain ⟨_, r2⟩ := r (model X.prog X.w) (from1 s1.heap a (.ref x1)) (J.kIn.keeps k4)
  have P1 : sI.heap.get? x1 = some o1 := (J.pin (x1, o1) (List.mem_append_left _ hp)).1
  have nap : x1 ≠ a := fun z => by
    rw [z, hne] at P1
    cases P1
  obtain ⟨g4, d4⟩ := from1_at (v := .ref x1) ga de
  have h12 : (((vs.setIfInBounds 3 (Value.ref x1)).setIfInBounds 4 (Value.bool true)).setIfInBounds 2 (Value.ref x1))[1]? = some Value.none := set_other (by decide) (set_other (by decide) (set_other (by decide) h1))
  have nm : ∀ Q' : Value → Shared → Prop, Q' (.ref x1) s1 → wpAny (model X.prog X.w) X.A (do let v ← eval (.Name n np) X.env; standAt pos; pure v) Q' X.xe s1 := fun Q' hq => by
    obtain ⟨m, hn, hl⟩ := J.loc
    obtain ⟨u, ru, lk⟩ := hl i n _ hi qn (.inl hnl)
    obtain rfl : u = Value.ref x1 := ru
    have fin : wpAny (model X.prog X.w) X.A (eval (.Name n np) X.env) (fun v s2 => v = .ref x1 ∧ s2 = s1) X.xe s1 := by
      rcases lk with ⟨hk, hm⟩ | ⟨hk, c, hc, hcell⟩
      · exact wpAny_Name (wpAny_loadName_local J.ok.kind hk (hn.keeps k) hm ⟨rfl, rfl⟩) hdb
      · exfalso
        rcases hk with hk | hk
        · have := hk.symm.trans hnl
          cases this
        · have := hk.symm.trans hnl
          cases this
    exact wpAny_bind (wpAny_mono fin (fun v s2 ⟨ev, es⟩ => by subst ev es; exact wpAny_bind (wpAny_standAt (wpAny_pure hq))) fun _ _ z => z)
  refine ⟨a, oe, vs, cls, o1, v1, c1, rfl, ga, hz.1, de, h1, zi, nap, ⟨hh, o1, v1, k _ _ P1, e1, c2⟩, k _ _ P1, hc1, e1, PySem.W.looks_subIn (J.kIn.keeps k) hB, nm, r1, r2, tk _ _ (XE.new J (fun b u z => ?_) hne (Heap.get?_update_self _ g4 (Obj.isFreed_of_fields (Obj.data_mapFields d4 _)))
    ⟨by rw [Obj.cls_mapFields, Obj.cls_mapFields, Obj.cls_mapFields]; exact hz.1, by rw [HandSPX.dict_mapFields, HandSPX.dict_mapFields, HandSPX.dict_mapFields]; exact hz.2.1⟩ (Obj.data_mapFields d4 _) h12 na os ag q)⟩
  have nab : a ≠ b := fun y => by
    rw [← y, hne] at z
    cases z
  show ((from1 s1.heap a (.ref x1)).update a (Obj.mapFields (·.setIfInBounds 2 (.ref x1)))).get? b = some u
  rw [Heap.get?_update_other _ _ nab]
  exact k4 b u z
end PR
end

section
set_option maxHeartbeats 4000000
/-! with: a block that an own class guards; its __exit__ is told of the error -/
namespace PR
open PySem PySem.Spec PyProof.Rows PySem.W PySem.Calls
section
variable {prog : Program} {w : World} {A : Around} {E : Value → Shared → Prop} {s : Shared} {env : Env} {K : Frag} {x C fe fx : Addr} {ox : Obj} {od : Option Obj} {pos : Pos}
theorem with_core {bdy : Sem Flow} {Q : Flow → Shared → Prop} (X : K.In s.heap) (I : InstAt s.heap x ox C od) (he : findIn K (.ref C) "__enter__" = some (some (.ref fe))) (hfe : isFn K (.ref fe) = true) (hx : findIn K (.ref C) "__exit__" = some (some (.ref fx))) (hfx : isFn K (.ref fx) = true)
    (h : wpAny (model prog w) A (call (.ref fe) [.ref x]) (fun v s₂ => wpAny (model prog w) A bdy (fun f s₄ => wpAny (model prog w) A (call (.ref fx) [.ref x, .none, .none, .none]) (fun _ s₅ => Q f s₅) E s₄)
      (fun e s₄ => wpAny (model prog w) A (noteFrame e env) (fun _ s₅ => e ≠ byPass ∧ wpAny (model prog w) A (setFlight e none) (fun _ s₆ => wpAny (model prog w) A (typeOf e) (fun ty s₇ => wpAny (model prog w) A (tracebackOf e) (fun tb s₈ =>
        codeAny (model prog w) (A.mark (some e)) (.call (.ref fx) ⟨[.ref x, ty, e, tb], []⟩) (fun r s₉ => match r with
          | .ok (.ret .none) => wpAny (model prog w) A (PySem.passOn "with" e env : Sem Flow) Q E s₉
          | .ok _ => False
          | .error y => E y s₉) s₈) E s₇) E s₆) E s₅) E s₄) s₂) E s) :
    wpAny (model prog w) A (withItem false pos env (pure (.ref x)) none bdy) Q E s := by
  obtain ⟨cd, hcd, ae⟩ := kw_along he
  obtain ⟨cd', hcd', ax⟩ := kw_along hx
  cases hcd.symm.trans hcd'
  obtain ⟨hh, g, d, tt, os⟩ := s
  have L1 : Looks (model prog w) hh (specialOnItsLine (.ref x) "__enter__") (some (.ref fe), cd.mro) := kw_special X I hcd ae
  have L2 : Looks (model prog w) hh (specialOnItsLine (.ref x) "__exit__") (some (.ref fx), cd.mro) := kw_special X I hcd ax
  have L3 : Looks (model prog w) hh (bindSpecial (.ref fe) (.ref x)) (.ref fe, [.ref x]) := bind_fn X _ (beq_iff_eq.mp hfe)
  have L4 : Looks (model prog w) hh (bindSpecial (.ref fx) (.ref x)) (.ref fx, [.ref x]) := bind_fn X _ (beq_iff_eq.mp hfx)
  have L5 : Looks (model prog w) hh (aMethodOfAnotherBuiltinTypeStops (.ref fe) cd.mro) () := Looks.of_pure rfl
  have L6 : Looks (model prog w) hh (aMethodOfAnotherBuiltinTypeStops (.ref fx) cd.mro) () := Looks.of_pure rfl
  unfold withItem
  refine wpAny_bind (wpAny_pure ?_)
  refine wpAny_bind (wpAny_standAt ?_)
  simp only [Bool.false_eq_true, if_false]
  kw_lk
  refine wpAny_mono h (fun v s₂ h₂ => ?_) fun _ _ z => z
  kw_lk
  refine wpAny_attempt (kw_held ?_)
  show wpAny _ _ bdy _ _ _
  refine wpAny_mono h₂ (fun f s₄ h₄ => ?_) fun e s₄ h₄ => ?_
  · kw_lk
    refine wpAny_mono h₄ (fun _ s₅ h₅ => ?_) fun _ _ z => z
    kw_lk
    exact h₅
  · dsimp only
    refine wpAny_bind (wpAny_mono h₄ (fun _ s₅ h₅ => ?_) fun _ _ z => z)
    obtain ⟨nb, h₅⟩ := h₅
    refine wpAny_bind (wpAny_mono h₅ (fun _ s₆ h₆ => ?_) fun _ _ z => z)
    refine wpAny_bind (wpAny_standAt (wpAny_holding ?_))
    refine wpAny_bind (wpAny_mono h₆ (fun ty s₇ h₇ => ?_) fun _ _ z => z)
    refine wpAny_bind (wpAny_mono h₇ (fun tb s₈ h₈ => ?_) fun _ _ z => z)
    unfold withItem.marked
    refine wpAny_bind (wpAny_bind (wpAny_run (codeAny_mono h₈ fun r s₉ h₉ => ?_) (by intro z; exact nb (Option.some.inj z))))
    cases r with
    | error y => exact h₉
    | ok f =>
      cases f with
      | ret v =>
        cases v <;> first | exact h₉.elim | skip
        refine wpAny_pure (wpAny_bind (wpAny_pure (wpAny_bind (wpAny_pure ?_))))
        simp only [Bool.false_eq_true, if_false]
        exact h₉
      | _ => exact h₉.elim
end
end PR
namespace PR
open PySem PySem.Spec PyProof.Rows L2 L2H HotX
/-! ### a def called while an error is handled, whatever the error's context: its body raises nothing -/
structure FnM (P : Program) (w : World) (K : PySem.W.Frag) (mg : Str → Option Value) (base : Heap) (CX : CXT) (k : Nat) (f : Addr) (fd : FuncData) (ps : List Str) (sp : Sp) : Prop where
  len : ∀ vs H Q E, sp vs H Q E → vs.length = ps.length
  run : ∀ (A : Around) (outer : List Env) (s : Shared) (H : Hp) (args : Args) (us : List Value) (vs : List V) (Q : VK) (E : XK) (p : Addr × Obj), RoomH k A → PinOk outer H s p → Env0 P w K mg base A outer s H → BindsTo s fd args (ps.zip us) → Vals vs us → sp vs H Q E →
    codeAny (model P w) A (.call (.ref f) args) (CR CX outer P w H s Q E) s
theorem fn_ofM {CX : CXT} {P : Program} {w : World} {K : PySem.W.Frag} {mg : Str → Option Value} {base : Heap} {k : Nat} {f : Addr} {name qual : Str} {params : Arguments} {body : List Stmt} {scope : Scope} {dV kV doc pm cdv ct oc : Value} {an od : Option Addr}
    {osl : Array (Option Value)} {N ps : List Str} {sp : Sp} (lk : K.lookup f = some ⟨oc, od, .func (PySem.W.fnOf name qual params body scope dV kV doc pm an cdv ct), osl⟩) (hcd : PySem.W.codeIn K cdv qual = true) (S : FnScope N ps scope)
    (len : ∀ vs H Q E, sp vs H Q E → vs.length = ps.length)
    (hbody : ∀ (A : Around) (outer : List Env) (s : Shared) (H : Hp) (vs : List V) (Q : VK) (E : XK) (p : Addr × Obj), RoomH k (A.deeper (envOfC qual scope s.heap.objs.size f cdv)) → sp vs H Q E →
      ∃ t, PSs (cxH CX P w K mg base N qual scope f cdv A outer s H E p) body t ∧ t { nx := fun _ H' => Q .non H', rt := Q } (L2.start N vs) H) :
    FnM P w K mg base CX (k + 1) f (PySem.W.fnOf name qual params body scope dV kV doc pm an cdv ct) ps sp := by
  refine ⟨len, fun A outer s H args us vs Q E p hr hpin e0 hb r hsp => ?_⟩
  have hl := len _ _ _ _ hsp
  have KX : K.In s.heap := e0.mod.kin.keeps fun b o e => (e0.bs b o e).1
  have lim : s.heap.NoLimit := e0.mod.nolimit.keeps fun b o e => (e0.bs b o e).1
  have hk : ∀ y ∈ ps.zip us, scope.names.lookup y.1 = some .local ∨ (scope.names.lookup y.1 = some .cell ∧ ((cellsFrom (s.heap.objs.size + 1) scope.names []).lookup y.1).isSome = true) := fun ⟨n, v⟩ hy =>
    (S.par n (List.of_mem_zip hy).1).imp id fun q => ⟨q, PySem.W.cellsFrom_some _ _ _ (.inl q)⟩
  refine codeAny_call_function hr.depth (KX _ _ lk) rfl S.co S.gen rfl (PySem.W.codeRec_of KX hcd) (hb _ _ _ _ ?_)
  refine wpAny_newFunctionEnv_cells S.kind hk fun env he s1 x => ?_
  subst he
  refine ⟨lim.keeps x.toInCall.keep, codeAny_func ?_⟩
  obtain ⟨t, ht, hq⟩ := hbody A outer s H vs Q E p (hr.deeper _) hsp
  have I : Inv (cxH CX P w K mg base N qual scope f cdv A outer s H E p) [] (L2.start N vs) H s1 := inv_startH S hpin e0 hl r x
  have out : ∀ {s' : Shared} {σ' : L2.St} {H' : Hp} {v : V} {u : Value}, Inv (cxH CX P w K mg base N qual scope f cdv A outer s H E p) [] σ' H' s' → RelV v u → Q v H' → CE outer P w H s Q u s' :=
    fun {s' σ' H' v u} J rv q => ⟨v, H', J.os, J.bare, J.base, J.hok, rv, q⟩
  refine wpAny_mono (ht.run [] s1 (L2.start N vs) H _ I hq) (fun fl s' h2 => ?_) fun e s' h2 => h2
  cases fl with
  | ret u =>
    obtain ⟨v, σ', H', J, rv, q⟩ := h2
    exact out J rv q
  | next =>
    obtain ⟨σ', H', J, q⟩ := h2
    exact out (v := V.non) (u := Value.none) J rfl q
  | brk => exact False.elim h2.choose_spec.choose_spec.2
  | cont => exact False.elim h2.choose_spec.choose_spec.2
theorem _root_.L2.Fun.okM {CX : CXT} {P : Program} {w : World} {K : PySem.W.Frag} {mg : Str → Option Value} {base : Heap} {x qual : Str} {st : Stmt} {f : Addr} {fd : FuncData} {N ps : List Str} {k : Nat} {sp : Sp} (F : Fun K x qual st f fd) (S : FnScope N ps (defScope st)) (len : ∀ vs H Q E, sp vs H Q E → vs.length = ps.length)
    (hbody : ∀ (cdv : Value) (A : Around) (outer : List Env) (s : Shared) (H : Hp) (vs : List V) (Q : VK) (E : XK) (p : Addr × Obj), RoomH k (A.deeper (envOfC qual (defScope st) s.heap.objs.size f cdv)) → sp vs H Q E →
      ∃ t, PSs (cxH CX P w K mg base N qual (defScope st) f cdv A outer s H E p) (defBody st) t ∧ t { nx := fun _ H' => Q .non H', rt := Q } (L2.start N vs) H) : FnM P w K mg base CX (k + 1) f fd ps sp := by
  obtain ⟨oc, od, kV, doc, pm, an, cdv, ct, osl, rfl, lk, hcd⟩ := F.ex
  exact fn_ofM lk hcd S len fun A outer s H vs Q E p hr hsp => hbody cdv A outer s H vs Q E p hr hsp
/-! ### with -/
structure WithC (K : PySem.W.Frag) (C fe fx : Addr) : Prop where
  en : PySem.W.findIn K (.ref C) "__enter__" = some (some (.ref fe))
  enF : PySem.W.isFn K (.ref fe) = true
  ex : PySem.W.findIn K (.ref C) "__exit__" = some (some (.ref fx))
  exF : PySem.W.isFn K (.ref fx) = true
/-- what is wished of an error of the block: __exit__ is told of it, then on it goes -/
def wWith (spX : Sp) (a : Addr) (Wout : WX) : WX := fun cls d σ H => ∃ k, RelV k cls ∧ ∀ (e : Addr) (y : V), (y = .non ∨ ∃ t, y = .ref t) → spX [.ref a, k, .ref e, y] H (fun v H' => v = .non ∧ Wout cls d σ H') (fun _ _ _ => False)
def tWith (C : Addr) (spE spX : Sp) (te : TE) (tb : WX → TS) (Wout : WX) : TS := fun D σ H => te σ H fun x H1 => ∃ a dx fs, x = .ref a ∧ H1 a = some (.ins C dx fs) ∧ spE [.ref a] H1 (fun _ H2 => (∃ dx2 fs2, H2 a = some (.ins C dx2 fs2)) ∧
  tb (wWith spX a Wout) { nx := fun σ3 H3 => spX [.ref a, .non, .non, .non] H3 (fun _ H4 => D.nx σ3 H4) (fun _ _ _ => False), rt := fun _ _ => False, bk := fun _ _ => False, ct := fun _ _ => False } σ H2) (fun _ _ _ => False)
section
variable {X : Cx} {CX : CXT} {C fe fx : Addr} {k : Nat} {fde fdx : FuncData} {spE spX : Sp} {psE psX : List Str} {Wout : WX} {ctx : Expr} {body : List Stmt} {pos : Pos} {te : TE} {tb : WX → TS}
theorem ps_with (hs : X.stack = X.env :: X.outer) (hf : X.env.frame = some X.env.locals) (hex : X.ex = []) (tk : Takes X Wout) (hc : PE X ctx te) (hw : WithC X.K C fe fx)
    (Fe : FnOk X.prog X.w X.K X.mg X.base CX k fe fde psE spE) (Fx : FnOk X.prog X.w X.K X.mg X.base CX k fx fdx psX spX) (Fm : FnM X.prog X.w X.K X.mg X.base CX k fx fdx psX spX) (hr : Room k X.A) (be : Binds X.K fde psE []) (bx : Binds X.K fdx psX [])
    (hx : Passes CX X (fun _ _ _ => False))
    (hb : ∀ (W : WX) (pn : List (Addr × Obj)) (xe : Value → Shared → Prop), Takes (X.tr pn xe) W → PassesOwn (model X.prog X.w) X.A X.env xe → (∀ hd : Option Value, PassesOwnAt (model X.prog X.w) (X.A.mark hd) X.A X.env xe) → PSs (X.tr pn xe) body (tb W)) :
    PS X (.With [⟨ctx, none⟩] body pos) (tWith C spE spX te tb Wout) := by
  refine ⟨fun pins s σ H D I h => ?_⟩
  have ok := I.ok
  have hfr : X.A.frames = some (X.env :: X.outer) := by rw [ok.frames, hs]
  refine PySem.W.kw_exec0 (thn (hc.run pins s σ H _ I h) fun u s1 ⟨x, H1, I1, rx, a, dx, fs, ex, ea, q1⟩ => ?_)
  subst ex
  obtain rfl : u = Value.ref a := rx
  obtain ⟨mA, O, _, _, _, _⟩ := ins_get I1.hok ea
  obtain ⟨od, Jn, _⟩ := O.look
  unfold PySem.W.KwIn
  have noE : ∀ {pins' : List (Addr × Obj)} {σ' : L2.St} {H' : Hp} {s' : Shared} {e : Value} {s'' : Shared}, Inv X pins' σ' H' s' → CX X.stack H' s' (fun _ _ _ => False) e s'' → X.xe e s'' := fun {pins' σ' H' s' e s''} I' c => hx pins' σ' H' s' e s'' I' c
  refine with_core (K := X.K) I1.kIn Jn hw.en hw.enF hw.ex hw.exF ?_
  have q1' : spE ([V.ref a] ++ []) H1 (fun _ H2 => (∃ dx2 fs2, H2 a = some (.ins C dx2 fs2)) ∧ tb (wWith spX a Wout) { nx := fun σ3 H3 => spX [.ref a, .non, .non, .non] H3 (fun _ H4 => D.nx σ3 H4) (fun _ _ _ => False), rt := fun _ _ => False, bk := fun _ _ => False, ct := fun _ _ => False } σ H2) (fun _ _ _ => False) := q1
  refine wpAny_mono (run_fn Fe hr be (dvs := []) .nil hx I1 (us := [.ref a]) (.cons (show RelV (V.ref a) (.ref a) from rfl) .nil) q1') (fun v s2 h2 => ?_) fun _ _ z => z
  obtain ⟨_, H2, I2, _, ⟨dx2, fs2, ea2⟩, q2⟩ := h2
  refine wpAny_mono ((hb (wWith spX a Wout) (X.pn ++ pins) (fun e s₁ => wpAny (model X.prog X.w) X.A (noteFrame e X.env) (fun _ s₂ => e ≠ byPass ∧ wpAny (model X.prog X.w) X.A (setFlight e none) (fun _ s₆ => wpAny (model X.prog X.w) X.A (typeOf e) (fun ty s₇ => wpAny (model X.prog X.w) X.A (tracebackOf e) (fun t s₈ =>
        codeAny (model X.prog X.w) (X.A.mark (some e)) (.call (.ref fx) ⟨[.ref a, ty, e, t], []⟩) (fun r s₉ => match r with
          | .ok (.ret .none) => wpAny (model X.prog X.w) X.A (PySem.passOn "with" e X.env : Sem Flow) (SP X pins D) X.xe s₉
          | .ok _ => False
          | .error y => X.xe y s₉) s₈) X.xe s₇) X.xe s₆) X.xe s₂) X.xe s₁)
      (fun u s' xx => ?_) PassesOwn.looking (fun hd => PassesOwnAt.looking)).run [] s2 σ H2 _ (I2.toTry _) q2) (fun f s3 h3 => ?_) fun e s3 h3 => h3
  · obtain ⟨x, B, sI, pins', σ3, H3, cls, d, rfl, J', nb, up, sky, na, os, ag, k0, rk, w⟩ := xx
    have J : Inv X pins σ3 H3 sI := J'.ofTry ok
    have sky1 : Sky B (X.env :: X.outer) x (Zc cls d) X.env.locals s'.heap := by rw [← hs]; exact sky
    show wpAny (model X.prog X.w) X.A (noteFrame (.ref x) X.env) _ _ _
    have land : ∀ h1, HandSPX.HeldZ B (X.env :: X.outer) x (Zc cls d) X.env.locals h1 → s'.heap.UpToSlots h1 → (Value.ref x ≠ byPass ∧ wpAny (model X.prog X.w) X.A (setFlight (.ref x) none) (fun _ s₆ => wpAny (model X.prog X.w) X.A (typeOf (.ref x)) (fun ty s₇ => wpAny (model X.prog X.w) X.A (tracebackOf (.ref x)) (fun t s₈ =>
        codeAny (model X.prog X.w) (X.A.mark (some (.ref x))) (.call (.ref fx) ⟨[.ref a, ty, .ref x, t], []⟩) (fun r s₉ => match r with
          | .ok (.ret .none) => wpAny (model X.prog X.w) X.A (PySem.passOn "with" (.ref x) X.env : Sem Flow) (SP X pins D) X.xe s₉
          | .ok _ => False
          | .error y => X.xe y s₉) s₈) X.xe s₇) X.xe s₆) X.xe { s' with heap := h1 }) := fun h1 hh1 up1 => by
      refine ⟨ref_ne_byPass x, HandSPX.landsZ hh1 fun h3 fl3 up3 => ?_⟩
      obtain ⟨t, ox, ot, va, vt, air, gx, gt, ht, nL, nF, J3⟩ := air_in (s' := { s' with heap := h3 }) hs hf hex J nb ((up.trans up1).trans up3) fl3.1 fl3.2.1 fl3.2.2.1 fl3.2.2.2 na os ag
      refine wpAny_typeOf_ref gx ?_
      rw [air.z.1]
      have hv1 : ∃ y, vt[1]? = some y := ⟨_, Array.getElem?_eq_getElem (by have := (Array.getElem?_eq_some_iff.mp air.v3).1; omega)⟩
      obtain ⟨y1, hy1⟩ := hv1
      have px := J3.pin (x, ox) (List.mem_append_right _ List.mem_cons_self)
      have hpin : PinOk X.stack H3 { s' with heap := h3 } (x, ox) := ⟨px.1, px.2.1, fun hm => (List.mem_cons.mp (J3.stkSub x hm)).elim px.2.2.1 px.2.2.2.1, px.2.2.2.2⟩
      have call_ : ∀ (y : V) (yv : Value), RelV y yv → (y = .non ∨ ∃ t, y = .ref t) → codeAny (model X.prog X.w) (X.A.mark (some (.ref x))) (.call (.ref fx) ⟨[.ref a, cls, .ref x, yv], []⟩) (fun r s₉ => match r with
          | .ok (.ret .none) => wpAny (model X.prog X.w) X.A (PySem.passOn "with" (.ref x) X.env : Sem Flow) (SP X pins D) X.xe s₉
          | .ok _ => False
          | .error y => X.xe y s₉) { s' with heap := h3 } := fun y yv ry hy => by
        have hsp := w x y hy
        have hl : ([Value.ref a, cls, .ref x, yv] ++ []).length = psX.length := by
          rw [← Fm.len _ _ _ _ hsp]
          rfl
        have bb := bx { s' with heap := h3 } [.ref a, cls, .ref x, yv] J3.kIn hl
        rw [List.append_nil] at bb
        refine codeAny_mono (Fm.run (X.A.mark (some (.ref x))) X.stack { s' with heap := h3 } H3 ⟨[.ref a, cls, .ref x, yv], []⟩ [.ref a, cls, .ref x, yv] [.ref a, k0, .ref x, y] _ (fun _ _ _ => False) (x, ox) (roomH_mark hr _) hpin
          ⟨J3.env0.frames, J3.env0.mod, J3.env0.bs, J3.env0.bsz, J3.env0.funs, J3.env0.frf, J3.env0.hok, J3.env0.bare⟩ bb (.cons (show RelV (V.ref a) (.ref a) from rfl) (.cons rk (.cons (show RelV (V.ref x) (.ref x) from rfl) (.cons ry .nil)))) hsp) fun r s9 hq => ?_
        cases r with
        | error er => exact noE J3 hq
        | ok fl =>
          cases fl with
          | ret z =>
            obtain ⟨v9, H9, I9, r9, e9, w9⟩ := J3.after hq
            subst e9
            obtain rfl : z = Value.none := r9
            exact air_out hs hf air tk I9 w9
          | next => exact False.elim hq
          | brk => exact False.elim hq
          | cont => exact False.elim hq
      show wpAny (model X.prog X.w) X.A (tracebackOf (.ref x)) _ _ _
      unfold tracebackOf
      refine wpAny_bind (wpAny_field gx air.dx air.v1 ?_)
      dsimp only
      refine wpAny_bind (wpAny_field gt air.dt hy1 ?_)
      split
      · exact wpAny_pure (call_ .non .none rfl (.inl rfl))
      · exact wpAny_pure (call_ (.ref t) (.ref t) rfl (.inr ⟨t, rfl⟩))
    rcases sky1 with ⟨hB, hn, hl, oe, vs, he, hz, hd, h1⟩ | fl | hh
    · exact HandSPX.look_newZ Zc.steady hfr hl hf he hB hn hd h1 hz land
    · exact HandSPX.looks_onZ Zc.steady hfr hf fl land
    · exact HandSPX.againZ hf hh.2.2.2 (land s'.heap hh (Heap.UpToSlots.refl _))
  · cases f with
    | next =>
      obtain ⟨σ3, H3, J3, q3⟩ := h3
      have I3 : Inv X pins σ3 H3 s3 := J3.ofTry ok
      refine wpAny_mono (run_fn Fx hr bx (dvs := []) .nil hx I3 (us := [.ref a, .none, .none, .none]) (.cons (show RelV (V.ref a) (.ref a) from rfl) (.cons (show RelV V.non .none from rfl) (.cons (show RelV V.non .none from rfl) (.cons (show RelV V.non .none from rfl) .nil)))) (by rw [List.append_nil]; exact q3)) (fun v s4 h4 => ?_) fun _ _ z => z
      obtain ⟨_, H4, I4, _, q4⟩ := h4
      exact ⟨σ3, H4, I4, q4⟩
    | ret u => exact False.elim h3.choose_spec.choose_spec.choose_spec.2.2
    | brk => exact False.elim h3.choose_spec.choose_spec.2
    | cont => exact False.elim h3.choose_spec.choose_spec.2
end
end PR
end

section
set_option maxHeartbeats 4000000
/-! calls whose errors are wished for at the caller's slots -/
namespace PR
open PySem L2 PySem.Spec PyProof.Rows L2H HotX
def tMethP (C : Addr) (m : Str) (sp : Sp) (E : L2.St → XK) (ta : TE) (t : TA) : TE := fun σ H Q => ta σ H fun x H1 => ∃ a dx fs, x = .ref a ∧ H1 a = some (.ins C dx fs) ∧ fs.lookup m = none ∧ t σ H1 fun vs H2 => sp (x :: vs) H2 Q (E σ)
def tItemP (C : Addr) (sp : Sp) (E : L2.St → XK) (ta ti : TE) : TE := fun σ H Q => ta σ H fun x H1 => ti σ H1 fun y H2 => ∃ a dx fs, x = .ref a ∧ H2 a = some (.ins C dx fs) ∧ sp [.ref a, y] H2 Q (E σ)
section
variable {X : Cx} {CX : CXT} {k : Nat} {C f g : Addr} {m : Str} {sp : Sp} {E : L2.St → XK} {o e : Expr} {es : List Expr} {ta ti : TE} {t : TA} {apos pos : Pos} {pl : Sem Bool}
theorem run_fnRS {pins : List (Addr × Obj)} {σ : L2.St} {H : Hp} {s : Shared} {A : Around} {Ee : XK} {Q : VK} {us : List Value} {vs : List V} (F : FnR X.prog X.w X.K X.mg X.base CX k f sp) (hr : Room k A) (e0 : Env0 X.prog X.w X.K X.mg X.base A X.stack s H) (hx : PassesAt CX X σ Ee) (I : Inv X pins σ H s) (r : Vals vs us) (h : sp vs H Q Ee) :
    codeAny (model X.prog X.w) A (.call (.ref f) ⟨us, []⟩) (fun r s' => match r with | .ok (.ret v) => EP X pins σ Q v s' | .ok _ => False | .error e => X.xe e s') s := by
  refine codeAny_mono (F A X.stack s H us vs Q Ee hr e0 r h) fun r s' hq => ?_
  cases r with
  | error e => exact hx pins H s e s' I hq
  | ok fl =>
    cases fl with
    | ret u => exact I.after hq
    | next => exact False.elim hq
    | brk => exact False.elim hq
    | cont => exact False.elim hq
theorem pe_methP (he : PE X o ta) (c : Cls X.K C) (hm : Meth X.K C m f) (F : FnR X.prog X.w X.K X.mg X.base CX k f sp) (hr : Room k X.A) (hx : ∀ σ, PassesAt CX X σ (E σ)) (ha : PA X (e :: es) t)
    (hst : starEach (e :: es) X.env = (false, eval e X.env) :: starEach es X.env := by rfl) (hpl : (backTo pos (starEach es X.env)).any (·.1) = false := by rfl)
    (ht : eval (.Call (.Attribute o m apos) (e :: es) [] pos) X.env = (do
      let ov ← eval o X.env
      standAt apos.atName
      let (f, first) ← holding [ov] (getMethod ov m pl)
      callWith pos f first (backTo pos (starEach (e :: es) X.env)) (backToKw pos (keywordEach [] X.env))) := by rfl) :
    PE X (.Call (.Attribute o m apos) (e :: es) [] pos) (tMethP C m sp E ta t) := by
  refine ⟨fun pins s σ H Q I h => ?_⟩
  refine PySem.W.methodCall_KW (pl := pl) (thn (he.run pins s σ H _ I h) fun u s1 ⟨x, H1, I1, rx, a, dx, fs, ex, ea, l, q⟩ => ?_) ht
  subst ex
  obtain rfl : u = Value.ref a := rx
  refine getmeth_ok I1 ea c hm l (PySem.W.callWith_K (first := [.ref a]) (h₀ := X.base) I.ok.mod.kin hm.kp (thn (ha.run pos pins s1 σ H1 _ I1 q) fun us s2 ⟨vs, H2, I2, r, q2⟩ => ⟨I2.kIn, ?_⟩) hst hpl)
  exact wpAny_call (run_fnRS (us := .ref a :: us) (vs := .ref a :: vs) F hr I2.env0 (hx σ) I2 (.cons rfl r) q2)
theorem pe_itemP {b : Expr} (ha : PE X o ta) (hb : PE X b ti) (hc : ItemC X.K C g) (F : FnR X.prog X.w X.K X.mg X.base CX k g sp) (hr : Room (k + 1) X.A) (hx : ∀ σ, PassesAt CX X σ (E σ))
    (hs : ∀ x i, subscripted b true (.ref x) i = runValue (.builtin "lifetime.subscript" ⟨[.ref x, i], []⟩)) : PE X (.Subscript o b pos) (tItemP C sp E ta ti) := by
  refine ⟨fun pins s σ H Q I h => ?_⟩
  refine Subscript_ (thn (ha.run pins s σ H _ I h) fun v s1 ⟨x, H1, I1, rx, q1⟩ => thn (hb.run pins s1 σ H1 _ I1 q1) fun u s2 ⟨y, H2, I2, ry, a, dx, fs, ex, eo, q2⟩ => ?_)
  subst ex
  obtain rfl : v = Value.ref a := rx
  obtain ⟨mA, O, _, _, _, _⟩ := ins_get I2.hok eo
  obtain ⟨od, J, _⟩ := O.look
  obtain ⟨m, fr⟩ := I2.fr
  refine PySem.W.sub_K fr I2.ok.mod.kin J hc.at_ hc.fnI hc.fn ?_ (hs _ _)
  exact wpAny_call (run_fnRS (us := [.ref a, u]) (vs := [.ref a, y]) F hr.in1 I2.env0.in1 (hx σ) I2 (.cons rfl (.cons ry .nil)) q2)
end
theorem _root_.L2.Fun.okH {CX : CXT} {P : Program} {w : World} {K : PySem.W.Frag} {mg : Str → Option Value} {base : Heap} {x qual : Str} {st : Stmt} {f : Addr} {fd : FuncData} {N ps : List Str} {k : Nat} {sp : Sp} (F : Fun K x qual st f fd) (S : FnScope N ps (defScope st)) (len : ∀ vs H Q E, sp vs H Q E → vs.length = ps.length)
    (hbody : ∀ (cdv : Value) (A : Around) (outer : List Env) (s : Shared) (H : Hp) (vs : List V) (Q : VK) (E : XK) (p : Addr × Obj), Hot1 A p → RoomH k (A.deeper (envOfC qual (defScope st) s.heap.objs.size f cdv)) → sp vs H Q E →
      ∃ t, PSs (cxH CX P w K mg base N qual (defScope st) f cdv A outer s H E p) (defBody st) t ∧ t { nx := fun _ H' => Q .non H', rt := Q } (L2.start N vs) H) : FnH P w K mg base CX (k + 1) f fd ps sp := by
  obtain ⟨oc, od, kV, doc, pm, an, cdv, ct, osl, rfl, lk, hcd⟩ := F.ex
  exact fn_ofH lk hcd S len fun A outer s H vs Q E p hot hr hsp => hbody cdv A outer s H vs Q E p hot hr hsp
theorem passF {X : Cx} : Passes (L2.CX X.prog X.w) X (fun _ _ _ => False) := L2.passes_call (L2.takes_none5 (X := X)) fun _ _ _ _ h => h
theorem passX {P : Program} {w : World} {K : PySem.W.Frag} {mg : Str → Option Value} {base : Heap} {N : List Str} {qual : Str} {scope : Scope} {f : Addr} {cd : Value} {Ar : Around} {outer : List Env} {s : Shared} {H : Hp} {E : XK} : Passes (L2.CX P w) (cxOf (L2.CX P w) P w K mg base N qual scope f cd Ar outer s H E) E :=
  L2.passes_call (L2.takes_of rfl rfl rfl rfl) fun _ _ _ _ h => h
namespace Rd
variable {σ : L2.St} {H : Hp} {Q : VK} {C : Addr} {m : Str} {sp : Sp} {E : L2.St → XK} {ta ti : TE} {t : TA} {f : Str} {to te : TE} {K : PySem.W.Frag} {D : Ends}
theorem tforT {wi : TI} {g : TG} {tb : TS} (h : ∀ TB : TS, TB = tb → wi σ H fun J H1 => ∃ W : Nat → Nat → L2.St → Hp → Prop, (∃ m, W 0 m σ H1) ∧ ∀ i m σ H, W i m σ H →
  (J.stop i H ∧ D.nx σ H) ∨ (J.go i H ∧ ∃ N : L2.St → Hp → Prop, (∀ σ' H', N σ' H' → ∃ m', m' < m ∧ W (i + 1) m' σ' H') ∧ ∀ x H', J.yld i H x H' → g x σ H' fun σ2 H2 => TB { D with nx := N, ct := N, bk := D.nx } σ2 H2)) : tFor wi g tb D σ H := h tb rfl
theorem mkO {ta : TA} {Qx : XK} {dvs : List V} (h : ta σ H fun vs H1 => vs.length ≤ 1000 ∧ ∀ a, H1 a = none → sp (.ref a :: (vs ++ dvs)) (upd H1 a (exo a C none))
  (fun v H2 => v = .non ∧ ∃ (d : Addr) (fs : List (Str × V)), H2 a = some (exo a C (some d)) ∧ H2 d = some (exd d fs) ∧ H1 d = none ∧ Qx (.ref C) (some d) (upd (del H2 a) d (.xd fs))) (fun _ _ _ => False)) : tMkO C sp dvs ta σ H Qx := h
theorem withS {spE spX : Sp} {tb : WX → TS} {Wout : WX} (h : te σ H fun x H1 => ∃ a dx fs, x = .ref a ∧ H1 a = some (.ins C dx fs) ∧ spE [.ref a] H1 (fun _ H2 => (∃ dx2 fs2, H2 a = some (.ins C dx2 fs2)) ∧
  tb (wWith spX a Wout) { nx := fun σ3 H3 => spX [.ref a, .non, .non, .non] H3 (fun _ H4 => D.nx σ3 H4) (fun _ _ _ => False), rt := fun _ _ => False, bk := fun _ _ => False, ct := fun _ _ => False } σ H2) (fun _ _ _ => False)) : tWith C spE spX te tb Wout D σ H := h
theorem methP (h : ta σ H fun x H1 => ∃ a dx fs, x = .ref a ∧ H1 a = some (.ins C dx fs) ∧ fs.lookup m = none ∧ t σ H1 fun vs H2 => sp (x :: vs) H2 Q (E σ)) : tMethP C m sp E ta t σ H Q := h
theorem itemP (h : ta σ H fun x H1 => ti σ H1 fun y H2 => ∃ a dx fs, x = .ref a ∧ H2 a = some (.ins C dx fs) ∧ sp [.ref a, y] H2 Q (E σ)) : tItemP C sp E ta ti σ H Q := h
theorem ost (h : te σ H fun y H1 => to σ H1 fun x H2 => ∃ a C : Addr, x = .ref a ∧ OexC K C ∧ PySem.W.findIn K (.ref C) f = some none ∧
  ((H2 a = some (exo a C none) ∧ ∀ dx, H2 dx = none → dx ≠ a → D.nx σ (upd (upd H2 dx (exd dx [(f, y)])) a (exo a C (some dx)))) ∨
    ∃ (dx : Addr) (fs : List (Str × V)), H2 a = some (exo a C (some dx)) ∧ H2 dx = some (exd dx fs) ∧ fs.length ≤ 900 ∧ D.nx σ (upd H2 dx (exd dx ((f, y) :: fs))))) : tOst K f to te D σ H := h
end Rd
end PR
end

section
set_option maxHeartbeats 4000000
/-! enumerate over a tuple -/
namespace PySem.EX
open PySem PySem.Calls
section
variable {prog : Program} {w : World} {A : Around} {E : Value → Shared → Prop} {s : Shared}
theorem enum_newT (l : Addr) (items : Array Value) (n : Nat) (dct : Option Addr) (sl : Array (Option Value)) :
    Meets (Builtin.«enumerate.__new__» ⟨[.type "enumerate", .ref l], []⟩) (fun _ R s => s.heap.get? l = some { cls := .type "tuple", dict := dct, data := .seq items n, slots := sl } ∧
      R (.ok (.ret (.ref (s.heap.push { cls := .type "tuple_iterator", data := .fields #[.ref l, .int 0 0] }).objs.size)))
        { s with heap := (s.heap.push { cls := .type "tuple_iterator", data := .fields #[.ref l, .int 0 0] }).push { cls := .type "enumerate", data := .fields #[.none, .bool false, .ref s.heap.objs.size, rawInt 0, .none, .none] } }) :=
  .of_wp fun prog w A R s h => by
    obtain ⟨hp, g, d, tk, os⟩ := s
    obtain ⟨gl, h⟩ := h
    have hsub := sub_enumerate
    have hT : Heap.IsTuple (Shared.heap ⟨hp, g, d, tk, os⟩) l items := ⟨_, gl, rfl, n, rfl⟩
    wp_walk using AutoSeq1.wpAny_loadPart' gl
    refine wpAny_stack_any fun st => wpAny_pure ?_
    split
    · rename_i c _ _ _ _ _
      cases (c == Value.type "enumerate") <;> (wp_walk using AutoSeq1.wpAny_loadPart' gl, wpAny_pyIter_tuple hT; exact ⟨_, rfl, h⟩)
    · wp_walk using AutoSeq1.wpAny_loadPart' gl, wpAny_pyIter_tuple hT
      exact ⟨_, rfl, h⟩
theorem call_enumT {l : Addr} {items : Array Value} {Q : Value → Shared → Prop} (hL : s.heap.IsTuple l items)
    (h : ∀ h', IsEnum h' (s.heap.objs.size + 1) s.heap.objs.size 0 .none → h'.IsTupleIter s.heap.objs.size l 0 → (∀ b o, s.heap.get? b = some o → h'.get? b = some o) → Q (.ref (s.heap.objs.size + 1)) { s with heap := h' }) :
    wpAny (model prog w) A (call (.type "enumerate") [.ref l]) Q E s := by
  obtain ⟨⟨c, dct, dt, sl⟩, gl, hc, n, hd⟩ := hL
  have hc' : c = .type "tuple" := hc
  have hd' : dt = .seq items n := hd
  subst hc' hd'
  refine callType_new F.called_enumerate (by decide) (F.typeCall_enumerate_1 _) (F.newCall_enumerate_1 _) (fun obj => F.args_object_init_2 obj _) F.entry_enumerate_new (enum_newT l items n dct sl) ⟨gl, ?_⟩
  have hz : (s.heap.push { cls := .type "tuple_iterator", data := .fields #[.ref l, .int 0 0] }).objs.size = s.heap.objs.size + 1 := Heap.size_push ..
  show _ ∧ _
  rw [hz]
  have he : IsEnum ((s.heap.push { cls := .type "tuple_iterator", data := .fields #[.ref l, .int 0 0] }).push { cls := .type "enumerate", data := .fields #[.none, .bool false, .ref s.heap.objs.size, rawInt 0, .none, .none] })
      (s.heap.objs.size + 1) s.heap.objs.size 0 .none := by
    have q := Heap.get?_push_size (s.heap.push { cls := .type "tuple_iterator", data := .fields #[.ref l, .int 0 0] }) (o := { cls := .type "enumerate", data := .fields #[.none, .bool false, .ref s.heap.objs.size, rawInt 0, .none, .none] }) rfl
    rw [hz] at q
    exact q
  exact ⟨⟨_, he, rfl⟩, h _ he ⟨_, Heap.get?_push_of_some _ (Heap.get?_push_size _ rfl), rfl, rfl⟩ fun b o x => Heap.get?_push_of_some _ (Heap.get?_push_of_some _ x)⟩
end
end PySem.EX
namespace PR
open PySem L2 PySem.Spec PyProof.Rows PySem.EX
/-- the items of the tuple at a, each in a new pair -/
def IteT (K : PySem.W.Frag) (a : Addr) : It :=
  ⟨fun i H => ∃ (xs : List V) (x : V), SqT K H a xs ∧ xs[i]? = some x, fun i H v H' => ∃ T x, v = .ref T ∧ H T = none ∧ H' = upd H T (.tup [.int (i : Nat), x]) ∧ ∀ xs, SqT K H a xs → xs[i]? = some x, fun i H => ∃ xs : List V, SqT K H a xs ∧ xs.length = i⟩
theorem turn_enumT {P : Program} {w : World} {K : PySem.W.Frag} {elts : List Expr} {kk : Nat} {tpos : Pos} (a e it : Addr) :
    Turn P w K (.Tuple elts kk tpos) (IteT K a) [e, it] e (fun i h => (∃ old, IsEnum h e it ((i : Nat) : Int) old) ∧ h.IsTupleIter it a i ∧ e ≠ it) where
  mem := by simp
  obj := fun i h st b hb => by
    obtain ⟨⟨old, he⟩, ⟨o, ho, hc, hd⟩, _⟩ := st
    have e1 : b = e ∨ b = it := by simpa using hb
    rcases e1 with z | z
    · rw [z]
      exact ⟨_, he, fun v q => nomatch q⟩
    · rw [z]
      exact ⟨o, ho, fun v q => by rw [hd] at q; cases q⟩
  keep := fun i h h' st k => let ⟨⟨old, he⟩, hi, hne⟩ := st; ⟨⟨old, k e (by simp) _ he⟩, hi.at fun o q => k it (by simp) o q, hne⟩
  item := by
    intro X hP hw hK hc i pins s σ H E I hf st hg
    subst hP hw hK
    obtain ⟨⟨old, he⟩, hit, hne⟩ := st
    obtain ⟨xs, x, hq, hx⟩ := hg
    obtain ⟨its, rv, p, hz⟩ := I.tuple hq
    have hT : s.heap.IsTuple a its.toArray := p
    obtain ⟨u, hu, ru⟩ := rv.get hx
    have hel : e < s.heap.objs.size := Heap.lt_size he
    obtain ⟨oi, gi, ci, di⟩ := id hit
    have hil : it < s.heap.objs.size := Heap.lt_size gi
    obtain ⟨oa, ga, ca, na, da⟩ := id hT
    have nai : a ≠ it := fun z => by
      rw [z, gi] at ga
      cases ga
      rw [di] at da
      cases da
    have nae : e ≠ a := fun z => by
      have he2 := he
      unfold IsEnum at he2
      rw [z, ga] at he2
      cases he2
      cases da
    have hlt : i < its.toArray.size := by
      have := (List.getElem?_eq_some_iff.mp hu).1
      simpa using this
    refine wpAny_pyNext_enum_itemD (Draws.tuple (prog := X.prog) (w := X.w) (A := X.A.in1) (I.ok.hd hc) it a nai its.toArray) he ⟨hit, hT⟩ hlt hne (by simp [hne, nae]) fun x' h' tk hx' ho st' hTT hsz hk => ?_
    have ex : x' = u := by
      have h1 : its[i]? = some x' := by simpa using hx'
      rw [hu] at h1
      exact (Option.some.inj h1).symm
    subst ex
    refine ⟨_, rfl, wpAny_letOwnedTupleGo_enum (s := { s with heap := h', toks := tk + 1 }) ho fun h'' he' sb => ?_⟩
    have hT2 : h''.get? s.heap.objs.size = some { cls := .type "tuple", data := .seq #[.int i tk, x'] } := (sb.2 _ (Nat.ne_of_gt hel)).trans hTT
    have new : ObjOk X.prog X.w (upd H s.heap.objs.size (.tup [.int (i : Nat), x])) h'' s.heap.objs.size (.tup [.int (i : Nat), x]) :=
      ⟨by show 2 ≤ sizeLine; decide, [.int i tk, x'], .cons ⟨_, rfl⟩ (.cons ru .nil), ⟨_, hT2, rfl, _, rfl⟩⟩
    have I1 : Inv X pins σ (upd H s.heap.objs.size (.tup [.int (i : Nat), x])) { s with heap := h'', toks := tk + 1 } :=
      I.turnedNew (ch := [e, it]) (fun b ob hb q => (sb.2 b (fun z => hb (by simp [z]))).trans (hk b ob (fun z => hb (by simp [z])) (fun z => hb (by simp [z])) q)) hf (Nat.le_refl _) new
    refine ⟨.ref s.heap.objs.size, _, I1, rfl, ⟨_, x, rfl, I.hok.fresh (Nat.le_refl _), rfl, fun ys hy => by rw [I.tuple_inj hy hq]; exact hx⟩, ⟨⟨x', ?_⟩, st'.1.at fun o q => (sb.2 it (Ne.symm hne)).trans q, hne⟩, fun b hb => ?_⟩
    · have e1 : ((i + 1 : Nat) : Int) = (i : Int) + 1 := by omega
      rw [e1]
      exact he'
    · have hb' : b < s.heap.objs.size := by
        have e1 : b = e ∨ b = it := by simpa using hb
        rcases e1 with z | z
        · rw [z]; exact hel
        · rw [z]; exact hil
      rw [upd_ne (Nat.ne_of_lt hb')]
      exact (hf b hb).1
  done := by
    intro X hP hw hK hc i pins s σ H E I hf st hg
    subst hP hw hK
    obtain ⟨⟨old, he⟩, hit, hne⟩ := st
    obtain ⟨xs, hq, hx⟩ := hg
    obtain ⟨its, rv, p, hz⟩ := I.tuple hq
    have hT : s.heap.IsTuple a its.toArray := p
    obtain ⟨f0, f1, f2, f3, f4, f5⟩ := hf it (by simp)
    have hl := rv.length
    obtain ⟨oi, gi, ci, di⟩ := id hit
    obtain ⟨oa, ga, ca, na, da⟩ := id hT
    have nai : a ≠ it := fun z => by
      rw [z, gi] at ga
      cases ga
      rw [di] at da
      cases da
    have ei : i = its.toArray.size := by rw [List.size_toArray, ← hl, hx]
    rw [ei] at hit he
    exact wpAny_pyNext_enum_endD (Draws.tuple (prog := X.prog) (w := X.w) (A := X.A.in1) (I.ok.hd hc) it a nai its.toArray) he ⟨hit, hT⟩ fun h' eb => ⟨rfl, I.turned (t' := s.toks) (fun b o hb q => eb b o hb q) f0 f1 f3 f4 f5⟩
  self := fun A i s Q E st h => let ⟨⟨_, he⟩, _⟩ := st; wpAny_pyIter_enum he h
def iEnumT (K : PySem.W.Frag) (ta : TA) : TI := fun σ H R => ta σ H fun vs H1 => ∃ a xs, vs = [.ref a] ∧ SqT K H1 a xs ∧ R (IteT K a) H1
theorem pi_enumT {X : Cx} {e : Expr} {ta : TA} {p pos tpos : Pos} {elts : List Expr} {kk : Nat} (hg : Gl X "enumerate") (hm : X.mg "enumerate" = none) (ha : PA X [e] ta) (hs : starEach [e] X.env = [(false, eval e X.env)] := by rfl) :
    PI X (.Tuple elts kk tpos) (.Call (.Name "enumerate" p) [e] [] pos) (iEnumT X.K ta) := by
  refine ⟨fun pins s σ H R I h => ?_⟩
  refine Call_ (ld_blt I hg hm boot_enumerate (PyProof.Rows.callWith_type1 (thn (ha.run pos pins s σ H _ I h) fun us s1 ⟨vs, H1, I1, r1, q1⟩ => ?_) hs rfl))
  obtain ⟨a, xs, ex, hq, q⟩ := q1
  subst ex
  cases r1 with
  | cons r rr =>
    cases rr
    cases r
    obtain ⟨its, rv, p', hz⟩ := I1.tuple hq
    refine call_enumT (show s1.heap.IsTuple a its.toArray from p') fun h' he hit hk => wpAny_pyIter_enum he ?_
    have I2 : Inv X pins σ H1 { s1 with heap := h' } := I1.kept (t' := s1.toks) hk
    refine ⟨s1.heap.objs.size + 1, [s1.heap.objs.size + 1, s1.heap.objs.size], _, _, H1, rfl, I2, turn_enumT a (s1.heap.objs.size + 1) s1.heap.objs.size, ⟨⟨.none, he⟩, hit, Nat.succ_ne_self _⟩, fun b hb => ?_, q⟩
    have e' : b = s1.heap.objs.size + 1 ∨ b = s1.heap.objs.size := by simpa using hb
    have hle : s1.heap.objs.size ≤ b := by rcases e' with z | z <;> (rw [z]; first | exact Nat.le_refl _ | exact Nat.le_add_right _ _)
    exact I1.fpOk hle (I1.hok.fresh hle)
theorem walk_enumT {K : PySem.W.Frag} {a : Addr} {xs : List V} : Walk (IteT K a) xs.length (fun H => SqT K H a xs) (YPair (fun i => some (.int (i : Nat))) (fun i => xs[i]?)) := by
  refine ⟨fun i H hi hs => ⟨xs, xs[i], hs, by simp [hi]⟩, fun H hs => ⟨xs, hs, rfl⟩, fun i H v H' hi hs y => ?_⟩
  obtain ⟨T, x, e1, e2, e3, e4⟩ := y
  exact ⟨T, _, x, e1, e2, e3, rfl, e4 xs hs⟩
theorem Kx.pi_enumT {X : Cx} {K : PySem.W.Frag} {e : Expr} {ta : TA} {p pos tpos : Pos} {elts : List Expr} {kk : Nat} (hK : X.K = K) (hg : Gl X "enumerate") (hm : X.mg "enumerate" = none) (ha : PA X [e] ta) (hs : starEach [e] X.env = [(false, eval e X.env)] := by rfl) :
    PI X (.Tuple elts kk tpos) (.Call (.Name "enumerate" p) [e] [] pos) (iEnumT K ta) := by subst hK; exact PR.pi_enumT hg hm ha hs
theorem Rd.enumT {K : PySem.W.Frag} {σ : L2.St} {H : Hp} {ta : TA} {R : It → Hp → Prop} (h : ta σ H fun vs H1 => ∃ a xs, vs = [.ref a] ∧ SqT K H1 a xs ∧ R (IteT K a) H1) : iEnumT K ta σ H R := h
theorem Rd.enumTAt {K : PySem.W.Frag} {H : Hp} {p : Addr} {xs : List V} {P : Addr → Prop} (h1 : SqT K H p xs) (h : P p) : ∃ a ys, [V.ref p] = [.ref a] ∧ SqT K H a ys ∧ P a := ⟨p, xs, rfl, h1, h⟩
end PR
end

section
set_option maxHeartbeats 4000000
/-! isinstance and fields of a caught error that has a dict -/
namespace PR
open PySem L2 PySem.Spec PyProof.Rows
def rIsX (K : PySem.W.Frag) (cls : Value) (d : Option Addr) (a : Addr) : List V → Hp → VK → Prop := fun xs H Q => ∃ (D : Addr) (c : V) (cv : Value) (b : Bool) (dd : Addr) (fs : List (Str × V)), cls = .ref D ∧ d = some dd ∧ ExcC K D ∧ xs = [.ref a, c] ∧ (∀ u, RelV c u → u = cv) ∧ H dd = some (.xd fs) ∧
  PySem.W.kitOne K (.ref D) cv = some b ∧ Q (.bl b) H
theorem call_isX {X : Cx} {K : PySem.W.Frag} {a : Addr} {oe : Obj} {cls : Value} {d : Option Addr} {pn : List (Addr × Obj)} {xe : Value → Shared → Prop} (hK : X.K = K) (hz : Zc cls d oe) (hf : ∃ vs, oe.data = .fields vs) : CallR (suiteN X a ((a, oe) :: pn) xe) (.builtin "isinstance") (rIsX K cls d a) := by
  subst hK
  intro pins s σ H xs us Q I r h
  obtain ⟨D, c, cv, b, dd, fs, rfl, rfl, C, rfl, hcv, hx, e, q⟩ := h
  cases r with
  | cons rx rr =>
    cases rr with
    | cons rt rr =>
      cases rr
      cases rx
      have ec := hcv _ rt
      subst ec
      obtain ⟨ga, _⟩ := I.pin (a, oe) (List.mem_append.mpr (.inl List.mem_cons_self))
      obtain ⟨vs, hv⟩ := hf
      have ox : ObjOk X.prog X.w H s.heap dd (.xd fs) := I.hok dd _ hx
      obtain ⟨mA, hns, hr⟩ := ox
      obtain ⟨od, ho, hl⟩ := lookIn_ns hns
      have J : PySem.W.InstAt s.heap a oe D (some od) := ⟨ga, hz.1, by unfold PySem.W.notCls; rw [hv] <;> rfl, by rw [hz.2]; exact ho⟩
      obtain ⟨cd, hcd, _⟩ := PySem.W.any_some C.hd
      exact PySem.W.kia_one (PySem.W.kitx_exc (by rw [hcd]; rfl) C.hg C.hk C.hs C.ha C.hn C.ht C.hm) I.kIn J e (fun z => nomatch z) fun tk => ⟨.bl b, H, I.kept (t' := tk) fun _ _ z => z, rfl, q⟩
theorem pe_xfN {X : Cx} {a C : Addr} {oe : Obj} {cls : Value} {d : Option Addr} {pn : List (Addr × Obj)} {xe : Value → Shared → Prop} {e : Expr} {te : TE} {pos : Pos} {n : Str} (T : XfC X.K C) (hno : PySem.W.findIn X.K (.ref C) n = some none)
    (hz : Zc cls d oe) (hf : ∃ vs, oe.data = .fields vs) (he : PE (X.suite a ((a, oe) :: pn)) e te) (hb : attributeBase e n X.env (eval e X.env) = eval e X.env := by rfl) : PE (suiteN X a ((a, oe) :: pn) xe) (.Attribute e n pos) (tXf a cls d C n te) :=
  PE.nox (X := suiteN X a ((a, oe) :: pn) xe) (pe_xf T hno hz hf he hb)
namespace Rd
variable {K : PySem.W.Frag} {H : Hp} {Q : VK} {σ : L2.St} {a C dd D : Addr} {f : Str} {fs : List (Str × V)} {v c : V} {cv : Value} {b : Bool} {te : TE}
theorem xf {cls : Value} {d : Option Addr} (h : te σ H fun x H1 => x = .ref a ∧ cls = .ref C ∧ ∃ (dd : Addr) (fs : List (Str × V)) (v : V), d = some dd ∧ H1 dd = some (.xd fs) ∧ fs.lookup f = some v ∧ Q v H1) : tXf a cls d C f te σ H Q := h
theorem isX (hc : ExcC K D) (hcv : ∀ u, RelV c u → u = cv) (hx : H dd = some (.xd fs)) (hk : PySem.W.kitOne K (.ref D) cv = some b) (h : Q (.bl b) H) : rIsX K (.ref D) (some dd) a [.ref a, c] H Q := ⟨D, c, cv, b, dd, fs, rfl, rfl, hc, rfl, hcv, hx, hk, h⟩
theorem lenD {kvs : List (Key × V)} {P : List (Key × V) → Prop} (h1 : H a = some (.dK kvs)) (h : P kvs) : ∃ a' kvs', [V.ref a] = [V.ref a'] ∧ H a' = some (.dK kvs') ∧ P kvs' := ⟨a, kvs, rfl, h1, h⟩
end Rd
end PR
end

section
set_option maxHeartbeats 4000000
namespace PR
open PySem L2 PySem.Spec PyProof.Rows PySem.EX
local macro_rules | `(tactic| walk_at "st") => `(tactic| first | with_reducible exact setAt_z | with_reducible exact setAt_s (by walk_at "st"))
local macro_rules | `(tactic| walk_at "rd1") => `(tactic| first
  | with_reducible refine Rd.seq ?_
  | with_reducible refine Rd.nxE ?_
  | with_reducible refine Rd.rtE ?_
  | with_reducible refine Rd.ctE ?_
  | with_reducible refine Rd.bkE ?_
  | with_reducible refine Rd.asg ?_
  | ((with_reducible refine' Rd.gname ?hs ?_); (case hs => walk_at "st"))
  | with_reducible refine Rd.ifS ?_
  | with_reducible refine Rd.ret ?_
  | with_reducible refine Rd.retN ?_
  | with_reducible refine Rd.drop ?_
  | with_reducible refine Rd.next ?_
  | ((with_reducible refine' Rd.var ?hv ?_); (case hv => exact rfl))
  | with_reducible refine Rd.c ?_
  | with_reducible refine Rd.op ?_
  | with_reducible refine Rd.un ?_
  | with_reducible refine Rd.neg ?_
  | with_reducible refine Rd.i0 ?_
  | with_reducible refine Rd.test ?_
  | with_reducible refine Rd.chain ?_
  | with_reducible refine Rd.tB ?_
  | with_reducible refine Rd.bl ?_
  | with_reducible refine Rd.not ?_
  | with_reducible refine Rd.and ?_
  | with_reducible refine Rd.or ?_
  | with_reducible refine Rd.andV ?_
  | with_reducible refine Rd.orV ?_
  | with_reducible refine Rd.notV ?_
  | with_reducible refine Rd.nilA ?_
  | with_reducible refine Rd.consA ?_
  | with_reducible refine Rd.cb ?_
  | with_reducible refine Rd.int1 ?_
  | with_reducible refine Rd.abs1 ?_
  | with_reducible refine Rd.gsub ?_
  | with_reducible refine Rd.tpar ?_
  | ((with_reducible refine' Rd.par ?hs ?ht ?_); (case hs => walk_at "st"); (case ht => walk_at "st"))
  | with_reducible refine Rd.ttup ?_
  | with_reducible refine Rd.tlst ?_
  | with_reducible refine Rd.isN ?_
  | with_reducible refine Rd.call ?_
  | with_reducible refine Rd.sl ?_
  | with_reducible refine Rd.noPart ?_
  | with_reducible refine Rd.part ?_
  | with_reducible refine Rd.ex_int ?_
  | with_reducible refine Rd.bm ?_
  | with_reducible refine Rd.tfld ?_
  | with_reducible refine Rd.tfor ?_
  | with_reducible refine Rd.tlc ?_
  | with_reducible refine Rd.mk1 ?_
  | with_reducible refine Rd.tdc ?_
  | with_reducible refine Rd.sfld ?_
  | with_reducible refine Rd.methP ?_
  | with_reducible refine Rd.xf ?_

  | with_reducible refine Rd.itemP ?_
  | with_reducible refine Rd.ost ?_
  | with_reducible refine Rd.enumT ?_
  | ((with_reducible refine' Rd.enumTAt ?h1 ?_); (case h1 => walk_at "lk"))
  | with_reducible refine Rd.meth ?_
  | with_reducible refine Rd.make ?_
  | with_reducible refine Rd.prop ?_
  | with_reducible refine Rd.item ?_
  | with_reducible refine Rd.sprop ?_
  | with_reducible refine Rd.star ?_
  | ((with_reducible refine' Rd.starL ?h1 ?_); (case h1 => walk_at "lk"))
  | with_reducible refine Rd.tdget ?_
  | ((with_reducible refine' Rd.fld ?h1 ?h2 ?h3 ?h4 ?_); (case h1 => walk_at "lk"); (case h2 => walk_at "cl"); (case h3 => walk_at "na"); (case h4 => walk_at "fl"))
  | ((with_reducible refine' Rd.ty ?h1 ?_); (case h1 => walk_at "lk"))
  | with_reducible refine Rd.tyes ?_
  | with_reducible refine Rd.noN ?_
  | with_reducible refine Rd.noNr ?_
  | with_reducible refine Rd.yesN ?_
  | with_reducible refine Rd.yesI ?_
  | with_reducible refine Rd.yesR ?_
  | with_reducible refine Rd.noNN ?_
  | with_reducible refine Rd.yes rfl ?_
  | with_reducible refine Rd.no Bool.false_ne_true ?_
  | ((with_reducible refine' Rd.wp ?h1 ?_); (case h1 => exact rfl))
  | ((with_reducible refine' Rd.isi ?h1 ?h2 ?_); (case h1 => walk_at "lk"); (case h2 => first | exact kit_int (dp_nodict (by assumption)) | exact kit_bool (dp_nodict (by assumption))))
  | with_reducible refine Rd.enum ?_
  | ((with_reducible refine' Rd.enumAt ?h1 ?_); (case h1 => walk_at "lk"))
  | with_reducible refine Rd.rng1 ?_
  | with_reducible refine Rd.rng2 ?_
  | with_reducible refine Rd.ilist ?_
  | with_reducible refine Rd.itup ?_
  | ((with_reducible refine' Rd.ilistAt ?h1 ?_); (case h1 => walk_at "lk"))
  | ((with_reducible refine' Rd.itupAt ?h1 ?_); (case h1 => walk_at "lk"))
  | ((with_reducible refine' Rd.slL ?h1 (fun q H1 nq sq hq => ?_)); (case h1 => walk_at "lk"))
  | with_reducible refine Rd.gcons ?_
  | with_reducible refine Rd.gnil ?_
  | ((with_reducible refine' Rd.gtup ?h1 ?h2 ?_); (case h1 => walk_at "lk"); (case h2 => exact rfl))
  | ((with_reducible refine' Rd.lenL ?h1 ?_); (case h1 => walk_at "lk"))
  | ((with_reducible refine' Rd.lenT ?h1 ?_); (case h1 => walk_at "lk"))
  | ((with_reducible refine' Rd.ixA ?h1 ?h2 ?_); (case h1 => walk_at "lk"); (case h2 => exact rfl))
  | ((with_reducible refine' Rd.ixB ?h1 ?h2 ?_); (case h1 => walk_at "lk"); (case h2 => exact rfl))
  | ((with_reducible refine' Rd.ixL ?h1 ?h2 ?_); (case h1 => walk_at "lk"); (case h2 => exact rfl))
  | ((with_reducible refine' Rd.newAt ?h1 (fun p H1 np sp hp => ?_)); (case h1 => exact sz_small (Nat.le_of_ble_eq_true rfl)))
  | ((with_reducible refine' Rd.ic ?h1 ?_); (case h1 => walk_at "sd"))
  | ((with_reducible refine' Rd.setL ?h1 ?h2 ?h3 ?_); (case h1 => walk_at "lk"); (case h2 => exact rfl); (case h3 => walk_at "st")))
local macro_rules | `(tactic| walk_at "rd") => `(tactic| repeat walk_at "rd1")
local macro_rules | `(tactic| walk_at "lk") => `(tactic| first
  | assumption
  | exact upd_same
  | exact SqL.of upd_same
  | exact SqT.of upd_same
  | exact SqL.of (by assumption)
  | exact SqT.of (by assumption)
  | ((with_reducible refine' same_get ?lks ?lkh); (case lks => assumption); (case lkh => walk_at "lk"))
  | ((with_reducible refine' Same.seq ?lks ?lkh); (case lks => assumption); (case lkh => walk_at "lk"))
  | ((with_reducible refine' sqT_mono ?lks ?lkh); (case lks => assumption); (case lkh => walk_at "lk"))
  | ((with_reducible refine' dp_mono ?lks ?lkh); (case lks => assumption); (case lkh => walk_at "lk")))
local macro_rules | `(tactic| walk_at "sd") => `(tactic| first
  | assumption
  | decide
  | omega
  | exact Or.inl ⟨by decide, by decide⟩
  | exact ⟨by decide, by decide, by decide⟩
  | exact Or.inr ⟨by decide, by decide⟩
  | exact Or.inl ⟨by omega, by omega⟩
  | exact wide_div (by decide) (by decide : _ < 2 ^ 200) (by decide) (by decide)
  | exact wide_div (by assumption) (by assumption : _ < 2 ^ 200) (by decide) (by decide))

local macro_rules | `(tactic| walk_at "cl") => `(tactic| first | exact cl_Tree (by assumption) | exact cl_Spot (by assumption) | exact cl_Edit (by assumption))
local macro_rules | `(tactic| walk_at "na") => `(tactic| first | exact na_rows (by assumption) | exact na_left (by assumption) | exact na_tree (by assumption) | exact na_key (by assumption) | exact na_etree (by assumption) | exact na_saved (by assumption))
local macro_rules | `(tactic| walk_at "fl") => `(tactic| first | exact lk_head | exact lk_second (by decide +kernel))

def top (i : Nat) : Stmt := PySem.Challenge.pw_parentrows_k79_moves_into_rings.main.body.getD i (.Pass ⟨0, 0, 0, 0⟩)
abbrev s_is_key : Stmt := top 14
abbrev s_has_key : Stmt := top 29
abbrev s_place_of : Stmt := top 30
abbrev s_end_of : Stmt := top 31
abbrev s_landing : Stmt := top 33
abbrev s_path_up : Stmt := top 34
theorem sc_is_key : FnScope ["thing"] ["thing"] (defScope s_is_key) := ⟨rfl, rfl, rfl, by decide +kernel, rfl, by decide +kernel, by decide +kernel⟩
theorem sc_has_key : FnScope ["rows", "key", "row"] ["rows", "key"] (defScope s_has_key) := ⟨rfl, rfl, rfl, by decide +kernel, rfl, by decide +kernel, by decide +kernel⟩
theorem sc_place_of : FnScope ["rows", "key", "row"] ["rows", "key"] (defScope s_place_of) := ⟨rfl, rfl, rfl, by decide +kernel, rfl, by decide +kernel, by decide +kernel⟩
theorem sc_end_of : FnScope ["rows", "place", "inside"] ["rows", "place"] (defScope s_end_of) := ⟨rfl, rfl, rfl, by decide +kernel, rfl, by decide +kernel, by decide +kernel⟩
theorem sc_landing : FnScope ["rows", "parent"] ["rows", "parent"] (defScope s_landing) := ⟨rfl, rfl, rfl, by decide +kernel, rfl, by decide +kernel, by decide +kernel⟩
theorem sc_path_up : FnScope ["rows", "key", "above", "own", "parent", "path"] ["rows", "key"] (defScope s_path_up) := ⟨rfl, rfl, rfl, by decide +kernel, rfl, by decide +kernel, by decide +kernel⟩
abbrev s_Spot___init__ : Stmt := inClass (top 35) 0
theorem sc_Spot___init__ : FnScope ["self", "tree", "key"] ["self", "tree", "key"] (defScope s_Spot___init__) := ⟨rfl, rfl, rfl, by decide +kernel, rfl, by decide +kernel, by decide +kernel⟩
abbrev s_Spot_parent : Stmt := inClass (top 35) 1
theorem sc_Spot_parent : FnScope ["self"] ["self"] (defScope s_Spot_parent) := ⟨rfl, rfl, rfl, by decide +kernel, rfl, by decide +kernel, by decide +kernel⟩
abbrev s_Spot_parent_1 : Stmt := inClass (top 35) 2
theorem sc_Spot_parent_1 : FnScope ["self", "value"] ["self", "value"] (defScope s_Spot_parent_1) := ⟨rfl, rfl, rfl, by decide +kernel, rfl, by decide +kernel, by decide +kernel⟩
abbrev s_Spot_under : Stmt := inClass (top 35) 6
theorem sc_Spot_under : FnScope ["self", "parent"] ["self", "parent"] (defScope s_Spot_under) := ⟨rfl, rfl, rfl, by decide +kernel, rfl, by decide +kernel, by decide +kernel⟩
abbrev s_Edit___init__ : Stmt := inClass (top 36) 0
theorem sc_Edit___init__ : FnScope ["self", "tree"] ["self", "tree"] (defScope s_Edit___init__) := ⟨rfl, rfl, rfl, by decide +kernel, rfl, by decide +kernel, by decide +kernel⟩
abbrev s_Edit___enter__ : Stmt := inClass (top 36) 1
theorem sc_Edit___enter__ : FnScope ["self"] ["self"] (defScope s_Edit___enter__) := ⟨rfl, rfl, rfl, by decide +kernel, rfl, by decide +kernel, by decide +kernel⟩
abbrev s_Edit___exit__ : Stmt := inClass (top 36) 2
theorem sc_Edit___exit__ : FnScope ["self", "kind", "value", "trace"] ["self", "kind", "value", "trace"] (defScope s_Edit___exit__) := ⟨rfl, rfl, rfl, by decide +kernel, rfl, by decide +kernel, by decide +kernel⟩
abbrev s_Tree___init__ : Stmt := inClass (top 37) 0
theorem sc_Tree___init__ : FnScope ["self"] ["self"] (defScope s_Tree___init__) := ⟨rfl, rfl, rfl, by decide +kernel, rfl, by decide +kernel, by decide +kernel⟩
abbrev s_Tree___getitem__ : Stmt := inClass (top 37) 5
theorem sc_Tree___getitem__ : FnScope ["self", "key"] ["self", "key"] (defScope s_Tree___getitem__) := ⟨rfl, rfl, rfl, by decide +kernel, rfl, by decide +kernel, by decide +kernel⟩
abbrev s_Tree_put : Stmt := inClass (top 37) 10
theorem sc_Tree_put : FnScope ["self", "key", "parent", "at"] ["self", "key", "parent"] (defScope s_Tree_put) := ⟨rfl, rfl, rfl, by decide +kernel, rfl, by decide +kernel, by decide +kernel⟩
abbrev s_Tree_move : Stmt := inClass (top 37) 11
theorem sc_Tree_move : FnScope ["self", "key", "parent", "start", "path", "end", "block", "others", "at"] ["self", "key", "parent"] (defScope s_Tree_move) := ⟨rfl, rfl, rfl, by decide +kernel, rfl, by decide +kernel, by decide +kernel⟩
abbrev s_Tree_move_all : Stmt := inClass (top 37) 13
theorem sc_Tree_move_all : FnScope ["self", "moves", "place", "key", "parent", "ring", "missing"] ["self", "moves"] (defScope s_Tree_move_all) := ⟨rfl, rfl, rfl, by decide +kernel, rfl, by decide +kernel, by decide +kernel⟩
abbrev s_Tree_edit : Stmt := inClass (top 37) 14
theorem sc_Tree_edit : FnScope ["self"] ["self"] (defScope s_Tree_edit) := ⟨rfl, rfl, rfl, by decide +kernel, rfl, by decide +kernel, by decide +kernel⟩
abbrev s_Undone___init__ : Stmt := inClass (top 11) 0
theorem sc_Undone___init__ : FnScope ["self", "place", "why"] ["self", "place", "why"] (defScope s_Undone___init__) := ⟨rfl, rfl, rfl, by decide +kernel, rfl, by decide +kernel, by decide +kernel⟩
/-- where things stand -/
structure Ad where
  is_key : Addr
  has_key : Addr
  place_of : Addr
  end_of : Addr
  landing : Addr
  path_up : Addr
  d_is_key : FuncData
  d_has_key : FuncData
  d_place_of : FuncData
  d_end_of : FuncData
  d_landing : FuncData
  d_path_up : FuncData
  c_Spot : Addr
  c_Edit : Addr
  c_Tree : Addr
  p_parent : Addr
  f_S_init : Addr
  d_S_init : FuncData
  f_S_get : Addr
  d_S_get : FuncData
  f_S_set : Addr
  d_S_set : FuncData
  f_S_under : Addr
  d_S_under : FuncData
  f_E_init : Addr
  d_E_init : FuncData
  f_E_enter : Addr
  d_E_enter : FuncData
  f_E_exit : Addr
  d_E_exit : FuncData
  f_T_init : Addr
  d_T_init : FuncData
  f_T_item : Addr
  d_T_item : FuncData
  f_T_put : Addr
  d_T_put : FuncData
  f_T_move : Addr
  d_T_move : FuncData
  f_T_all : Addr
  d_T_all : FuncData
  f_T_edit : Addr
  d_T_edit : FuncData
  f_U_init : Addr
  d_U_init : FuncData
  c_BadKey : Addr
  i_BadKey : Addr
  c_KeyThere : Addr
  i_KeyThere : Addr
  c_Ring : Addr
  i_Ring : Addr
  c_Undone : Addr
  c_NoKey : Addr
  i_NoKey : Addr
abbrev leB : List Value := [.type "LookupError", .type "Exception", .type "BaseException", .type "object"]
abbrev veB : List Value := [.type "ValueError", .type "Exception", .type "BaseException", .type "object"]
structure Txt (K : PySem.W.Frag) (mg : Str → Option Value) (A : Ad) : Prop where
  n_len : mg "len" = none
  n_int : mg "int" = none
  n_bool : mg "bool" = none
  n_isinstance : mg "isinstance" = none
  g_BIG : ∃ t, mg "BIG" = some (.int bigK t)
  g_is_key : mg "is_key" = some (.ref A.is_key)
  g_has_key : mg "has_key" = some (.ref A.has_key)
  g_place_of : mg "place_of" = some (.ref A.place_of)
  F_is_key : Fun K "is_key" "is_key" s_is_key A.is_key A.d_is_key
  F_has_key : Fun K "has_key" "has_key" s_has_key A.has_key A.d_has_key
  F_place_of : Fun K "place_of" "place_of" s_place_of A.place_of A.d_place_of
  g_end_of : mg "end_of" = some (.ref A.end_of)
  F_end_of : Fun K "end_of" "end_of" s_end_of A.end_of A.d_end_of
  g_landing : mg "landing" = some (.ref A.landing)
  F_landing : Fun K "landing" "landing" s_landing A.landing A.d_landing
  g_path_up : mg "path_up" = some (.ref A.path_up)
  F_path_up : Fun K "path_up" "path_up" s_path_up A.path_up A.d_path_up
  F_S_init : Fun K "__init__" "Spot.__init__" s_Spot___init__ A.f_S_init A.d_S_init
  F_S_get : Fun K "parent" "Spot.parent" s_Spot_parent A.f_S_get A.d_S_get
  F_S_set : Fun K "parent" "Spot.parent" s_Spot_parent_1 A.f_S_set A.d_S_set
  F_S_under : Fun K "under" "Spot.under" s_Spot_under A.f_S_under A.d_S_under
  F_E_init : Fun K "__init__" "Edit.__init__" s_Edit___init__ A.f_E_init A.d_E_init
  F_E_enter : Fun K "__enter__" "Edit.__enter__" s_Edit___enter__ A.f_E_enter A.d_E_enter
  F_E_exit : Fun K "__exit__" "Edit.__exit__" s_Edit___exit__ A.f_E_exit A.d_E_exit
  F_T_init : Fun K "__init__" "Tree.__init__" s_Tree___init__ A.f_T_init A.d_T_init
  F_T_item : Fun K "__getitem__" "Tree.__getitem__" s_Tree___getitem__ A.f_T_item A.d_T_item
  F_T_put : FunD K "put" "Tree.put" (defArgs s_Tree_put) (defBody s_Tree_put) (defScope s_Tree_put) [V.non] [] A.f_T_put A.d_T_put
  F_T_move : Fun K "move" "Tree.move" s_Tree_move A.f_T_move A.d_T_move
  F_T_all : Fun K "move_all" "Tree.move_all" s_Tree_move_all A.f_T_all A.d_T_all
  F_T_edit : Fun K "edit" "Tree.edit" s_Tree_edit A.f_T_edit A.d_T_edit
  F_U_init : Fun K "__init__" "Undone.__init__" s_Undone___init__ A.f_U_init A.d_U_init
  k_Spot : Cls K A.c_Spot
  k_Edit : Cls K A.c_Edit
  k_Tree : Cls K A.c_Tree
  g_Spot : mg "Spot" = some (.ref A.c_Spot)
  g_Edit : mg "Edit" = some (.ref A.c_Edit)
  g_Tree : mg "Tree" = some (.ref A.c_Tree)
  a_tree : NoAttr K A.c_Spot "tree"
  a_key : NoAttr K A.c_Spot "key"
  a_etree : NoAttr K A.c_Edit "tree"
  a_saved : NoAttr K A.c_Edit "saved"
  a_rows : NoAttr K A.c_Tree "rows"
  a_left : NoAttr K A.c_Tree "left"
  m_Spot : Mk K A.c_Spot A.f_S_init
  m_Edit : Mk K A.c_Edit A.f_E_init
  m_Tree : Mk K A.c_Tree A.f_T_init
  m_under : Meth K A.c_Spot "under" A.f_S_under
  m_put : Meth K A.c_Tree "put" A.f_T_put
  m_move : Meth K A.c_Tree "move" A.f_T_move
  m_all : Meth K A.c_Tree "move_all" A.f_T_all
  m_edit : Meth K A.c_Tree "edit" A.f_T_edit
  i_item : ItemC K A.c_Tree A.f_T_item
  w_Edit : WithC K A.c_Edit A.f_E_enter A.f_E_exit
  p_get : PropOf K A.c_Spot "parent" A.p_parent A.f_S_get
  p_set : SetOf K A.c_Spot "parent" A.p_parent A.f_S_set
  n_list : mg "list" = none
  n_tuple : mg "tuple" = none
  n_enumerate : mg "enumerate" = none
  X_BadKey : E1 K mg "BadKey" "key" "BadKey.__init__" veB "ValueError.__new__" A.c_BadKey A.i_BadKey
  X_KeyThere : E1 K mg "KeyThere" "key" "KeyThere.__init__" veB "ValueError.__new__" A.c_KeyThere A.i_KeyThere
  X_Ring : E1 K mg "Ring" "path" "Ring.__init__" veB "ValueError.__new__" A.c_Ring A.i_Ring
  g_Undone : mg "Undone" = some (.ref A.c_Undone)
  o_Undone : OexC K A.c_Undone
  u_init : PySem.W.findIn K (.ref A.c_Undone) "__init__" = some (some (.ref A.f_U_init))
  u_fn : PySem.W.typeIn K (.ref A.f_U_init) = some (.type "function")
  u_place : PySem.W.findIn K (.ref A.c_Undone) "place" = some none
  u_why : PySem.W.findIn K (.ref A.c_Undone) "why" = some none
  h_Ring : mg "Ring" = some (.ref A.c_Ring)
  h_NoKey : mg "NoKey" = some (.ref A.c_NoKey)
  x_RR : PySem.W.exmOne K (.ref A.c_Ring) (.ref A.c_Ring) = some true
  x_NR : PySem.W.exmOne K (.ref A.c_NoKey) (.ref A.c_Ring) = some false
  x_NN : PySem.W.exmOne K (.ref A.c_NoKey) (.ref A.c_NoKey) = some true
  X_NoKey : E1 K mg "NoKey" "key" "NoKey.__init__" leB "LookupError.__new__" A.c_NoKey A.i_NoKey
section
variable {K : PySem.W.Frag} {mg : Str → Option Value} {A : Ad}
theorem cl_Tree (T : Txt K mg A) : Cls K A.c_Tree := T.k_Tree
theorem cl_Spot (T : Txt K mg A) : Cls K A.c_Spot := T.k_Spot
theorem cl_Edit (T : Txt K mg A) : Cls K A.c_Edit := T.k_Edit
theorem na_rows (T : Txt K mg A) : NoAttr K A.c_Tree "rows" := T.a_rows
theorem na_left (T : Txt K mg A) : NoAttr K A.c_Tree "left" := T.a_left
theorem na_tree (T : Txt K mg A) : NoAttr K A.c_Spot "tree" := T.a_tree
theorem na_key (T : Txt K mg A) : NoAttr K A.c_Spot "key" := T.a_key
theorem na_etree (T : Txt K mg A) : NoAttr K A.c_Edit "tree" := T.a_etree
theorem na_saved (T : Txt K mg A) : NoAttr K A.c_Edit "saved" := T.a_saved
theorem lk_head {f : Str} {v : V} {r : List (Str × V)} : List.lookup f ((f, v) :: r) = some v := by rw [List.lookup_cons, beq_self_eq_true]
theorem lk_tail {f g : Str} {v : V} {r : List (Str × V)} (h : ¬ (g = f)) : List.lookup f ((g, v) :: r) = List.lookup f r := by
  rw [List.lookup_cons, show (f == g) = false from beq_eq_false_iff_ne.mpr (fun e => h e.symm)]
theorem lk_second {f g : Str} {v w : V} {r : List (Str × V)} (h : ¬ (g = f)) : List.lookup f ((g, v) :: (f, w) :: r) = some w := (lk_tail h).trans lk_head
end
end PR
end

section
set_option maxHeartbeats 4000000
namespace PR
open PySem L2 PySem.Spec PyProof.Rows
local macro_rules | `(tactic| walk_at "st") => `(tactic| first | exact setAt_z | exact setAt_s (by walk_at "st"))
local macro_rules | `(tactic| walk_at "rd1") => `(tactic| first
  | with_reducible refine Rd.seq ?_
  | with_reducible refine Rd.nxE ?_
  | with_reducible refine Rd.rtE ?_
  | with_reducible refine Rd.ctE ?_
  | with_reducible refine Rd.bkE ?_
  | with_reducible refine Rd.asg ?_
  | ((with_reducible refine' Rd.gname ?hs ?_); (case hs => walk_at "st"))
  | with_reducible refine Rd.ifS ?_
  | with_reducible refine Rd.ret ?_
  | with_reducible refine Rd.retN ?_
  | with_reducible refine Rd.drop ?_
  | with_reducible refine Rd.next ?_
  | ((with_reducible refine' Rd.var ?hv ?_); (case hv => exact rfl))
  | with_reducible refine Rd.c ?_
  | with_reducible refine Rd.op ?_
  | with_reducible refine Rd.un ?_
  | with_reducible refine Rd.neg ?_
  | with_reducible refine Rd.i0 ?_
  | with_reducible refine Rd.test ?_
  | with_reducible refine Rd.chain ?_
  | with_reducible refine Rd.tB ?_
  | with_reducible refine Rd.bl ?_
  | with_reducible refine Rd.not ?_
  | with_reducible refine Rd.and ?_
  | with_reducible refine Rd.or ?_
  | with_reducible refine Rd.andV ?_
  | with_reducible refine Rd.orV ?_
  | with_reducible refine Rd.notV ?_
  | with_reducible refine Rd.nilA ?_
  | with_reducible refine Rd.consA ?_
  | with_reducible refine Rd.cb ?_
  | with_reducible refine Rd.int1 ?_
  | with_reducible refine Rd.abs1 ?_
  | with_reducible refine Rd.gsub ?_
  | with_reducible refine Rd.tpar ?_
  | ((with_reducible refine' Rd.par ?hs ?ht ?_); (case hs => walk_at "st"); (case ht => walk_at "st"))
  | with_reducible refine Rd.ttup ?_
  | with_reducible refine Rd.tlst ?_
  | with_reducible refine Rd.isN ?_
  | with_reducible refine Rd.call ?_
  | with_reducible refine Rd.sl ?_
  | with_reducible refine Rd.noPart ?_
  | with_reducible refine Rd.part ?_
  | with_reducible refine Rd.ex_int ?_
  | with_reducible refine Rd.bm ?_
  | with_reducible refine Rd.tfld ?_
  | with_reducible refine Rd.tfor ?_
  | with_reducible refine Rd.tlc ?_
  | with_reducible refine Rd.mk1 ?_
  | with_reducible refine Rd.tdc ?_
  | with_reducible refine Rd.sfld ?_
  | with_reducible refine Rd.methP ?_
  | with_reducible refine Rd.xf ?_

  | with_reducible refine Rd.itemP ?_
  | with_reducible refine Rd.ost ?_
  | with_reducible refine Rd.enumT ?_
  | ((with_reducible refine' Rd.enumTAt ?h1 ?_); (case h1 => walk_at "lk"))
  | with_reducible refine Rd.meth ?_
  | with_reducible refine Rd.make ?_
  | with_reducible refine Rd.prop ?_
  | with_reducible refine Rd.item ?_
  | with_reducible refine Rd.sprop ?_
  | with_reducible refine Rd.star ?_
  | ((with_reducible refine' Rd.starL ?h1 ?_); (case h1 => walk_at "lk"))
  | with_reducible refine Rd.tdget ?_
  | ((with_reducible refine' Rd.fld ?h1 ?h2 ?h3 ?h4 ?_); (case h1 => walk_at "lk"); (case h2 => walk_at "cl"); (case h3 => walk_at "na"); (case h4 => walk_at "fl"))
  | ((with_reducible refine' Rd.ty ?h1 ?_); (case h1 => walk_at "lk"))
  | with_reducible refine Rd.tyes ?_
  | with_reducible refine Rd.noN ?_
  | with_reducible refine Rd.noNr ?_
  | with_reducible refine Rd.yesN ?_
  | with_reducible refine Rd.yesI ?_
  | with_reducible refine Rd.yesR ?_
  | with_reducible refine Rd.noNN ?_
  | with_reducible refine Rd.yes rfl ?_
  | with_reducible refine Rd.no Bool.false_ne_true ?_
  | ((with_reducible refine' Rd.wp ?h1 ?_); (case h1 => exact rfl))
  | ((with_reducible refine' Rd.isi ?h1 ?h2 ?_); (case h1 => walk_at "lk"); (case h2 => first | exact kit_int (dp_nodict (by assumption)) | exact kit_bool (dp_nodict (by assumption))))
  | with_reducible refine Rd.enum ?_
  | ((with_reducible refine' Rd.enumAt ?h1 ?_); (case h1 => walk_at "lk"))
  | with_reducible refine Rd.rng1 ?_
  | with_reducible refine Rd.rng2 ?_
  | with_reducible refine Rd.ilist ?_
  | with_reducible refine Rd.itup ?_
  | ((with_reducible refine' Rd.ilistAt ?h1 ?_); (case h1 => walk_at "lk"))
  | ((with_reducible refine' Rd.itupAt ?h1 ?_); (case h1 => walk_at "lk"))
  | ((with_reducible refine' Rd.slL ?h1 (fun q H1 nq sq hq => ?_)); (case h1 => walk_at "lk"))
  | with_reducible refine Rd.gcons ?_
  | with_reducible refine Rd.gnil ?_
  | ((with_reducible refine' Rd.gtup ?h1 ?h2 ?_); (case h1 => walk_at "lk"); (case h2 => exact rfl))
  | ((with_reducible refine' Rd.lenL ?h1 ?_); (case h1 => walk_at "lk"))
  | ((with_reducible refine' Rd.lenT ?h1 ?_); (case h1 => walk_at "lk"))
  | ((with_reducible refine' Rd.ixA ?h1 ?h2 ?_); (case h1 => walk_at "lk"); (case h2 => exact rfl))
  | ((with_reducible refine' Rd.ixB ?h1 ?h2 ?_); (case h1 => walk_at "lk"); (case h2 => exact rfl))
  | ((with_reducible refine' Rd.ixL ?h1 ?h2 ?_); (case h1 => walk_at "lk"); (case h2 => exact rfl))
  | ((with_reducible refine' Rd.newAt ?h1 (fun p H1 np sp hp => ?_)); (case h1 => exact sz_small (Nat.le_of_ble_eq_true rfl)))
  | ((with_reducible refine' Rd.ic ?h1 ?_); (case h1 => walk_at "sd"))
  | ((with_reducible refine' Rd.setL ?h1 ?h2 ?h3 ?_); (case h1 => walk_at "lk"); (case h2 => exact rfl); (case h3 => walk_at "st")))
local macro_rules | `(tactic| walk_at "rd") => `(tactic| repeat walk_at "rd1")
local macro_rules | `(tactic| walk_at "lk") => `(tactic| first
  | assumption
  | exact upd_same
  | exact SqL.of upd_same
  | exact SqT.of upd_same
  | exact SqL.of (by assumption)
  | exact SqT.of (by assumption)
  | ((with_reducible refine' same_get ?lks ?lkh); (case lks => assumption); (case lkh => walk_at "lk"))
  | ((with_reducible refine' Same.seq ?lks ?lkh); (case lks => assumption); (case lkh => walk_at "lk"))
  | ((with_reducible refine' sqT_mono ?lks ?lkh); (case lks => assumption); (case lkh => walk_at "lk"))
  | ((with_reducible refine' dp_mono ?lks ?lkh); (case lks => assumption); (case lkh => walk_at "lk")))
local macro_rules | `(tactic| walk_at "sd") => `(tactic| first
  | assumption
  | decide
  | omega
  | exact Or.inl ⟨by decide, by decide⟩
  | exact ⟨by decide, by decide, by decide⟩
  | exact Or.inr ⟨by decide, by decide⟩
  | exact wide_div (by decide) (by decide : _ < 2 ^ 200) (by decide) (by decide)
  | exact wide_div (by assumption) (by assumption : _ < 2 ^ 200) (by decide) (by decide))

local macro_rules | `(tactic| walk_at "cl") => `(tactic| first | exact cl_Tree (by assumption) | exact cl_Spot (by assumption) | exact cl_Edit (by assumption))
local macro_rules | `(tactic| walk_at "na") => `(tactic| first | exact na_rows (by assumption) | exact na_left (by assumption) | exact na_tree (by assumption) | exact na_key (by assumption) | exact na_etree (by assumption) | exact na_saved (by assumption))
local macro_rules | `(tactic| walk_at "fl") => `(tactic| first | exact lk_head | exact lk_second (by decide +kernel))

abbrev s__law_bag : Stmt := top 39
abbrev s__law_take : Stmt := top 40
theorem sc__law_bag : FnScope ["_law_script", "_law_at", "_law_cell", "_law_mixed", "_law_k", "_law_each"] ["_law_script", "_law_at"] (defScope s__law_bag) := ⟨rfl, rfl, rfl, by decide +kernel, rfl, by decide +kernel, by decide +kernel⟩
theorem sc__law_take : FnScope ["_law_bag_here", "_law_many", "_law_digit"] ["_law_bag_here", "_law_many"] (defScope s__law_take) := ⟨rfl, rfl, rfl, by decide +kernel, rfl, by decide +kernel, by decide +kernel⟩
/-- the built-in names that the text leaves alone -/
structure TxtB (K : PySem.W.Frag) (mg : Str → Option Value) : Prop where
  n_len : mg "len" = none
  n_int : mg "int" = none
  n_abs : mg "abs" = none
  n_enumerate : mg "enumerate" = none
section
variable {P : Program} {w : World} {K : PySem.W.Frag} {mg : Str → Option Value} {base : Heap} {f : Addr} {fd : FuncData}
theorem ok_take (T : TxtB K mg) (F : Fun K "_law_take" "_law_take" s__law_take f fd) : FnOk P w K mg base (L2.CX P w) 1 f fd ["_law_bag_here", "_law_many"] spTake := by
  refine F.okX sc__law_take (fun vs H Q E h => ?_) (fun cdv A outer s H vs Q E hr h => ?_)
  · obtain ⟨p, k, rfl, _⟩ := h
    rfl
  · obtain ⟨p, k, rfl, ⟨c, m, hc, hm, hm2, hp⟩, hk, hk2, q⟩ := h
    refine ⟨_, (pss_cons (ps_if (pt_cmpR op_gt (pe_ix (Kx.ix_seq (K := K) rfl) (pv 0) pe_int (fun _ _ => rfl)) pe_int (nomark _)) (pss_cons (ps_set (i := 2) sc__law_take.nd rfl (by first | exact Or.inl rfl | exact Or.inr rfl) (pe_op op_mod (pe_callTy call_int1 (by rfl) T.n_int boot_int (pa_cons (pe_ix (Kx.ix_seq (K := K) rfl) (pv 0) pe_int (fun _ _ => rfl)) pa_nil)) (pv 1)))
    (pss_cons (ps_asg (pe_op op_fdivW (pe_ix (Kx.ix_seq (K := K) rfl) (pv 0) pe_int (fun _ _ => rfl)) (pv 1)) (pg_sub (pv 0) pe_int set_list))
    (pss_one (ps_ret (pv 2))))) pss_nil)
    (pss_cons (ps_asg (pe_op op_mod (pe_callTy call_int1 (by rfl) T.n_int boot_int (pa_cons (pe_op op_mul (pe_ix (Kx.ix_seq (K := K) rfl) (pv 0) pe_int (fun _ _ => rfl)) pe_int) pa_nil)) pe_int) (pg_sub (pv 0) pe_int set_list))
    (pss_one (ps_ret (pe_op op_mod (pe_callTy call_int1 (by rfl) T.n_int boot_int (pa_cons (pe_op op_fdivW (pe_ix (Kx.ix_seq (K := K) rfl) (pv 0) pe_int (fun _ _ => rfl)) pe_int) pa_nil)) (pv 1)))))), ?_⟩
    try dsimp only [cxOf]
    rw [show L2.start ["_law_bag_here", "_law_many", "_law_digit"] [V.ref p, V.int k] = [some (V.ref p), some (V.int k), none] from rfl]
    have hL : SqL K H p [.int c, .int m] := SqL.of hp
    walk_at "rd"
    refine ite2 (fun hc0 => ?_) (fun hc0 => ?_)
    · walk_at "rd"
      have hc1 : 0 < c := of_decide_eq_true hc0
      exact q _ _ _ (Int.emod_nonneg _ (by omega)) (Int.emod_lt_of_pos _ hk) (Int.ediv_nonneg hc (by omega)) hm hm2
    · walk_at "rd"
      exact q _ _ _ (Int.emod_nonneg _ (by omega)) (Int.emod_lt_of_pos _ hk) hc (Int.emod_nonneg _ (by omega)) (by have := Int.emod_lt_of_pos (m * 630360016) (show (0 : Int) < 2147483647 by decide); omega)
theorem ok_bag (T : TxtB K mg) (F : Fun K "_law_bag" "_law_bag" s__law_bag f fd) : FnOk P w K mg base (L2.CX P w) 1 f fd ["_law_script", "_law_at"] (spBag K) := by
  refine F.okX sc__law_bag (fun vs H Q E h => ?_) (fun cdv A outer s H vs Q E hr h => ?_)
  · obtain ⟨a, ns, z, rfl, _⟩ := h
    rfl
  · obtain ⟨a, ns, z, rfl, hS, hz, hn, q0⟩ := h
    refine ⟨_, (pss_cons (ps_par (i := 2) (j := 3) rfl sc__law_bag.nd rfl rfl (by decide) rfl rfl (pa_cons (pe_ifExp (pt_cmpR op_lt (pv 1) (pe_callB (Kx.call_len (K := K) rfl) (by rfl) T.n_len PySem.boot_len (pa_cons (pv 0) pa_nil)) (nomark _)) (pe_callTy call_int1 (by rfl) T.n_int boot_int (pa_cons (pe_ix (Kx.ix_seq (K := K) rfl) (pv 0) (pv 1) (fun _ _ => rfl)) pa_nil)) pe_int) (pa_cons pe_int pa_nil)) (by rfl))
    (pss_cons (ps_for (passes_of rfl) rfl (pi_enum (by rfl) T.n_enumerate (pa_cons (pe_slice (Kx.sl_list (K := K) rfl) (pv 0) po_none (po_some pe_int)) pa_nil)) (Kx.pg_tup (K := K) (n := 2) rfl rfl (pgs_cons (pg_name (i := 4) sc__law_bag.nd rfl (by first | exact Or.inl rfl | exact Or.inr rfl)) (pgs_cons (pg_name (i := 5) sc__law_bag.nd rfl (by first | exact Or.inl rfl | exact Or.inr rfl)) pgs_nil))) (pss_one (ps_set (i := 3) sc__law_bag.nd rfl (by first | exact Or.inl rfl | exact Or.inr rfl) (pe_op op_mod (pe_callTy call_int1 (by rfl) T.n_int boot_int (pa_cons (pe_op op_add (pe_op op_add (pe_op op_add (pe_op op_add (pe_op op_mul (pv 3) pe_int) (pe_op op_mod (pe_callTy call_int1 (by rfl) T.n_int boot_int (pa_cons (pv 5) pa_nil)) pe_int)) (pe_op op_mul pe_int (pv 4))) pe_int) (pv 1)) pa_nil)) pe_int))))
    (pss_one (ps_ret (pe_lst (pa_cons (pe_ifExp (pt_cmpR op_ge (pe_callB call_abs (by rfl) T.n_abs (by decide +kernel) (pa_cons (pv 2) pa_nil)) (pe_op op_pow pe_int pe_int) (nomark _)) (pe_callB call_abs (by rfl) T.n_abs (by decide +kernel) (pa_cons (pv 2) pa_nil)) pe_int) (pa_cons (pv 3) pa_nil))))))), ?_⟩
    try dsimp only [cxOf]
    rw [show L2.start ["_law_script", "_law_at", "_law_cell", "_law_mixed", "_law_k", "_law_each"] [V.ref a, V.int z] = [some (V.ref a), some (V.int z), none, none, none, none] from rfl]
    walk_at "rd"
    refine Rd.cutE (P := fun v => ∃ c, v = .int c) (fun Q' k => ?_) ?_
    · refine Rd.ifE ?_
      walk_at "rd"
      refine ite2 (fun hc0 => ?_) (fun hc0 => ?_)
      · have hz' : z < ns.length := by
          have := of_decide_eq_true hc0
          rw [List.length_map] at this
          omega
        walk_at "rd"
        refine Rd.ixA hS (at_of (j := z) rfl (by rw [List.getElem?_map, List.getElem?_eq_getElem hz']; rfl)) ?_
        walk_at "rd"
        exact k _ ⟨_, rfl⟩
      · walk_at "rd"
        exact k _ ⟨_, rfl⟩
    · rintro _ ⟨c, rfl⟩
      walk_at "rd"
      rename_i q H1 nq sq hq
      refine for_it (walk_enum (xs := cutV (ns.map V.int) none (some 63))) (fun _ σ H2 => ∃ (m : Int) (u1 u2 : Option V), 0 ≤ m ∧ m < 2147483648 ∧ σ = [some (V.ref a), some (V.int z), some (V.int c), some (V.int m), u1, u2] ∧ Same H H2 ∧ SqL K H2 q (cutV (ns.map V.int) none (some 63)))
        ?_ (fun _ _ _ _ p => ?_) ?_ ?_
      · exact ⟨0, none, none, by decide, by decide, rfl, sq, SqL.of hq⟩
      · obtain ⟨_, _, _, _, _, _, _, h⟩ := p
        exact h
      · rintro i x σ H2 H3 hi ⟨m, u1, u2, hm, hm2, rfl, s2, hq2⟩ ⟨T, x1, y1, rfl, nT, rfl, e1, e2⟩
        cases e1
        have hy : ∃ n, y1 = .int n := by
          have h1 := List.mem_of_getElem? e2
          unfold cutV at h1
          have h2 := List.mem_of_mem_drop (List.mem_of_mem_take h1)
          obtain ⟨n, _, e⟩ := List.mem_map.mp h2
          exact ⟨n, e.symm⟩
        obtain ⟨y, rfl⟩ := hy
        walk_at "rd"
        refine ⟨_, _, _, Int.emod_nonneg _ (by decide), ?_, rfl, ?_, ?_⟩
        · refine Int.lt_trans (Int.emod_lt_of_pos _ (by decide)) (by decide)
        · exact s2.trans (same_upd nT)
        · exact (same_upd nT).seq hq2
      · rintro σ H2 ⟨m, u1, u2, hm, hm2, rfl, s2, hq2⟩
        walk_at "rd"
        refine Rd.cutE (P := fun v => ∃ c, 0 ≤ c ∧ v = .int c) (fun Q' k => ?_) ?_
        · refine Rd.ifE ?_
          walk_at "rd"
          refine ite2 (fun hc0 => ?_) (fun hc0 => ?_)
          · walk_at "rd"
            exact k _ ⟨_, by split <;> omega, rfl⟩
          · walk_at "rd"
            exact k _ ⟨_, by decide, rfl⟩
        · rintro _ ⟨c', hc', rfl⟩
          walk_at "rd"
          rename_i p H3 np sp hp
          exact q0 _ _ (s2.free np) (s2.trans sp) ⟨c', m, hc', hm, hm2, hp⟩
end
end PR
end

section
set_option maxHeartbeats 4000000
namespace PR
open PySem L2 PySem.Spec PyProof.Rows PySem.EX
local macro_rules | `(tactic| walk_at "st") => `(tactic| first | exact setAt_z | exact setAt_s (by walk_at "st"))
local macro_rules | `(tactic| walk_at "rd1") => `(tactic| first
  | with_reducible refine Rd.seq ?_
  | with_reducible refine Rd.nxE ?_
  | with_reducible refine Rd.rtE ?_
  | with_reducible refine Rd.ctE ?_
  | with_reducible refine Rd.bkE ?_
  | with_reducible refine Rd.asg ?_
  | ((with_reducible refine' Rd.gname ?hs ?_); (case hs => walk_at "st"))
  | with_reducible refine Rd.ifS ?_
  | with_reducible refine Rd.ret ?_
  | with_reducible refine Rd.retN ?_
  | with_reducible refine Rd.drop ?_
  | with_reducible refine Rd.next ?_
  | ((with_reducible refine' Rd.var ?hv ?_); (case hv => exact rfl))
  | with_reducible refine Rd.c ?_
  | with_reducible refine Rd.op ?_
  | with_reducible refine Rd.un ?_
  | with_reducible refine Rd.neg ?_
  | with_reducible refine Rd.i0 ?_
  | with_reducible refine Rd.test ?_
  | with_reducible refine Rd.chain ?_
  | with_reducible refine Rd.tB ?_
  | with_reducible refine Rd.bl ?_
  | with_reducible refine Rd.not ?_
  | with_reducible refine Rd.and ?_
  | with_reducible refine Rd.or ?_
  | with_reducible refine Rd.andV ?_
  | with_reducible refine Rd.orV ?_
  | with_reducible refine Rd.notV ?_
  | with_reducible refine Rd.nilA ?_
  | with_reducible refine Rd.consA ?_
  | with_reducible refine Rd.cb ?_
  | with_reducible refine Rd.int1 ?_
  | with_reducible refine Rd.abs1 ?_
  | with_reducible refine Rd.gsub ?_
  | with_reducible refine Rd.tpar ?_
  | ((with_reducible refine' Rd.par ?hs ?ht ?_); (case hs => walk_at "st"); (case ht => walk_at "st"))
  | with_reducible refine Rd.ttup ?_
  | with_reducible refine Rd.tlst ?_
  | with_reducible refine Rd.isN ?_
  | with_reducible refine Rd.call ?_
  | with_reducible refine Rd.sl ?_
  | with_reducible refine Rd.noPart ?_
  | with_reducible refine Rd.part ?_
  | with_reducible refine Rd.ex_int ?_
  | with_reducible refine Rd.bm ?_
  | with_reducible refine Rd.tfld ?_
  | with_reducible refine Rd.tfor ?_
  | with_reducible refine Rd.tlc ?_
  | with_reducible refine Rd.mk1 ?_
  | with_reducible refine Rd.tdc ?_
  | with_reducible refine Rd.sfld ?_
  | with_reducible refine Rd.methP ?_
  | with_reducible refine Rd.xf ?_

  | with_reducible refine Rd.itemP ?_
  | with_reducible refine Rd.ost ?_
  | with_reducible refine Rd.enumT ?_
  | ((with_reducible refine' Rd.enumTAt ?h1 ?_); (case h1 => walk_at "lk"))
  | with_reducible refine Rd.meth ?_
  | with_reducible refine Rd.make ?_
  | with_reducible refine Rd.prop ?_
  | with_reducible refine Rd.item ?_
  | with_reducible refine Rd.sprop ?_
  | with_reducible refine Rd.star ?_
  | ((with_reducible refine' Rd.starL ?h1 ?_); (case h1 => walk_at "lk"))
  | with_reducible refine Rd.tdget ?_
  | ((with_reducible refine' Rd.fld ?h1 ?h2 ?h3 ?h4 ?_); (case h1 => walk_at "lk"); (case h2 => walk_at "cl"); (case h3 => walk_at "na"); (case h4 => walk_at "fl"))
  | ((with_reducible refine' Rd.ty ?h1 ?_); (case h1 => walk_at "lk"))
  | with_reducible refine Rd.tyes ?_
  | with_reducible refine Rd.noN ?_
  | with_reducible refine Rd.noNr ?_
  | with_reducible refine Rd.yesN ?_
  | with_reducible refine Rd.yesI ?_
  | with_reducible refine Rd.yesR ?_
  | with_reducible refine Rd.noNN ?_
  | with_reducible refine Rd.yes rfl ?_
  | with_reducible refine Rd.no Bool.false_ne_true ?_
  | ((with_reducible refine' Rd.wp ?h1 ?_); (case h1 => exact rfl))
  | ((with_reducible refine' Rd.isi ?h1 ?h2 ?_); (case h1 => walk_at "lk"); (case h2 => first | exact kit_int (dp_nodict (by assumption)) | exact kit_bool (dp_nodict (by assumption))))
  | with_reducible refine Rd.enum ?_
  | ((with_reducible refine' Rd.enumAt ?h1 ?_); (case h1 => walk_at "lk"))
  | with_reducible refine Rd.rng1 ?_
  | with_reducible refine Rd.rng2 ?_
  | with_reducible refine Rd.ilist ?_
  | with_reducible refine Rd.itup ?_
  | ((with_reducible refine' Rd.ilistAt ?h1 ?_); (case h1 => walk_at "lk"))
  | ((with_reducible refine' Rd.itupAt ?h1 ?_); (case h1 => walk_at "lk"))
  | ((with_reducible refine' Rd.slL ?h1 (fun q H1 nq sq hq => ?_)); (case h1 => walk_at "lk"))
  | with_reducible refine Rd.gcons ?_
  | with_reducible refine Rd.gnil ?_
  | ((with_reducible refine' Rd.gtup ?h1 ?h2 ?_); (case h1 => walk_at "lk"); (case h2 => exact rfl))
  | ((with_reducible refine' Rd.lenL ?h1 ?_); (case h1 => walk_at "lk"))
  | ((with_reducible refine' Rd.lenT ?h1 ?_); (case h1 => walk_at "lk"))
  | ((with_reducible refine' Rd.ixA ?h1 ?h2 ?_); (case h1 => walk_at "lk"); (case h2 => exact rfl))
  | ((with_reducible refine' Rd.ixB ?h1 ?h2 ?_); (case h1 => walk_at "lk"); (case h2 => exact rfl))
  | ((with_reducible refine' Rd.ixL ?h1 ?h2 ?_); (case h1 => walk_at "lk"); (case h2 => exact rfl))
  | ((with_reducible refine' Rd.newAt ?h1 (fun p H1 np sp hp => ?_)); (case h1 => exact sz_small (Nat.le_of_ble_eq_true rfl)))
  | ((with_reducible refine' Rd.ic ?h1 ?_); (case h1 => walk_at "sd"))
  | ((with_reducible refine' Rd.setL ?h1 ?h2 ?h3 ?_); (case h1 => walk_at "lk"); (case h2 => exact rfl); (case h3 => walk_at "st")))
local macro_rules | `(tactic| walk_at "rd") => `(tactic| repeat walk_at "rd1")
local macro_rules | `(tactic| walk_at "lk") => `(tactic| first
  | assumption
  | exact upd_same
  | exact SqL.of upd_same
  | exact SqT.of upd_same
  | exact SqL.of (by assumption)
  | exact SqT.of (by assumption)
  | ((with_reducible refine' same_get ?lks ?lkh); (case lks => assumption); (case lkh => walk_at "lk"))
  | ((with_reducible refine' Same.seq ?lks ?lkh); (case lks => assumption); (case lkh => walk_at "lk"))
  | ((with_reducible refine' sqT_mono ?lks ?lkh); (case lks => assumption); (case lkh => walk_at "lk"))
  | ((with_reducible refine' dp_mono ?lks ?lkh); (case lks => assumption); (case lkh => walk_at "lk")))
local macro_rules | `(tactic| walk_at "sd") => `(tactic| first
  | assumption
  | decide
  | omega
  | exact Or.inl ⟨by decide, by decide⟩
  | exact ⟨by decide, by decide, by decide⟩
  | exact Or.inr ⟨by decide, by decide⟩
  | exact wide_div (by decide) (by decide : _ < 2 ^ 200) (by decide) (by decide)
  | exact wide_div (by assumption) (by assumption : _ < 2 ^ 200) (by decide) (by decide))

local macro_rules | `(tactic| walk_at "cl") => `(tactic| first | exact cl_Tree (by assumption) | exact cl_Spot (by assumption) | exact cl_Edit (by assumption))
local macro_rules | `(tactic| walk_at "na") => `(tactic| first | exact na_rows (by assumption) | exact na_left (by assumption) | exact na_tree (by assumption) | exact na_key (by assumption) | exact na_etree (by assumption) | exact na_saved (by assumption))
local macro_rules | `(tactic| walk_at "fl") => `(tactic| first | exact lk_head | exact lk_second (by decide +kernel))

section
variable {P : Program} {w : World} {K : PySem.W.Frag} {mg : Str → Option Value} {base : Heap} {A : Ad}
theorem passD {N : List Str} {qual : Str} {scope : Scope} {f : Addr} {cd : Value} {Ar : Around} {outer : List Env} {s : Shared} {H : Hp} {E : XK} : Passes (L2N.CX P w) (cxOf (L2N.CX P w) P w K mg base N qual scope f cd Ar outer s H E) E := passN
theorem hu65 {Ar : Around} {k : Nat} (hr : Room k Ar) : Ar.units + 65 < cLine := by have := hr.un; omega
def spIsKey (K : PySem.W.Frag) : Sp := fun vs H Q _ => ∃ v d, vs = [v] ∧ Dp K H v d ∧ Q (.bl (keyD d)) H
theorem ok_is_key (T : Txt K mg A) : FnOk P w K mg base (L2N.CX P w) 1 A.is_key A.d_is_key ["thing"] (spIsKey K) := by
  refine T.F_is_key.okN sc_is_key (fun vs H Q E h => ?_) (fun cdv Ar outer s H vs Q E hr h => ?_)
  · obtain ⟨v, d, rfl, _⟩ := h
    rfl
  · obtain ⟨v, d, rfl, hd, q⟩ := h
    obtain ⟨tB, g_BIG⟩ := T.g_BIG
    refine ⟨_, (pss_one (ps_ret (pe_and (pe_callB (Kx.call_isi (K := K) rfl) (by rfl) T.n_isinstance (by decide +kernel) (pa_cons (pv 0) (pa_cons (pe_bltn (v := .ty "int") (by rfl) T.n_int (by decide +kernel) rfl) pa_nil))) (pe_and (pe_not (pe_callB (Kx.call_isi (K := K) rfl) (by rfl) T.n_isinstance (by decide +kernel) (pa_cons (pv 0) (pa_cons (pe_bltn (v := .ty "bool") (by rfl) T.n_bool (by decide +kernel) rfl) pa_nil)))) (pe_one (pe_chain op_lt op_lt (pe_un un_neg (pe_glob (v := .int bigK) (by rfl) g_BIG ⟨_, rfl⟩)) (pv 0) (pe_glob (v := .int bigK) (by rfl) g_BIG ⟨_, rfl⟩))))))), ?_⟩
    try dsimp only [cxOf]
    rw [show L2.start ["thing"] [v] = [some (v)] from rfl]
    walk_at "rd"
    have fin : isIntD d = false → keyD d = false := fun z => by cases d <;> first | rfl | cases z
    refine ite2 (fun h1 => ?_) (fun h1 => ?_)
    · walk_at "rd"
      cases d with
      | int i =>
        have ev := dp_int hd
        subst ev
        refine Rd.yes rfl ?_
        walk_at "rd"
        refine ite2 (fun h2 => ?_) (fun h2 => ?_)
        · walk_at "rd"
          have e : keyD (.int i) = decide (i < bigK) := by
            show (decide (-bigK < i) && decide (i < bigK)) = _
            rw [h2, Bool.true_and]
          rw [← e]
          exact q
        · have e : keyD (.int i) = false := by
            show (decide (-bigK < i) && decide (i < bigK)) = _
            rw [Bool.eq_false_iff.mpr h2, Bool.false_and]
          rw [e] at q
          exact q
      | bool b =>
        refine Rd.no (fun z => by cases z) ?_
        exact q
      | _ => cases h1
    · rw [fin (Bool.eq_false_iff.mpr h1)] at q
      exact q
def spHasKey (K : PySem.W.Frag) : Sp := fun vs H Q _ => ∃ a v rows d, vs = [.ref a, v] ∧ RowsAt K H a rows ∧ Dp K H v d ∧ rows.length ≤ 100000 ∧ ∀ H', Same H H' → Q (.bl (hasK rows d)) H'
theorem ok_has_key (T : Txt K mg A) : FnOk P w K mg base (L2N.CX P w) 2 A.has_key A.d_has_key ["rows", "key"] (spHasKey K) := by
  have G_is_key := ok_is_key (P := P) (w := w) (base := base) T
  have b_is_key := T.F_is_key.binds (ps := ["thing"]) fun _ _ _ _ _ _ us hl => match us, hl with | [_], _ => rfl
  refine T.F_has_key.okN sc_has_key (fun vs H Q E h => ?_) (fun cdv Ar outer s H vs Q E hr h => ?_)
  · obtain ⟨a, v, rows, d, rfl, _⟩ := h
    rfl
  · obtain ⟨a, v, rows, d, rfl, hR, hd, hl, q⟩ := h
    have hu1 := hu65 hr
    refine ⟨_, (pss_one (ps_ret (pe_and (pe_call G_is_key (hr.mono (by decide)) rfl T.g_is_key T.F_is_key.kp b_is_key .nil passD (pa_cons (pv 1) pa_nil)) (pe_one (pe_cmpR (Kx.op_inD (K := K) rfl hu1) (pv 1) (pe_lc (own := [("row", 2)]) (g := gName 2) (tt := tYes) rfl sc_has_key.nd (Kx.pi_list (K := K) rfl (pv 0)) (blkOk_by (N := ["rows", "key", "row"]) (sc := defScope s_has_key) (by decide +kernel)) (fun _ _ _ _ _ => (pg_name (i := 2) sc_has_key.nd rfl (by first | exact Or.inl rfl | exact Or.inr rfl))) (fun _ _ _ _ _ => pts_nil) (fun _ _ _ _ _ => (pe_ix (Kx.ix_seq (K := K) rfl) (pv 2) pe_int (fun _ _ => rfl)))) (by with_unfolding_all rfl)))))), ?_⟩
    try dsimp only [cxOf]
    rw [show L2.start ["rows", "key", "row"] [V.ref a, v] = [some (V.ref a), some (v), none] from rfl]
    walk_at "rd"
    refine ⟨v, d, rfl, hd, ?_⟩
    walk_at "rd"
    have nk : keyD d = false → hasK rows d = false := fun z => by
      cases d with
      | int k =>
        show ((decide (-bigK < k) && decide (k < bigK)) && _) = false
        rw [show (decide (-bigK < k) && decide (k < bigK)) = false from z, Bool.false_and]
      | _ => rfl
    refine ite2 (fun h1 => ?_) (fun h1 => ?_)
    · obtain ⟨xs, hS, hX⟩ := hR
      have hlen : xs.length = rows.length := by rw [dpAll_len hX, List.length_map]
      walk_at "rd"
      intro D hD
      refine lcV walk_list (fun i => rows[i]?.map fun r => V.int r.1) hD (by rw [hlen]; exact Nat.lt_of_le_of_lt hl (by decide)) (fun H2 s2 => s2.seq hS) ?_ ?_
      · rintro i x H1 H2 hi s1 ⟨rfl, ex⟩
        refine ⟨Same.refl _, fun yes no hy hn => ?_⟩
        have hi' : i < rows.length := by omega
        obtain ⟨b, eb, hb⟩ := rows_at hX (List.getElem?_eq_getElem hi')
        rw [ex] at eb
        cases eb
        have hb1 := sqT_mono s1 hb
        walk_at "rd"
        exact hy _ _ (by rw [List.getElem?_eq_getElem hi']; rfl) (Same.refl _)
      · intro H' s2 hD2
        rw [hlen, filterMap_range rows (fun r => V.int r.1), vals_keys] at hD2
        have hDp : Dp K H' (.ref D) (.list ((keysOf rows).map PyData.int)) := .lst (SqL.of hD2) (dpAll_ints _)
        cases d with
        | int k =>
          have e : hasK rows (.int k) = decide (k ∈ keysOf rows) := by
            show ((decide (-bigK < k) && decide (k < bigK)) && _) = _
            rw [show (decide (-bigK < k) && decide (k < bigK)) = true from h1, Bool.true_and]
          refine Rd.inD (dp_mono s2 hd) hDp (shaped_int _) (shaped_ints _) ?_
          rw [any_ints, ← e]
          exact q _ s2
        | _ => cases h1
    · rw [← nk (Bool.eq_false_iff.mpr h1)]
      exact q _ (Same.refl _)
/-- an error of the class at C flies, its field f holds v -/
def ErrIs (C : Addr) (f : Str) (v : V) (H : Hp) (E : XK) : Prop := ∀ H' d, Same H H' → H' d = some (.xd [(f, v)]) → E (.ref C) (some d) H'
def spPlaceOf (K : PySem.W.Frag) (A : Ad) : Sp := fun vs H Q E => ∃ a v rows d, vs = [.ref a, v] ∧ RowsAt K H a rows ∧ Dp K H v d ∧ rows.length ≤ 100000 ∧
  (∀ k H', d = .int k → hasK rows d = true → Same H H' → Q (.int (idxK rows k : Nat)) H') ∧ (hasK rows d = false → ErrIs A.c_NoKey "key" v H E)
theorem hasK_int {rows : List Row} {d : PyData} (h : hasK rows d = true) : ∃ k, d = .int k ∧ k ∈ keysOf rows ∧ keyD d = true := by
  cases d with
  | int k =>
    obtain ⟨h1, h2⟩ := Bool.and_eq_true_iff.mp (show ((decide (-bigK < k) && decide (k < bigK)) && decide (k ∈ keysOf rows)) = true from h)
    exact ⟨k, rfl, of_decide_eq_true h2, h1⟩
  | _ => cases h
theorem ok_place_of (T : Txt K mg A) : FnOk P w K mg base (L2N.CX P w) 3 A.place_of A.d_place_of ["rows", "key"] (spPlaceOf K A) := by
  have G_has_key := ok_has_key (P := P) (w := w) (base := base) T
  have b_has_key := T.F_has_key.binds (ps := ["rows", "key"]) fun _ _ _ _ _ _ us hl => match us, hl with | [_, _], _ => rfl
  refine T.F_place_of.okN sc_place_of (fun vs H Q E h => ?_) (fun cdv Ar outer s H vs Q E hr h => ?_)
  · obtain ⟨a, v, rows, d, rfl, _⟩ := h
    rfl
  · obtain ⟨a, v, rows, d, rfl, hR, hd, hl, q, qe⟩ := h
    have hu1 := hu65 hr
    refine ⟨_, (pss_cons (ps_if (pt_not (pt_val (pe_call G_has_key (hr.mono (by decide)) rfl T.g_has_key T.F_has_key.kp b_has_key .nil passD (pa_cons (pv 0) (pa_cons (pv 1) pa_nil))))) (pss_one (ps_raise1 rfl T.X_NoKey PySem.F.excBase_LookupError PySem.F.store_LookupError hr (L2N.takes_of rfl rfl rfl rfl) (pa_cons (pv 1) pa_nil))) pss_nil)
    (pss_one (ps_ret (pe_bm PySem.F.plainAttrs_list PySem.F.slot_list_index PySem.F.type_list_index (Kx.mt_indexD (K := K) rfl hu1) (pe_lc (own := [("row", 2)]) (g := gName 2) (tt := tYes) rfl sc_place_of.nd (Kx.pi_list (K := K) rfl (pv 0)) (blkOk_by (N := ["rows", "key", "row"]) (sc := defScope s_place_of) (by decide +kernel)) (fun _ _ _ _ _ => (pg_name (i := 2) sc_place_of.nd rfl (by first | exact Or.inl rfl | exact Or.inr rfl))) (fun _ _ _ _ _ => pts_nil) (fun _ _ _ _ _ => (pe_ix (Kx.ix_seq (K := K) rfl) (pv 2) pe_int (fun _ _ => rfl)))) (pa_cons (pv 1) pa_nil))))), ?_⟩
    try dsimp only [cxOf]
    rw [show L2.start ["rows", "key", "row"] [V.ref a, v] = [some (V.ref a), some (v), none] from rfl]
    walk_at "rd"
    refine ⟨a, v, rows, d, rfl, hR, hd, hl, fun H1 s1 => ?_⟩
    walk_at "rd"
    refine ite2 (fun h1 => ?_) (fun h1 => ?_)
    · have h2 : hasK rows d = false := by
        cases e : hasK rows d with
        | false => rfl
        | true => rw [e] at h1; cases h1
      walk_at "rd"
      refine Rd.errA fun D H2 nD sD hD => ?_
      exact qe h2 _ _ (s1.trans sD) hD
    · have h2 : hasK rows d = true := by
        cases e : hasK rows d with
        | false => rw [e] at h1; exact absurd rfl h1
        | true => rfl
      obtain ⟨k, rfl, hk, _⟩ := hasK_int h2
      have ev := dp_int hd
      subst ev
      obtain ⟨xs, hS, hX⟩ := rows_mono s1 hR
      have hlen : xs.length = rows.length := by rw [dpAll_len hX, List.length_map]
      walk_at "rd"
      intro D hD
      refine lcV walk_list (fun i => rows[i]?.map fun r => V.int r.1) hD (by rw [hlen]; exact Nat.lt_of_le_of_lt hl (by decide)) (fun H2 s2 => s2.seq hS) ?_ ?_
      · rintro i x H1 H2 hi s1 ⟨rfl, ex⟩
        refine ⟨Same.refl _, fun yes no hy hn => ?_⟩
        have hi' : i < rows.length := by omega
        obtain ⟨b, eb, hb⟩ := rows_at hX (List.getElem?_eq_getElem hi')
        rw [ex] at eb
        cases eb
        have hb1 := sqT_mono s1 hb
        walk_at "rd"
        exact hy _ _ (by rw [List.getElem?_eq_getElem hi']; rfl) (Same.refl _)
      · intro H' s2 hD2
        rw [hlen, filterMap_range rows (fun r => V.int r.1), vals_keys] at hD2
        walk_at "rd"
        refine Rd.indexI (SqL.of hD2) hk ?_
        exact q k _ rfl h2 (s1.trans s2)
end
end PR
end

section
set_option maxHeartbeats 4000000
namespace PR
open PySem L2 PySem.Spec PyProof.Rows PySem.EX
local macro_rules | `(tactic| walk_at "st") => `(tactic| first | exact setAt_z | exact setAt_s (by walk_at "st"))
local macro_rules | `(tactic| walk_at "rd1") => `(tactic| first
  | with_reducible refine Rd.seq ?_
  | with_reducible refine Rd.nxE ?_
  | with_reducible refine Rd.rtE ?_
  | with_reducible refine Rd.ctE ?_
  | with_reducible refine Rd.bkE ?_
  | with_reducible refine Rd.asg ?_
  | ((with_reducible refine' Rd.gname ?hs ?_); (case hs => walk_at "st"))
  | with_reducible refine Rd.ifS ?_
  | with_reducible refine Rd.ret ?_
  | with_reducible refine Rd.retN ?_
  | with_reducible refine Rd.drop ?_
  | with_reducible refine Rd.next ?_
  | ((with_reducible refine' Rd.var ?hv ?_); (case hv => exact rfl))
  | with_reducible refine Rd.c ?_
  | with_reducible refine Rd.op ?_
  | with_reducible refine Rd.un ?_
  | with_reducible refine Rd.neg ?_
  | with_reducible refine Rd.i0 ?_
  | with_reducible refine Rd.test ?_
  | with_reducible refine Rd.chain ?_
  | with_reducible refine Rd.tB ?_
  | with_reducible refine Rd.bl ?_
  | with_reducible refine Rd.not ?_
  | with_reducible refine Rd.and ?_
  | with_reducible refine Rd.or ?_
  | with_reducible refine Rd.andV ?_
  | with_reducible refine Rd.orV ?_
  | with_reducible refine Rd.notV ?_
  | with_reducible refine Rd.nilA ?_
  | with_reducible refine Rd.consA ?_
  | with_reducible refine Rd.cb ?_
  | with_reducible refine Rd.int1 ?_
  | with_reducible refine Rd.abs1 ?_
  | with_reducible refine Rd.gsub ?_
  | with_reducible refine Rd.tpar ?_
  | ((with_reducible refine' Rd.par ?hs ?ht ?_); (case hs => walk_at "st"); (case ht => walk_at "st"))
  | with_reducible refine Rd.ttup ?_
  | with_reducible refine Rd.tlst ?_
  | with_reducible refine Rd.isN ?_
  | with_reducible refine Rd.call ?_
  | with_reducible refine Rd.sl ?_
  | with_reducible refine Rd.noPart ?_
  | with_reducible refine Rd.part ?_
  | with_reducible refine Rd.ex_int ?_
  | with_reducible refine Rd.bm ?_
  | with_reducible refine Rd.tfld ?_
  | with_reducible refine Rd.tfor ?_
  | with_reducible refine Rd.tlc ?_
  | with_reducible refine Rd.mk1 ?_
  | with_reducible refine Rd.tdc ?_
  | with_reducible refine Rd.sfld ?_
  | with_reducible refine Rd.methP ?_
  | with_reducible refine Rd.xf ?_

  | with_reducible refine Rd.itemP ?_
  | with_reducible refine Rd.ost ?_
  | with_reducible refine Rd.enumT ?_
  | ((with_reducible refine' Rd.enumTAt ?h1 ?_); (case h1 => walk_at "lk"))
  | with_reducible refine Rd.meth ?_
  | with_reducible refine Rd.make ?_
  | with_reducible refine Rd.prop ?_
  | with_reducible refine Rd.item ?_
  | with_reducible refine Rd.sprop ?_
  | with_reducible refine Rd.star ?_
  | ((with_reducible refine' Rd.starL ?h1 ?_); (case h1 => walk_at "lk"))
  | with_reducible refine Rd.tdget ?_
  | ((with_reducible refine' Rd.fld ?h1 ?h2 ?h3 ?h4 ?_); (case h1 => walk_at "lk"); (case h2 => walk_at "cl"); (case h3 => walk_at "na"); (case h4 => walk_at "fl"))
  | ((with_reducible refine' Rd.ty ?h1 ?_); (case h1 => walk_at "lk"))
  | with_reducible refine Rd.tyes ?_
  | with_reducible refine Rd.noN ?_
  | with_reducible refine Rd.noNr ?_
  | with_reducible refine Rd.yesN ?_
  | with_reducible refine Rd.yesI ?_
  | with_reducible refine Rd.yesR ?_
  | with_reducible refine Rd.noNN ?_
  | with_reducible refine Rd.yes rfl ?_
  | with_reducible refine Rd.no Bool.false_ne_true ?_
  | ((with_reducible refine' Rd.wp ?h1 ?_); (case h1 => exact rfl))
  | ((with_reducible refine' Rd.isi ?h1 ?h2 ?_); (case h1 => walk_at "lk"); (case h2 => first | exact kit_int (dp_nodict (by assumption)) | exact kit_bool (dp_nodict (by assumption))))
  | with_reducible refine Rd.enum ?_
  | ((with_reducible refine' Rd.enumAt ?h1 ?_); (case h1 => walk_at "lk"))
  | with_reducible refine Rd.rng1 ?_
  | with_reducible refine Rd.rng2 ?_
  | with_reducible refine Rd.ilist ?_
  | with_reducible refine Rd.itup ?_
  | ((with_reducible refine' Rd.ilistAt ?h1 ?_); (case h1 => walk_at "lk"))
  | ((with_reducible refine' Rd.itupAt ?h1 ?_); (case h1 => walk_at "lk"))
  | ((with_reducible refine' Rd.slL ?h1 (fun q H1 nq sq hq => ?_)); (case h1 => walk_at "lk"))
  | with_reducible refine Rd.gcons ?_
  | with_reducible refine Rd.gnil ?_
  | ((with_reducible refine' Rd.gtup ?h1 ?h2 ?_); (case h1 => walk_at "lk"); (case h2 => exact rfl))
  | ((with_reducible refine' Rd.lenL ?h1 ?_); (case h1 => walk_at "lk"))
  | ((with_reducible refine' Rd.lenT ?h1 ?_); (case h1 => walk_at "lk"))
  | ((with_reducible refine' Rd.ixA ?h1 ?h2 ?_); (case h1 => walk_at "lk"); (case h2 => exact rfl))
  | ((with_reducible refine' Rd.ixB ?h1 ?h2 ?_); (case h1 => walk_at "lk"); (case h2 => exact rfl))
  | ((with_reducible refine' Rd.ixL ?h1 ?h2 ?_); (case h1 => walk_at "lk"); (case h2 => exact rfl))
  | ((with_reducible refine' Rd.newAt ?h1 (fun p H1 np sp hp => ?_)); (case h1 => exact sz_small (Nat.le_of_ble_eq_true rfl)))
  | ((with_reducible refine' Rd.ic ?h1 ?_); (case h1 => walk_at "sd"))
  | ((with_reducible refine' Rd.setL ?h1 ?h2 ?h3 ?_); (case h1 => walk_at "lk"); (case h2 => exact rfl); (case h3 => walk_at "st")))
local macro_rules | `(tactic| walk_at "rd") => `(tactic| repeat walk_at "rd1")
local macro_rules | `(tactic| walk_at "lk") => `(tactic| first
  | assumption
  | exact upd_same
  | exact SqL.of upd_same
  | exact SqT.of upd_same
  | exact SqL.of (by assumption)
  | exact SqT.of (by assumption)
  | ((with_reducible refine' same_get ?lks ?lkh); (case lks => assumption); (case lkh => walk_at "lk"))
  | ((with_reducible refine' Same.seq ?lks ?lkh); (case lks => assumption); (case lkh => walk_at "lk"))
  | ((with_reducible refine' sqT_mono ?lks ?lkh); (case lks => assumption); (case lkh => walk_at "lk"))
  | ((with_reducible refine' dp_mono ?lks ?lkh); (case lks => assumption); (case lkh => walk_at "lk")))
local macro_rules | `(tactic| walk_at "sd") => `(tactic| first
  | assumption
  | decide
  | omega
  | exact Or.inl ⟨by decide, by decide⟩
  | exact ⟨by decide, by decide, by decide⟩
  | exact Or.inr ⟨by decide, by decide⟩
  | exact wide_div (by decide) (by decide : _ < 2 ^ 200) (by decide) (by decide)
  | exact wide_div (by assumption) (by assumption : _ < 2 ^ 200) (by decide) (by decide))

local macro_rules | `(tactic| walk_at "cl") => `(tactic| first | exact cl_Tree (by assumption) | exact cl_Spot (by assumption) | exact cl_Edit (by assumption))
local macro_rules | `(tactic| walk_at "na") => `(tactic| first | exact na_rows (by assumption) | exact na_left (by assumption) | exact na_tree (by assumption) | exact na_key (by assumption) | exact na_etree (by assumption) | exact na_saved (by assumption))
local macro_rules | `(tactic| walk_at "fl") => `(tactic| first | exact lk_head | exact lk_second (by decide +kernel))

section
variable {P : Program} {w : World} {K : PySem.W.Frag} {mg : Str → Option Value} {base : Heap} {A : Ad}
def spEndOf (K : PySem.W.Frag) : Sp := fun vs H Q _ => ∃ a rows, ∃ p : Nat, vs = [.ref a, .int p] ∧ RowsAt K H a rows ∧ p < rows.length ∧ rows.length ≤ 100000 ∧ ∀ H', Same H H' → Q (.int (endF rows p : Nat)) H'
theorem any_opt (ks : List Int) (o : Option Int) : ((ks.map PyData.int).any fun z => PyData.eqv z (optD o)) = (match o with | none => false | some q => decide (q ∈ ks)) := by
  cases o with
  | none => exact any_ints_none ks
  | some q => exact any_ints ks q
theorem shaped_opt (o : Option Int) : SeqAt.shaped (optD o) = true := by
  cases o with
  | none => exact shaped_none
  | some q => exact shaped_int q
theorem spanL_cons (r : Row) (rest : List Row) (ins : List Int) : spanL (r :: rest) ins = if (match r.2 with | none => false | some q => decide (q ∈ ins)) = true then 1 + spanL rest (ins ++ [r.1]) else 0 := by
  obtain ⟨k, o⟩ := r
  cases o with
  | none => rfl
  | some q =>
    show (if q ∈ ins then _ else _) = if decide (q ∈ ins) = true then _ else _
    by_cases h : q ∈ ins
    · rw [if_pos h, if_pos (decide_eq_true h)]
    · rw [if_neg h, if_neg (by rw [decide_eq_false h]; exact Bool.false_ne_true)]
theorem ok_end_of (T : Txt K mg A) : FnOk P w K mg base (L2N.CX P w) 1 A.end_of A.d_end_of ["rows", "place"] (spEndOf K) := by
  refine T.F_end_of.okN sc_end_of (fun vs H Q E h => ?_) (fun cdv Ar outer s H vs Q E hr h => ?_)
  · obtain ⟨a, rows, p, rfl, _⟩ := h
    rfl
  · obtain ⟨a, rows, p, rfl, hR, hp, hl, q⟩ := h
    have hu1 := hu65 hr
    refine ⟨_, (pss_cons (ps_set (i := 2) sc_end_of.nd rfl (by first | exact Or.inl rfl | exact Or.inr rfl) (pe_lst (pa_cons (pe_ix (Kx.ix_seq (K := K) rfl) (pe_ix (Kx.ix_seq (K := K) rfl) (pv 0) (pv 1) (fun _ _ => rfl)) pe_int (fun _ _ => rfl)) pa_nil)))
    (pss_cons (ps_while (passes_of rfl) (PW.pt (pw_and (pt_cmpR op_lt (pe_op op_add (pv 1) (pe_callB (Kx.call_len (K := K) rfl) (by rfl) T.n_len PySem.boot_len (pa_cons (pv 2) pa_nil))) (pe_callB (Kx.call_len (K := K) rfl) (by rfl) T.n_len PySem.boot_len (pa_cons (pv 0) pa_nil)) (nomark _)) (pw_and1 (pt_cmpR (Kx.op_inD (K := K) rfl hu1) (pe_ix (Kx.ix_seq (K := K) rfl) (pe_ix (Kx.ix_seq (K := K) rfl) (pv 0) (pe_op op_add (pv 1) (pe_callB (Kx.call_len (K := K) rfl) (by rfl) T.n_len PySem.boot_len (pa_cons (pv 2) pa_nil))) (fun _ _ => rfl)) pe_int (fun _ _ => rfl)) (pv 2) (by with_unfolding_all rfl))))) (pss_one (ps_expr (pe_bm PySem.F.plainAttrs_list PySem.F.slot_list_append PySem.F.type_list_append mt_append (pv 2) (pa_cons (pe_ix (Kx.ix_seq (K := K) rfl) (pe_ix (Kx.ix_seq (K := K) rfl) (pv 0) (pe_op op_add (pv 1) (pe_callB (Kx.call_len (K := K) rfl) (by rfl) T.n_len PySem.boot_len (pa_cons (pv 2) pa_nil))) (fun _ _ => rfl)) pe_int (fun _ _ => rfl)) pa_nil)))))
    (pss_one (ps_ret (pe_op op_add (pv 1) (pe_callB (Kx.call_len (K := K) rfl) (by rfl) T.n_len PySem.boot_len (pa_cons (pv 2) pa_nil))))))), ?_⟩
    try dsimp only [cxOf]
    rw [show L2.start ["rows", "place", "inside"] [V.ref a, V.int p] = [some (V.ref a), some (V.int p), none] from rfl]
    obtain ⟨xs, hS, hX⟩ := hR
    have hlen : xs.length = rows.length := by rw [dpAll_len hX, List.length_map]
    obtain ⟨b, eb, hb⟩ := rows_at hX (List.getElem?_eq_getElem hp)
    walk_at "rd"
    refine Rd.ixA hS (at_of rfl eb) ?_
    walk_at "rd"
    rename_i I H1 nI sI hI
    have hk : keyAt rows p = rows[p].1 := by
      unfold keyAt keysOf
      rw [List.getElem?_map, List.getElem?_eq_getElem hp]
      rfl
    refine ⟨fun m σ H2 => ∃ ins : List Int, σ = [some (V.ref a), some (V.int p), some (V.ref I)] ∧ Same H H2 ∧ H2 I = some (.lst (ins.map V.int)) ∧ p + ins.length ≤ rows.length ∧ p + ins.length + spanL (rows.drop (p + ins.length)) ins = endF rows p ∧ m = rows.length - (p + ins.length),
      ⟨_, [rows[p].1], rfl, sI, hI, hp, by unfold endF; rw [hk]; rfl, rfl⟩, ?_⟩
    rintro m σ H2 ⟨ins, rfl, s2, hI2, hle, hend, rfl⟩
    have hS2 := s2.seq hS
    have hX2 := dpAll_mono s2 hX
    walk_at "rd"
    rw [List.length_map, hlen]
    refine ite2 (fun h1 => ?_) (fun h1 => ?_)
    · have hlt : p + ins.length < rows.length := by have := of_decide_eq_true h1; omega
      obtain ⟨b2, eb2, hb2⟩ := rows_at hX2 (List.getElem?_eq_getElem hlt)
      generalize hr2 : rows[p + ins.length] = r2 at hb2
      have hdrop : rows.drop (p + ins.length) = r2 :: rows.drop (p + ins.length + 1) := by rw [List.drop_eq_getElem_cons hlt, hr2]
      rw [hdrop, spanL_cons] at hend
      walk_at "rd"
      refine Rd.ixA hS2 (at_of (j := p + ins.length) (by rw [List.length_map]; omega) eb2) ?_
      walk_at "rd"
      refine Rd.inD (optV_dp r2.2) (.lst (SqL.of hI2) (dpAll_ints _)) (shaped_opt _) (shaped_ints _) ?_
      rw [any_opt]
      walk_at "rd"
      refine ite2 (fun h2 => ?_) (fun h2 => ?_)
      · rw [if_pos h2] at hend
        refine ⟨_, fun σ' H' h => h, ?_⟩
        walk_at "rd"
        refine Rd.ixA hS2 (at_of (j := p + ins.length) (by rw [List.length_map]; omega) eb2) ?_
        walk_at "rd"
        refine Rd.app hI2 (by rw [List.length_map]; exact Nat.lt_of_lt_of_le (by omega : ins.length < 100000) (by decide)) ?_
        refine ⟨rows.length - (p + (ins.length + 1)), by omega, ins ++ [r2.1], rfl, ?_, ?_, ?_, ?_, ?_⟩
        · intro c o e
          rw [upd_ne (ne_of_none e nI)]
          exact s2 c o e
        · rw [upd_same, List.map_append]
          rfl
        · rw [List.length_append, List.length_singleton]; omega
        · rw [List.length_append, List.length_singleton]
          show p + ins.length + 1 + spanL (rows.drop (p + ins.length + 1)) (ins ++ [r2.1]) = _
          rw [← hend]
          omega
        · rw [List.length_append, List.length_singleton]
      · rw [if_neg h2] at hend
        walk_at "rd"
        have := q _ s2
        rw [← hend, Nat.add_zero, Int.natCast_add, ← List.length_map (f := V.int)] at this
        exact this
    · have he : p + ins.length = rows.length := by
        have h3 : ¬ ((p : Int) + (ins.length : Int) < (rows.length : Int)) := fun z => h1 (decide_eq_true z)
        omega
      have hz : rows.drop (p + ins.length) = [] := by rw [he]; exact List.drop_length
      rw [hz] at hend
      walk_at "rd"
      have := q _ s2
      rw [← hend, show spanL [] ins = 0 from rfl, Nat.add_zero, Int.natCast_add, ← List.length_map (f := V.int)] at this
      exact this

def spLanding (K : PySem.W.Frag) (A : Ad) : Sp := fun vs H Q E => ∃ a v rows d, vs = [.ref a, v] ∧ RowsAt K H a rows ∧ Dp K H v d ∧ rows.length ≤ 100000 ∧
  (∀ o H', d = optD o → (∀ q, o = some q → hasK rows (.int q) = true) → Same H H' → Q (.int (landF rows o : Nat)) H') ∧ (d ≠ .none → hasK rows d = false → ErrIs A.c_NoKey "key" v H E)
theorem hasK_mem {rows : List Row} {k : Int} (h : hasK rows (.int k) = true) : k ∈ keysOf rows := of_decide_eq_true (Bool.and_eq_true_iff.mp h).2
theorem ok_landing (T : Txt K mg A) : FnOk P w K mg base (L2N.CX P w) 4 A.landing A.d_landing ["rows", "parent"] (spLanding K A) := by
  have G_end_of := ok_end_of (P := P) (w := w) (base := base) T
  have b_end_of := T.F_end_of.binds (ps := ["rows", "place"]) fun _ _ _ _ _ _ us hl => match us, hl with | [_, _], _ => rfl
  have G_place_of := ok_place_of (P := P) (w := w) (base := base) T
  have b_place_of := T.F_place_of.binds (ps := ["rows", "key"]) fun _ _ _ _ _ _ us hl => match us, hl with | [_, _], _ => rfl
  refine T.F_landing.okN sc_landing (fun vs H Q E h => ?_) (fun cdv Ar outer s H vs Q E hr h => ?_)
  · obtain ⟨a, v, rows, d, rfl, _⟩ := h
    rfl
  · obtain ⟨a, v, rows, d, rfl, hR, hd, hl, q, qe⟩ := h
    have hu1 := hu65 hr
    refine ⟨_, (pss_one (ps_ret (pe_ifExp (pt_cmpR op_isN (pv 1) pe_non (nomark _)) (pe_callB (Kx.call_len (K := K) rfl) (by rfl) T.n_len PySem.boot_len (pa_cons (pv 0) pa_nil)) (pe_call G_end_of (hr.mono (by decide)) rfl T.g_end_of T.F_end_of.kp b_end_of .nil passD (pa_cons (pv 0) (pa_cons (pe_call G_place_of (hr.mono (by decide)) rfl T.g_place_of T.F_place_of.kp b_place_of .nil passD (pa_cons (pv 0) (pa_cons (pv 1) pa_nil))) pa_nil)))))), ?_⟩
    try dsimp only [cxOf]
    rw [show L2.start ["rows", "parent"] [V.ref a, v] = [some (V.ref a), some (v)] from rfl]
    obtain ⟨xs, hS, hlen⟩ := rows_len hR
    walk_at "rd"
    refine Rd.ifE ?_
    walk_at "rd"
    refine ite2 (fun h1 => ?_) (fun h1 => ?_)
    · have ed := (dp_non hd).mp (of_decide_eq_true h1)
      walk_at "rd"
      rw [hlen]
      exact q none _ ed (fun q z => by cases z) (Same.refl _)
    · have nd : d ≠ .none := fun z => h1 (decide_eq_true ((dp_non hd).mpr z))
      walk_at "rd"
      refine ⟨a, v, rows, d, rfl, hR, hd, hl, fun k H1 e hk s1 => ?_, fun z => qe nd z⟩
      subst e
      walk_at "rd"
      refine ⟨a, rows, idxK rows k, rfl, rows_mono s1 hR, idxK_lt (hasK_mem hk), hl, fun H2 s2 => ?_⟩
      exact q (some k) _ rfl (fun q z => by cases z; exact hk) (s1.trans s2)
def spPathUp (K : PySem.W.Frag) (A : Ad) : Sp := fun vs H Q E => ∃ a v rows d, vs = [.ref a, v] ∧ RowsAt K H a rows ∧ Dp K H v d ∧ Tr rows ∧ rows.length ≤ 100000 ∧
  (∀ k ps p H', d = .int k → hasK rows d = true → Up rows k ps → H p = none → Same H H' → H' p = some (.lst (ps.map V.int)) → Q (.ref p) H') ∧ (hasK rows d = false → ErrIs A.c_NoKey "key" v H E)
theorem ok_path_up (T : Txt K mg A) : FnOk P w K mg base (L2N.CX P w) 4 A.path_up A.d_path_up ["rows", "key"] (spPathUp K A) := by
  have G_place_of := ok_place_of (P := P) (w := w) (base := base) T
  have b_place_of := T.F_place_of.binds (ps := ["rows", "key"]) fun _ _ _ _ _ _ us hl => match us, hl with | [_, _], _ => rfl
  refine T.F_path_up.okN sc_path_up (fun vs H Q E h => ?_) (fun cdv Ar outer s H vs Q E hr h => ?_)
  · obtain ⟨a, v, rows, d, rfl, _⟩ := h
    rfl
  · obtain ⟨a, v, rows, d, rfl, hR, hd, ht, hl, q, qe⟩ := h
    have hu1 := hu65 hr
    have hu0 : (Ar.deeper (envOfC "path_up" (defScope s_path_up) s.heap.objs.size A.path_up cdv)).units + 1 < cLine := by omega
    refine ⟨_, (pss_cons (ps_expr (pe_call G_place_of (hr.mono (by decide)) rfl T.g_place_of T.F_place_of.kp b_place_of .nil passD (pa_cons (pv 0) (pa_cons (pv 1) pa_nil))))
    (pss_cons (ps_setDc (i := 2) (own := [("own", 3), ("parent", 4)]) (g := gTup K 2 (gCons (gName 3) (gCons (gName 4) (gNil)))) (tt := tYes) rfl sc_path_up.nd rfl rfl (sw_trueD rfl rfl rfl rfl) (Kx.pi_list (K := K) rfl (pv 0)) (blkOk_by (N := ["rows", "key", "above", "own", "parent", "path"]) (sc := defScope s_path_up) (by decide +kernel)) (fun _ _ _ _ _ => (Kx.pg_tup (K := K) (n := 2) rfl rfl (pgs_cons (pg_name (i := 3) sc_path_up.nd rfl (by first | exact Or.inl rfl | exact Or.inr rfl)) (pgs_cons (pg_name (i := 4) sc_path_up.nd rfl (by first | exact Or.inl rfl | exact Or.inr rfl)) pgs_nil)))) (fun _ _ _ _ _ => pts_nil) (fun _ _ _ _ _ => (pv 3)) (fun _ _ _ _ _ => (pv 4)))
    (pss_cons (ps_set (i := 5) sc_path_up.nd rfl (by first | exact Or.inl rfl | exact Or.inr rfl) (pe_lst (pa_cons (pv 1) pa_nil)))
    (pss_cons (ps_while (passes_of rfl) (pt_cmpR op_notN (pe_dget hu0 (pv 2) (pe_ix (Kx.ix_seq (K := K) rfl) (pv 5) (pe_un un_neg pe_int) (fun _ _ => rfl)) (fun _ _ => rfl)) pe_non (nomark _)) (pss_one (ps_expr (pe_bm PySem.F.plainAttrs_list PySem.F.slot_list_append PySem.F.type_list_append mt_append (pv 5) (pa_cons (pe_dget hu0 (pv 2) (pe_ix (Kx.ix_seq (K := K) rfl) (pv 5) (pe_un un_neg pe_int) (fun _ _ => rfl)) (fun _ _ => rfl)) pa_nil)))))
    (pss_one (ps_ret (pv 5))))))), ?_⟩
    try dsimp only [cxOf]
    rw [show L2.start ["rows", "key", "above", "own", "parent", "path"] [V.ref a, v] = [some (V.ref a), some (v), none, none, none, none] from rfl]
    walk_at "rd"
    refine ⟨a, v, rows, d, rfl, hR, hd, hl, fun k H1 ed hk s1 => ?_, qe⟩
    subst ed
    have ev := dp_int hd
    subst ev
    obtain ⟨xs, hS, hX⟩ := rows_mono s1 hR
    have hlen : xs.length = rows.length := by rw [dpAll_len hX, List.length_map]
    obtain ⟨ps, hps⟩ := ht.up k (hasK_mem hk)
    walk_at "rd"
    intro D hD
    refine dc_it walk_list (fun i H2 => Same H1 H2 ∧ H2 D = some (.dK (dictOf (rows.take i)))) ⟨same_upd hD, upd_same⟩ (fun i H2 _ p => p.1.seq hS) ?_ ?_
    · rintro i x H2 H3 hi ⟨s2, hD2⟩ ⟨rfl, ex⟩
      have hi' : i < rows.length := by omega
      obtain ⟨b, eb, hb⟩ := rows_at hX (List.getElem?_eq_getElem hi')
      rw [ex] at eb
      cases eb
      have hb2 := sqT_mono s2 hb
      walk_at "rd"
      refine ⟨_, .inl rows[i].1, rfl, hD2, ?_, ?_, ?_⟩
      · refine Nat.lt_of_le_of_lt ?_ (Nat.lt_of_lt_of_le (by omega : rows.length < 100001) (by decide))
        unfold dictOf
        rw [List.length_map, List.length_take]
        omega
      · intro c o e
        rw [upd_ne (ne_of_none e hD)]
        exact s2 c o e
      · rw [upd_same, dictOf_take ht.nd (List.getElem?_eq_getElem hi')]
    · rintro H2 ⟨s2, hD2⟩
      rw [hlen, List.take_length] at hD2
      walk_at "rd"
      rename_i I H3 nI sI hI
      have hD3 := sI _ _ hD2
      obtain ⟨tl, etl⟩ := hps.head
      refine ⟨fun m σ H4 => ∃ (done : List Int) (kk : Int) (rest : List Int), σ = [some (V.ref a), some (V.int k), some (V.ref D), none, none, some (V.ref I)] ∧ Same H2 H4 ∧ H4 I = some (.lst (done.map V.int ++ [V.int kk])) ∧ Up rows kk (kk :: rest) ∧ ps = done ++ kk :: rest ∧ m = rest.length,
        ⟨_, [], k, tl, rfl, sI, hI, by rw [← etl]; exact hps, etl, rfl⟩, ?_⟩
      rintro m σ H4 ⟨done, kk, rest, rfl, s4, hI4, hup, eps, rfl⟩
      have hD4 := s4 _ _ hD2
      have hix : ∀ Qx : VK, Qx (.int kk) H4 → rIx K (.ref I) (.int (-1)) H4 Qx := fun Qx h => Rd.ixA (SqL.of hI4) (atI_last _ _) h
      have hpl := ht.len_path hps
      generalize hrest : kk :: rest = full at hup
      cases hup with
      | root hm =>
        cases hrest
        walk_at "rd"
        refine hix _ ?_
        refine Rd.dgetI hD4 (dictOf_some ht.nd hm) ?_
        dsimp only [optV]
        walk_at "rd"
        refine q k ps I H4 rfl hk hps ?_ ((s1.trans s2).trans s4) ?_
        · exact (s1.trans s2).free nI
        · rw [hI4, eps, List.map_append]; rfl
      | @step _ q' ps' hm hup' =>
        have e1 : rest = ps' := by injection hrest
        subst e1
        obtain ⟨t', et⟩ := hup'.head
        walk_at "rd"
        refine hix _ ?_
        refine Rd.dgetI hD4 (dictOf_some ht.nd hm) ?_
        dsimp only [optV]
        walk_at "rd"
        refine ⟨_, fun σ' H' h => h, ?_⟩
        walk_at "rd"
        refine hix _ ?_
        refine Rd.dgetI hD4 (dictOf_some ht.nd hm) ?_
        dsimp only [optV]
        walk_at "rd"
        refine Rd.app hI4 ?_ ?_
        · rw [List.length_append, List.length_map]
          have : done.length + 1 ≤ 100000 := by
            have h1 := congrArg List.length eps
            rw [List.length_append, List.length_cons] at h1
            omega
          exact Nat.lt_of_le_of_lt this (by decide)
        · refine ⟨t'.length, by rw [et, List.length_cons]; omega, done ++ [kk], q', t', rfl, ?_, ?_, ?_, ?_, rfl⟩
          · intro c o e
            rw [upd_ne (ne_of_none e nI)]
            exact s4 c o e
          · rw [upd_same, List.map_append]; rfl
          · rw [← et]; exact hup'
          · rw [eps, et, List.append_assoc]; rfl
end
end PR
end

section
set_option maxHeartbeats 4000000
namespace PR
open PySem L2 PySem.Spec PyProof.Rows PySem.EX
local macro_rules | `(tactic| walk_at "st") => `(tactic| first | exact setAt_z | exact setAt_s (by walk_at "st"))
local macro_rules | `(tactic| walk_at "rd1") => `(tactic| first
  | with_reducible refine Rd.seq ?_
  | with_reducible refine Rd.nxE ?_
  | with_reducible refine Rd.rtE ?_
  | with_reducible refine Rd.ctE ?_
  | with_reducible refine Rd.bkE ?_
  | with_reducible refine Rd.asg ?_
  | ((with_reducible refine' Rd.gname ?hs ?_); (case hs => walk_at "st"))
  | with_reducible refine Rd.ifS ?_
  | with_reducible refine Rd.ret ?_
  | with_reducible refine Rd.retN ?_
  | with_reducible refine Rd.drop ?_
  | with_reducible refine Rd.next ?_
  | ((with_reducible refine' Rd.var ?hv ?_); (case hv => exact rfl))
  | with_reducible refine Rd.c ?_
  | with_reducible refine Rd.op ?_
  | with_reducible refine Rd.un ?_
  | with_reducible refine Rd.neg ?_
  | with_reducible refine Rd.i0 ?_
  | with_reducible refine Rd.test ?_
  | with_reducible refine Rd.chain ?_
  | with_reducible refine Rd.tB ?_
  | with_reducible refine Rd.bl ?_
  | with_reducible refine Rd.not ?_
  | with_reducible refine Rd.and ?_
  | with_reducible refine Rd.or ?_
  | with_reducible refine Rd.andV ?_
  | with_reducible refine Rd.orV ?_
  | with_reducible refine Rd.notV ?_
  | with_reducible refine Rd.nilA ?_
  | with_reducible refine Rd.consA ?_
  | with_reducible refine Rd.cb ?_
  | with_reducible refine Rd.int1 ?_
  | with_reducible refine Rd.abs1 ?_
  | with_reducible refine Rd.gsub ?_
  | with_reducible refine Rd.tpar ?_
  | ((with_reducible refine' Rd.par ?hs ?ht ?_); (case hs => walk_at "st"); (case ht => walk_at "st"))
  | with_reducible refine Rd.ttup ?_
  | with_reducible refine Rd.tlst ?_
  | with_reducible refine Rd.isN ?_
  | with_reducible refine Rd.call ?_
  | with_reducible refine Rd.sl ?_
  | with_reducible refine Rd.noPart ?_
  | with_reducible refine Rd.part ?_
  | with_reducible refine Rd.ex_int ?_
  | with_reducible refine Rd.bm ?_
  | with_reducible refine Rd.tfld ?_
  | with_reducible refine Rd.tfor ?_
  | with_reducible refine Rd.tlc ?_
  | with_reducible refine Rd.mk1 ?_
  | with_reducible refine Rd.tdc ?_
  | with_reducible refine Rd.sfld ?_
  | with_reducible refine Rd.methP ?_
  | with_reducible refine Rd.xf ?_

  | with_reducible refine Rd.itemP ?_
  | with_reducible refine Rd.ost ?_
  | with_reducible refine Rd.enumT ?_
  | ((with_reducible refine' Rd.enumTAt ?h1 ?_); (case h1 => walk_at "lk"))
  | with_reducible refine Rd.meth ?_
  | with_reducible refine Rd.make ?_
  | with_reducible refine Rd.prop ?_
  | with_reducible refine Rd.item ?_
  | with_reducible refine Rd.sprop ?_
  | with_reducible refine Rd.star ?_
  | ((with_reducible refine' Rd.starL ?h1 ?_); (case h1 => walk_at "lk"))
  | with_reducible refine Rd.tdget ?_
  | ((with_reducible refine' Rd.fld ?h1 ?h2 ?h3 ?h4 ?_); (case h1 => walk_at "lk"); (case h2 => walk_at "cl"); (case h3 => walk_at "na"); (case h4 => walk_at "fl"))
  | ((with_reducible refine' Rd.ty ?h1 ?_); (case h1 => walk_at "lk"))
  | with_reducible refine Rd.tyes ?_
  | with_reducible refine Rd.noN ?_
  | with_reducible refine Rd.noNr ?_
  | with_reducible refine Rd.yesN ?_
  | with_reducible refine Rd.yesI ?_
  | with_reducible refine Rd.yesR ?_
  | with_reducible refine Rd.noNN ?_
  | with_reducible refine Rd.yes rfl ?_
  | with_reducible refine Rd.no Bool.false_ne_true ?_
  | ((with_reducible refine' Rd.wp ?h1 ?_); (case h1 => exact rfl))
  | ((with_reducible refine' Rd.isi ?h1 ?h2 ?_); (case h1 => walk_at "lk"); (case h2 => first | exact kit_int (dp_nodict (by assumption)) | exact kit_bool (dp_nodict (by assumption))))
  | with_reducible refine Rd.enum ?_
  | ((with_reducible refine' Rd.enumAt ?h1 ?_); (case h1 => walk_at "lk"))
  | with_reducible refine Rd.rng1 ?_
  | with_reducible refine Rd.rng2 ?_
  | with_reducible refine Rd.ilist ?_
  | with_reducible refine Rd.itup ?_
  | ((with_reducible refine' Rd.ilistAt ?h1 ?_); (case h1 => walk_at "lk"))
  | ((with_reducible refine' Rd.itupAt ?h1 ?_); (case h1 => walk_at "lk"))
  | ((with_reducible refine' Rd.slL ?h1 (fun q H1 nq sq hq => ?_)); (case h1 => walk_at "lk"))
  | with_reducible refine Rd.gcons ?_
  | with_reducible refine Rd.gnil ?_
  | ((with_reducible refine' Rd.gtup ?h1 ?h2 ?_); (case h1 => walk_at "lk"); (case h2 => exact rfl))
  | ((with_reducible refine' Rd.lenL ?h1 ?_); (case h1 => walk_at "lk"))
  | ((with_reducible refine' Rd.lenT ?h1 ?_); (case h1 => walk_at "lk"))
  | ((with_reducible refine' Rd.ixA ?h1 ?h2 ?_); (case h1 => walk_at "lk"); (case h2 => exact rfl))
  | ((with_reducible refine' Rd.ixB ?h1 ?h2 ?_); (case h1 => walk_at "lk"); (case h2 => exact rfl))
  | ((with_reducible refine' Rd.ixL ?h1 ?h2 ?_); (case h1 => walk_at "lk"); (case h2 => exact rfl))
  | ((with_reducible refine' Rd.newAt ?h1 (fun p H1 np sp hp => ?_)); (case h1 => exact sz_small (Nat.le_of_ble_eq_true rfl)))
  | ((with_reducible refine' Rd.ic ?h1 ?_); (case h1 => walk_at "sd"))
  | ((with_reducible refine' Rd.setL ?h1 ?h2 ?h3 ?_); (case h1 => walk_at "lk"); (case h2 => exact rfl); (case h3 => walk_at "st")))
local macro_rules | `(tactic| walk_at "rd") => `(tactic| repeat walk_at "rd1")
local macro_rules | `(tactic| walk_at "lk") => `(tactic| first
  | assumption
  | exact upd_same
  | exact SqL.of upd_same
  | exact SqT.of upd_same
  | exact SqL.of (by assumption)
  | exact SqT.of (by assumption)
  | ((with_reducible refine' same_get ?lks ?lkh); (case lks => assumption); (case lkh => walk_at "lk"))
  | ((with_reducible refine' Same.seq ?lks ?lkh); (case lks => assumption); (case lkh => walk_at "lk"))
  | ((with_reducible refine' sqT_mono ?lks ?lkh); (case lks => assumption); (case lkh => walk_at "lk"))
  | ((with_reducible refine' dp_mono ?lks ?lkh); (case lks => assumption); (case lkh => walk_at "lk")))
local macro_rules | `(tactic| walk_at "sd") => `(tactic| first
  | assumption
  | decide
  | omega
  | exact Or.inl ⟨by decide, by decide⟩
  | exact ⟨by decide, by decide, by decide⟩
  | exact Or.inr ⟨by decide, by decide⟩
  | exact wide_div (by decide) (by decide : _ < 2 ^ 200) (by decide) (by decide)
  | exact wide_div (by assumption) (by assumption : _ < 2 ^ 200) (by decide) (by decide))

local macro_rules | `(tactic| walk_at "cl") => `(tactic| first | exact cl_Tree (by assumption) | exact cl_Spot (by assumption) | exact cl_Edit (by assumption))
local macro_rules | `(tactic| walk_at "na") => `(tactic| first | exact na_rows (by assumption) | exact na_left (by assumption) | exact na_tree (by assumption) | exact na_key (by assumption) | exact na_etree (by assumption) | exact na_saved (by assumption))
local macro_rules | `(tactic| walk_at "fl") => `(tactic| first | exact lk_head | exact lk_second (by decide +kernel))

section
variable {P : Program} {w : World} {K : PySem.W.Frag} {mg : Str → Option Value} {base : Heap} {A : Ad}
/-! ### a tree's fields -/
structure RestOk (rest : List (Str × V)) : Prop where
  len : rest.length ≤ 8
  no : ∀ m : Str, m ≠ "left" → m ≠ "log" → rest.lookup m = none
theorem n_lr : ¬ (("left" : Str) = "rows") := by decide +kernel
theorem n_rl : ¬ (("rows" : Str) = "left") := by decide +kernel
theorem n_tk : ¬ (("tree" : Str) = "key") := by decide +kernel
theorem n_ts : ¬ (("tree" : Str) = "saved") := by decide +kernel
theorem put_head {f : Str} {v y : V} {r : List (Str × V)} : putF f y ((f, v) :: r) = (f, y) :: r := by
  show (if f = f then _ else _) = _
  rw [if_pos rfl]
theorem put_tail {f g : Str} {v y : V} {r : List (Str × V)} (h : ¬ (g = f)) : putF f y ((g, v) :: r) = (g, v) :: putF f y r := by
  show (if g = f then _ else _) = _
  rw [if_neg h]
theorem rest_left (l : V) : RestOk [("left", l)] := ⟨(by decide : 1 ≤ 8), fun m h1 h2 => by rw [lk_tail (fun e => h1 e.symm)]; rfl⟩
def TreeAt (K : PySem.W.Frag) (C dx : Addr) (rest : List (Str × V)) (H : Hp) (t : Addr) (rows : List Row) : Prop := RestOk rest ∧ ∃ a, H t = some (.ins C dx (("rows", .ref a) :: rest)) ∧ RowsAt K H a rows
theorem TreeAt.mono {C dx : Addr} {rest : List (Str × V)} {H H1 : Hp} {t : Addr} {rows : List Row} (h : TreeAt K C dx rest H t rows) (s : Same H H1) : TreeAt K C dx rest H1 t rows := by
  obtain ⟨r, a, e, h⟩ := h
  exact ⟨r, a, s _ _ e, rows_mono s h⟩
theorem TreeAt.noM {C dx : Addr} {rest : List (Str × V)} {H : Hp} {t : Addr} {rows : List Row} (h : TreeAt K C dx rest H t rows) {v : V} {m : Str} (h1 : ¬ (("rows" : Str) = m)) (h2 : m ≠ "left") (h3 : m ≠ "log") : List.lookup m (("rows", v) :: rest) = none := by
  rw [lk_tail h1]
  exact h.1.no m h2 h3
def spTInit (K : PySem.W.Frag) (C : Addr) : Sp := fun vs H Q _ => ∃ t dx, vs = [.ref t] ∧ H t = some (.ins C dx []) ∧ ∀ H' l, Fr1 t H H' → TreeAt K C dx [("left", l)] H' t [] → Q .non H'
theorem ok_T_init (T : Txt K mg A) : FnOk P w K mg base (L2N.CX P w) 1 A.f_T_init A.d_T_init ["self"] (spTInit K A.c_Tree) := by
  refine T.F_T_init.okN sc_Tree___init__ (fun vs H Q E h => ?_) (fun cdv Ar outer s H vs Q E hr h => ?_)
  · obtain ⟨t, dx, rfl, _⟩ := h
    rfl
  · obtain ⟨t, dx, rfl, ht, q⟩ := h
    refine ⟨_, (pss_cons (Kx.ps_fld (K := K) rfl (pv 0) (pe_lst pa_nil) rfl)
    (pss_one (Kx.ps_fld (K := K) rfl (pv 0) (pe_lst pa_nil) rfl))), ?_⟩
    try dsimp only [cxOf]
    rw [show L2.start ["self"] [V.ref t] = [some (V.ref t)] from rfl]
    walk_at "rd"
    rename_i r H1 nr sr hr1
    refine Rd.sput (sr _ _ ht) T.k_Tree T.a_rows (Nat.le_of_ble_eq_true rfl) (fs' := [("rows", .ref r)]) rfl fun H2 f2 e2 => ?_
    walk_at "rd"
    rename_i l H3 nl sl hl
    refine Rd.sput (sl _ _ e2) T.k_Tree T.a_left (Nat.le_of_ble_eq_true rfl) (put_tail n_rl) fun H4 f4 e4 => ?_
    walk_at "rd"
    have ntr : r ≠ t := fun e => by rw [e, ht] at nr; cases nr
    refine q H4 (.ref l) (fun b o n e => f4 b o n (sl b o (f2 b o n (sr b o e)))) ⟨rest_left _, r, e4, [], SqL.of (f4 r _ ntr (sl r _ (f2 r _ ntr hr1))), .nil⟩
/-- put: a good one, and the three errors -/
def spPut (K : PySem.W.Frag) (A : Ad) (C : Addr) : Sp := fun vs H Q E => ∃ t v p dx rest rows d e, vs = [.ref t, v, p] ∧ TreeAt K C dx rest H t rows ∧ Dp K H v d ∧ Dp K H p e ∧ rows.length ≤ 90000 ∧
  (∀ k o H', d = .int k → e = optD o → keyD d = true → hasK rows d = false → (∀ q, o = some q → hasK rows (.int q) = true) → Fr1 t H H' → TreeAt K C dx rest H' t (putR rows k o) → Q .non H') ∧
  (keyD d = false → ErrIs A.c_BadKey "key" v H E) ∧ (hasK rows d = true → ErrIs A.c_KeyThere "key" v H E) ∧ (keyD d = true → hasK rows d = false → e ≠ .none → hasK rows e = false → ErrIs A.c_NoKey "key" p H E)
theorem keyD_int {d : PyData} (h : keyD d = true) : ∃ k, d = .int k := by cases d <;> first | exact ⟨_, rfl⟩ | cases h
theorem hasK_int' {rows : List Row} {d : PyData} (h : hasK rows d = true) : ∃ k, d = .int k := let ⟨k, e, _⟩ := hasK_int h; ⟨k, e⟩
theorem is_opt {rows : List Row} {e : PyData} (h : e = .none ∨ hasK rows e = true) : ∃ o, e = optD o ∧ ∀ q, o = some q → hasK rows (.int q) = true := by
  rcases h with h | h
  · exact ⟨none, h, fun q z => by cases z⟩
  · obtain ⟨k, rfl⟩ := hasK_int' h
    exact ⟨some k, rfl, fun q z => by cases z; exact h⟩
theorem ok_T_put (T : Txt K mg A) : FnOk P w K mg base (L2N.CX P w) 5 A.f_T_put A.d_T_put ["self", "key", "parent"] (spPut K A A.c_Tree) := by
  have G_is_key := ok_is_key (P := P) (w := w) (base := base) T
  have b_is_key := T.F_is_key.binds (ps := ["thing"]) fun _ _ _ _ _ _ us hl => match us, hl with | [_], _ => rfl
  have G_has_key := ok_has_key (P := P) (w := w) (base := base) T
  have b_has_key := T.F_has_key.binds (ps := ["rows", "key"]) fun _ _ _ _ _ _ us hl => match us, hl with | [_, _], _ => rfl
  have G_landing := ok_landing (P := P) (w := w) (base := base) T
  have b_landing := T.F_landing.binds (ps := ["rows", "parent"]) fun _ _ _ _ _ _ us hl => match us, hl with | [_, _], _ => rfl
  refine FunD.okN T.F_T_put sc_Tree_put (fun vs H Q E h => ?_) (fun cdv Ar outer s H vs Q E hr h => ?_)
  · obtain ⟨t, v, p, dx, rest, rows, d, e, rfl, _⟩ := h
    rfl
  · obtain ⟨t, v, p, dx, rest, rows, d, e, rfl, ⟨hrest, a, ht, hR⟩, hd, he, hl, q, q1, q2, q3⟩ := h
    have hu1 := hu65 hr
    refine ⟨_, (pss_cons (ps_if (pt_not (pt_val (pe_call G_is_key (hr.mono (by decide)) rfl T.g_is_key T.F_is_key.kp b_is_key .nil passD (pa_cons (pv 1) pa_nil)))) (pss_one (ps_raise1 rfl T.X_BadKey PySem.F.excBase_ValueError PySem.F.store_ValueError hr (L2N.takes_of rfl rfl rfl rfl) (pa_cons (pv 1) pa_nil))) pss_nil)
    (pss_cons (ps_if (pt_val (pe_call G_has_key (hr.mono (by decide)) rfl T.g_has_key T.F_has_key.kp b_has_key .nil passD (pa_cons (Kx.pe_fld (K := K) rfl (pv 0) rfl) (pa_cons (pv 1) pa_nil)))) (pss_one (ps_raise1 rfl T.X_KeyThere PySem.F.excBase_ValueError PySem.F.store_ValueError hr (L2N.takes_of rfl rfl rfl rfl) (pa_cons (pv 1) pa_nil))) pss_nil)
    (pss_cons (ps_set (i := 3) sc_Tree_put.nd rfl (by first | exact Or.inl rfl | exact Or.inr rfl) (pe_call G_landing (hr.mono (by decide)) rfl T.g_landing T.F_landing.kp b_landing .nil passD (pa_cons (Kx.pe_fld (K := K) rfl (pv 0) rfl) (pa_cons (pv 2) pa_nil))))
    (pss_one (Kx.ps_fld (K := K) rfl (pv 0) (pe_lst (StX.pa_star (pe_slice (Kx.sl_list (K := K) rfl) (Kx.pe_fld (K := K) rfl (pv 0) rfl) po_none (po_some (pv 3))) (pa_cons (pe_tup (pa_cons (pv 1) (pa_cons (pv 2) pa_nil))) (StX.pa_star (pe_slice (Kx.sl_list (K := K) rfl) (Kx.pe_fld (K := K) rfl (pv 0) rfl) (po_some (pv 3)) po_none) pa_nil)))) rfl))))), ?_⟩
    try dsimp only [cxOf]
    rw [show L2.start ["self", "key", "parent", "at"] [V.ref t, v, p] = [some (V.ref t), some (v), some (p), none] from rfl]
    walk_at "rd"
    refine ⟨v, d, rfl, hd, ?_⟩
    walk_at "rd"
    refine ite2 (fun h1 => ?_) (fun h1 => ?_)
    · have kd : keyD d = false := by simpa using h1
      walk_at "rd"
      refine Rd.errA fun D H2 nD sD hD => q1 kd _ _ sD hD
    · have kd : keyD d = true := by simpa using h1
      walk_at "rd"
      refine ⟨a, v, rows, d, rfl, hR, hd, by omega, fun H1 s1 => ?_⟩
      walk_at "rd"
      refine ite2 (fun h2 => ?_) (fun h2 => ?_)
      · walk_at "rd"
        refine Rd.errA fun D H2 nD sD hD => q2 h2 _ _ (s1.trans sD) hD
      · have hk : hasK rows d = false := Bool.eq_false_iff.mpr h2
        walk_at "rd"
        refine ⟨a, p, rows, e, rfl, rows_mono s1 hR, dp_mono s1 he, by omega, fun o H2 eo ho s2 => ?_, fun ne nh H2 D sD hD => q3 kd hk ne nh _ _ (s1.trans sD) hD⟩
        obtain ⟨k, rfl⟩ := keyD_int kd
        have ev := dp_int hd
        subst ev eo
        have ep := dp_opt he
        subst ep
        have s12 := s1.trans s2
        have hland : landF rows o ≤ rows.length := landF_le fun q z => hasK_mem (ho q z)
        obtain ⟨xs, hS, hX⟩ := rows_mono s12 hR
        have hlen : xs.length = rows.length := by rw [dpAll_len hX, List.length_map]
        walk_at "rd"
        rename_i qa Ha na sa ha b Hb nb sb hb qc Hc nc sc hc
        have sac : Same _ Hc := (sa.trans sb).trans sc
        refine Rd.newAt (by
          rw [List.length_append, List.length_cons, List.append_nil]
          have h1 := cutV_length xs none (some (landF rows o : Int))
          have h2 := cutV_length xs (some (landF rows o : Int)) none
          exact Nat.le_trans (by omega : _ ≤ 200001) (by decide)) fun z Hz nz sz hz => ?_
        walk_at "rd"
        have s2z : Same H Hz := (s12.trans sac).trans sz
        refine Rd.sput (s2z _ _ ht) T.k_Tree T.a_rows (Nat.lt_of_le_of_lt (Nat.succ_le_succ hrest.len) (by decide)) put_head fun H4 f4 e4 => ?_
        walk_at "rd"
        refine q k o H4 rfl rfl kd hk ho ((Same.fr1 s2z).trans f4) ⟨hrest, z, e4, _, SqL.of (f4 z _ (fun e => by rw [e, s2z _ _ ht] at hz; cases hz) hz), ?_⟩
        rw [cut_to, cut_from (by omega), List.append_nil]
        unfold putR
        rw [List.map_append, List.map_take, List.map_cons, List.map_drop]
        have hXz := dpAll_fr1 f4 (s2z _ _ ht) trivial (dpAll_mono (sac.trans sz) hX)
        have hbz : SqT K H4 b [.int k, optV o] := sqT_fr1 f4 (s2z _ _ ht) trivial (SqT.of (sz _ _ (sc _ _ hb)))
        exact dpAll_app (dpAll_take _ hXz) (.cons (row_dp (r := (k, o)) hbz) (dpAll_drop _ hXz))
end
end PR
end

section
set_option maxHeartbeats 4000000
namespace PR
open PySem L2 PySem.Spec PyProof.Rows PySem.EX
local macro_rules | `(tactic| walk_at "st") => `(tactic| first | exact setAt_z | exact setAt_s (by walk_at "st"))
local macro_rules | `(tactic| walk_at "rd1") => `(tactic| first
  | with_reducible refine Rd.seq ?_
  | with_reducible refine Rd.nxE ?_
  | with_reducible refine Rd.rtE ?_
  | with_reducible refine Rd.ctE ?_
  | with_reducible refine Rd.bkE ?_
  | with_reducible refine Rd.asg ?_
  | ((with_reducible refine' Rd.gname ?hs ?_); (case hs => walk_at "st"))
  | with_reducible refine Rd.ifS ?_
  | with_reducible refine Rd.ret ?_
  | with_reducible refine Rd.retN ?_
  | with_reducible refine Rd.drop ?_
  | with_reducible refine Rd.next ?_
  | ((with_reducible refine' Rd.var ?hv ?_); (case hv => exact rfl))
  | with_reducible refine Rd.c ?_
  | with_reducible refine Rd.op ?_
  | with_reducible refine Rd.un ?_
  | with_reducible refine Rd.neg ?_
  | with_reducible refine Rd.i0 ?_
  | with_reducible refine Rd.test ?_
  | with_reducible refine Rd.chain ?_
  | with_reducible refine Rd.tB ?_
  | with_reducible refine Rd.bl ?_
  | with_reducible refine Rd.not ?_
  | with_reducible refine Rd.and ?_
  | with_reducible refine Rd.or ?_
  | with_reducible refine Rd.andV ?_
  | with_reducible refine Rd.orV ?_
  | with_reducible refine Rd.notV ?_
  | with_reducible refine Rd.nilA ?_
  | with_reducible refine Rd.consA ?_
  | with_reducible refine Rd.cb ?_
  | with_reducible refine Rd.int1 ?_
  | with_reducible refine Rd.abs1 ?_
  | with_reducible refine Rd.gsub ?_
  | with_reducible refine Rd.tpar ?_
  | ((with_reducible refine' Rd.par ?hs ?ht ?_); (case hs => walk_at "st"); (case ht => walk_at "st"))
  | with_reducible refine Rd.ttup ?_
  | with_reducible refine Rd.tlst ?_
  | with_reducible refine Rd.isN ?_
  | with_reducible refine Rd.call ?_
  | with_reducible refine Rd.sl ?_
  | with_reducible refine Rd.noPart ?_
  | with_reducible refine Rd.part ?_
  | with_reducible refine Rd.ex_int ?_
  | with_reducible refine Rd.bm ?_
  | with_reducible refine Rd.tfld ?_
  | with_reducible refine Rd.tfor ?_
  | with_reducible refine Rd.tlc ?_
  | with_reducible refine Rd.mk1 ?_
  | with_reducible refine Rd.tdc ?_
  | with_reducible refine Rd.sfld ?_
  | with_reducible refine Rd.methP ?_
  | with_reducible refine Rd.xf ?_

  | with_reducible refine Rd.itemP ?_
  | with_reducible refine Rd.ost ?_
  | with_reducible refine Rd.enumT ?_
  | ((with_reducible refine' Rd.enumTAt ?h1 ?_); (case h1 => walk_at "lk"))
  | with_reducible refine Rd.meth ?_
  | with_reducible refine Rd.make ?_
  | with_reducible refine Rd.prop ?_
  | with_reducible refine Rd.item ?_
  | with_reducible refine Rd.sprop ?_
  | with_reducible refine Rd.star ?_
  | ((with_reducible refine' Rd.starL ?h1 ?_); (case h1 => walk_at "lk"))
  | with_reducible refine Rd.tdget ?_
  | ((with_reducible refine' Rd.fld ?h1 ?h2 ?h3 ?h4 ?_); (case h1 => walk_at "lk"); (case h2 => walk_at "cl"); (case h3 => walk_at "na"); (case h4 => walk_at "fl"))
  | ((with_reducible refine' Rd.ty ?h1 ?_); (case h1 => walk_at "lk"))
  | with_reducible refine Rd.tyes ?_
  | with_reducible refine Rd.noN ?_
  | with_reducible refine Rd.noNr ?_
  | with_reducible refine Rd.yesN ?_
  | with_reducible refine Rd.yesI ?_
  | with_reducible refine Rd.yesR ?_
  | with_reducible refine Rd.noNN ?_
  | with_reducible refine Rd.yes rfl ?_
  | with_reducible refine Rd.no Bool.false_ne_true ?_
  | ((with_reducible refine' Rd.wp ?h1 ?_); (case h1 => exact rfl))
  | ((with_reducible refine' Rd.isi ?h1 ?h2 ?_); (case h1 => walk_at "lk"); (case h2 => first | exact kit_int (dp_nodict (by assumption)) | exact kit_bool (dp_nodict (by assumption))))
  | with_reducible refine Rd.enum ?_
  | ((with_reducible refine' Rd.enumAt ?h1 ?_); (case h1 => walk_at "lk"))
  | with_reducible refine Rd.rng1 ?_
  | with_reducible refine Rd.rng2 ?_
  | with_reducible refine Rd.ilist ?_
  | with_reducible refine Rd.itup ?_
  | ((with_reducible refine' Rd.ilistAt ?h1 ?_); (case h1 => walk_at "lk"))
  | ((with_reducible refine' Rd.itupAt ?h1 ?_); (case h1 => walk_at "lk"))
  | ((with_reducible refine' Rd.slL ?h1 (fun q H1 nq sq hq => ?_)); (case h1 => walk_at "lk"))
  | with_reducible refine Rd.gcons ?_
  | with_reducible refine Rd.gnil ?_
  | ((with_reducible refine' Rd.gtup ?h1 ?h2 ?_); (case h1 => walk_at "lk"); (case h2 => exact rfl))
  | ((with_reducible refine' Rd.lenL ?h1 ?_); (case h1 => walk_at "lk"))
  | ((with_reducible refine' Rd.lenT ?h1 ?_); (case h1 => walk_at "lk"))
  | ((with_reducible refine' Rd.ixA ?h1 ?h2 ?_); (case h1 => walk_at "lk"); (case h2 => exact rfl))
  | ((with_reducible refine' Rd.ixB ?h1 ?h2 ?_); (case h1 => walk_at "lk"); (case h2 => exact rfl))
  | ((with_reducible refine' Rd.ixL ?h1 ?h2 ?_); (case h1 => walk_at "lk"); (case h2 => exact rfl))
  | ((with_reducible refine' Rd.newAt ?h1 (fun p H1 np sp hp => ?_)); (case h1 => exact sz_small (Nat.le_of_ble_eq_true rfl)))
  | ((with_reducible refine' Rd.ic ?h1 ?_); (case h1 => walk_at "sd"))
  | ((with_reducible refine' Rd.setL ?h1 ?h2 ?h3 ?_); (case h1 => walk_at "lk"); (case h2 => exact rfl); (case h3 => walk_at "st")))
local macro_rules | `(tactic| walk_at "rd") => `(tactic| repeat walk_at "rd1")
local macro_rules | `(tactic| walk_at "lk") => `(tactic| first
  | assumption
  | exact upd_same
  | exact SqL.of upd_same
  | exact SqT.of upd_same
  | exact SqL.of (by assumption)
  | exact SqT.of (by assumption)
  | ((with_reducible refine' same_get ?lks ?lkh); (case lks => assumption); (case lkh => walk_at "lk"))
  | ((with_reducible refine' Same.seq ?lks ?lkh); (case lks => assumption); (case lkh => walk_at "lk"))
  | ((with_reducible refine' sqT_mono ?lks ?lkh); (case lks => assumption); (case lkh => walk_at "lk"))
  | ((with_reducible refine' dp_mono ?lks ?lkh); (case lks => assumption); (case lkh => walk_at "lk")))
local macro_rules | `(tactic| walk_at "sd") => `(tactic| first
  | assumption
  | decide
  | omega
  | exact Or.inl ⟨by decide, by decide⟩
  | exact ⟨by decide, by decide, by decide⟩
  | exact Or.inr ⟨by decide, by decide⟩
  | exact wide_div (by decide) (by decide : _ < 2 ^ 200) (by decide) (by decide)
  | exact wide_div (by assumption) (by assumption : _ < 2 ^ 200) (by decide) (by decide))

local macro_rules | `(tactic| walk_at "cl") => `(tactic| first | exact cl_Tree (by assumption) | exact cl_Spot (by assumption) | exact cl_Edit (by assumption))
local macro_rules | `(tactic| walk_at "na") => `(tactic| first | exact na_rows (by assumption) | exact na_left (by assumption) | exact na_tree (by assumption) | exact na_key (by assumption) | exact na_etree (by assumption) | exact na_saved (by assumption))
local macro_rules | `(tactic| walk_at "fl") => `(tactic| first | exact lk_head | exact lk_second (by decide +kernel))

section
variable {P : Program} {w : World} {K : PySem.W.Frag} {mg : Str → Option Value} {base : Heap} {A : Ad}
def RingIs (A : Ad) (ps : List Int) (k : Int) (H : Hp) (E : XK) : Prop := ∀ H' D T, H T = none → Same H H' → H' D = some (.xd [("path", .ref T)]) → H' T = some (.tup ((ps.take (ps.idxOf k + 1)).map V.int)) → E (.ref A.c_Ring) (some D) H'
def spMove (K : PySem.W.Frag) (A : Ad) (C : Addr) : Sp := fun vs H Q E => ∃ t v p dx rest rows d e, vs = [.ref t, v, p] ∧ TreeAt K C dx rest H t rows ∧ Dp K H v d ∧ Dp K H p e ∧ Tr rows ∧ rows.length ≤ 90000 ∧
  (∀ k o H', d = .int k → e = optD o → hasK rows d = true → (∀ q, o = some q → hasK rows (.int q) = true ∧ ∃ ps, Up rows q ps ∧ k ∉ ps) → Fr1 t H H' → TreeAt K C dx rest H' t (moveF rows k o) → Q .non H') ∧
  (hasK rows d = false → ErrIs A.c_NoKey "key" v H E) ∧ (hasK rows d = true → e ≠ .none → hasK rows e = false → ErrIs A.c_NoKey "key" p H E) ∧
  (∀ k q ps, d = .int k → e = .int q → hasK rows d = true → hasK rows e = true → Up rows q ps → k ∈ ps → RingIs A ps k H E)
theorem hasK_of {rows : List Row} {k : Int} (h1 : hasK rows (.int k) = true) {rows' : List Row} (h : k ∈ keysOf rows') : hasK rows' (.int k) = true := by
  obtain ⟨h2, _⟩ := Bool.and_eq_true_iff.mp (show ((decide (-bigK < k) && decide (k < bigK)) && decide (k ∈ keysOf rows)) = true from h1)
  show ((decide (-bigK < k) && decide (k < bigK)) && decide (k ∈ keysOf rows')) = true
  rw [h2, decide_eq_true h]
  rfl
theorem ok_T_move (T : Txt K mg A) : FnOk P w K mg base (L2N.CX P w) 5 A.f_T_move A.d_T_move ["self", "key", "parent"] (spMove K A A.c_Tree) := by
  have G_place_of := ok_place_of (P := P) (w := w) (base := base) T
  have b_place_of := T.F_place_of.binds (ps := ["rows", "key"]) fun _ _ _ _ _ _ us hl => match us, hl with | [_, _], _ => rfl
  have G_end_of := ok_end_of (P := P) (w := w) (base := base) T
  have b_end_of := T.F_end_of.binds (ps := ["rows", "place"]) fun _ _ _ _ _ _ us hl => match us, hl with | [_, _], _ => rfl
  have G_path_up := ok_path_up (P := P) (w := w) (base := base) T
  have b_path_up := T.F_path_up.binds (ps := ["rows", "key"]) fun _ _ _ _ _ _ us hl => match us, hl with | [_, _], _ => rfl
  have G_landing := ok_landing (P := P) (w := w) (base := base) T
  have b_landing := T.F_landing.binds (ps := ["rows", "parent"]) fun _ _ _ _ _ _ us hl => match us, hl with | [_, _], _ => rfl
  refine T.F_T_move.okN sc_Tree_move (fun vs H Q E h => ?_) (fun cdv Ar outer s H vs Q E hr h => ?_)
  · obtain ⟨t, v, p, dx, rest, rows, d, e, rfl, _⟩ := h
    rfl
  · obtain ⟨t, v, p, dx, rest, rows, d, e, rfl, ⟨hrest, a, ht, hR⟩, hd, he, hT, hl, q, q1, q2, q3⟩ := h
    have hu1 := hu65 hr
    refine ⟨_, (pss_cons (ps_set (i := 3) sc_Tree_move.nd rfl (by first | exact Or.inl rfl | exact Or.inr rfl) (pe_call G_place_of (hr.mono (by decide)) rfl T.g_place_of T.F_place_of.kp b_place_of .nil passD (pa_cons (Kx.pe_fld (K := K) rfl (pv 0) rfl) (pa_cons (pv 1) pa_nil))))
    (pss_consM (ps_if (pt_cmpR op_notN (pv 2) pe_non (nomark _)) (pss_cons (ps_set (i := 4) sc_Tree_move.nd rfl (by first | exact Or.inl rfl | exact Or.inr rfl) (pe_call G_path_up (hr.mono (by decide)) rfl T.g_path_up T.F_path_up.kp b_path_up .nil passD (pa_cons (Kx.pe_fld (K := K) rfl (pv 0) rfl) (pa_cons (pv 2) pa_nil))))
    (pss_one (ps_if (pt_cmpR (Kx.op_inD (K := K) rfl hu1) (pv 1) (pv 4) (by with_unfolding_all rfl)) (pss_one (ps_raise1 rfl T.X_Ring PySem.F.excBase_ValueError PySem.F.store_ValueError hr (L2N.takes_of rfl rfl rfl rfl) (pa_cons (pe_callTy (Kx.call_tuple_of (K := K) rfl) (by rfl) T.n_tuple (by decide +kernel) (pa_cons (pe_slice (Kx.sl_list (K := K) rfl) (pv 4) po_none (po_some (pe_op op_add (pe_bm PySem.F.plainAttrs_list PySem.F.slot_list_index PySem.F.type_list_index (Kx.mt_indexD (K := K) rfl hu1) (pv 4) (pa_cons (pv 1) pa_nil)) pe_int))) pa_nil)) pa_nil))) pss_nil))) pss_nil)
    (pss_cons (ps_set (i := 5) sc_Tree_move.nd rfl (by first | exact Or.inl rfl | exact Or.inr rfl) (pe_call G_end_of (hr.mono (by decide)) rfl T.g_end_of T.F_end_of.kp b_end_of .nil passD (pa_cons (Kx.pe_fld (K := K) rfl (pv 0) rfl) (pa_cons (pv 3) pa_nil))))
    (pss_cons (ps_set (i := 6) sc_Tree_move.nd rfl (by first | exact Or.inl rfl | exact Or.inr rfl) (pe_lst (pa_cons (pe_tup (pa_cons (pv 1) (pa_cons (pv 2) pa_nil))) (StX.pa_star (pe_slice (Kx.sl_list (K := K) rfl) (Kx.pe_fld (K := K) rfl (pv 0) rfl) (po_some (pe_op op_add (pv 3) pe_int)) (po_some (pv 5))) pa_nil))))
    (pss_cons (ps_set (i := 7) sc_Tree_move.nd rfl (by first | exact Or.inl rfl | exact Or.inr rfl) (pe_op op_cat (pe_slice (Kx.sl_list (K := K) rfl) (Kx.pe_fld (K := K) rfl (pv 0) rfl) po_none (po_some (pv 3))) (pe_slice (Kx.sl_list (K := K) rfl) (Kx.pe_fld (K := K) rfl (pv 0) rfl) (po_some (pv 5)) po_none)))
    (pss_cons (ps_set (i := 8) sc_Tree_move.nd rfl (by first | exact Or.inl rfl | exact Or.inr rfl) (pe_call G_landing (hr.mono (by decide)) rfl T.g_landing T.F_landing.kp b_landing .nil passD (pa_cons (pv 7) (pa_cons (pv 2) pa_nil))))
    (pss_one (Kx.ps_fld (K := K) rfl (pv 0) (pe_op op_cat (pe_op op_cat (pe_slice (Kx.sl_list (K := K) rfl) (pv 7) po_none (po_some (pv 8))) (pv 6)) (pe_slice (Kx.sl_list (K := K) rfl) (pv 7) (po_some (pv 8)) po_none)) rfl)))))))), ?_⟩
    try dsimp only [cxOf]
    rw [show L2.start ["self", "key", "parent", "start", "path", "end", "block", "others", "at"] [V.ref t, v, p] = [some (V.ref t), some (v), some (p), none, none, none, none, none, none] from rfl]
    walk_at "rd"
    refine ⟨a, v, rows, d, rfl, hR, hd, by omega, fun k H1 ed hk s1 => ?_, q1⟩
    subst ed
    have ev := dp_int hd
    subst ev
    walk_at "rd"
    refine Rd.seqM (fun σ H2 => ∃ u o, Same H H2 ∧ e = optD o ∧ (∀ q, o = some q → hasK rows (.int q) = true ∧ ∃ ps, Up rows q ps ∧ k ∉ ps) ∧ σ = [some (V.ref t), some (V.int k), some p, some (V.int (idxK rows k : Nat)), u, none, none, none, none]) (fun nx hnx => ?_) ?_
    · walk_at "rd"
      refine ite2 (fun h1 => ?_) (fun h1 => ?_)
      · have ne : e ≠ .none := fun z => by
          rw [(dp_non he).mpr z, decide_eq_true rfl] at h1
          cases h1
        walk_at "rd"
        refine ⟨a, p, rows, e, rfl, rows_mono s1 hR, dp_mono s1 he, hT, by omega, fun kq ps pp H2 eq hkq hup npp s2 hpp => ?_, fun z H2 D sD hD => q2 hk ne z _ _ (s1.trans sD) hD⟩
        subst eq
        have ep := dp_int he
        subst ep
        walk_at "rd"
        refine Rd.inD (.int k) (.lst (SqL.of hpp) (dpAll_ints _)) (shaped_int _) (shaped_ints _) ?_
        rw [any_ints]
        walk_at "rd"
        refine ite2 (fun h2 => ?_) (fun h2 => ?_)
        · have hin : k ∈ ps := of_decide_eq_true h2
          walk_at "rd"
          refine Rd.indexI (SqL.of hpp) hin ?_
          walk_at "rd"
          rename_i z Hz nz sz hz
          refine ⟨z, _, rfl, .inl ⟨SqL.of hz, fun T nT => ?_⟩⟩
          walk_at "rd"
          refine Rd.errA fun D HD nD sD hD => ?_
          refine q3 k kq ps rfl rfl hk hkq hup hin _ _ T (((s1.trans s2).trans sz).free nT) (((s1.trans s2).trans sz).trans ((same_upd nT).trans sD)) hD (sD _ _ ?_)
          rw [upd_same]
          have e1 : ((ps.idxOf k : Nat) : Int) + 1 = ((ps.idxOf k + 1 : Nat) : Int) := by omega
          rw [e1, cut_to, List.map_take]
        · have hno : k ∉ ps := fun z => h2 (decide_eq_true z)
          walk_at "rd"
          exact hnx _ _ ⟨_, some kq, s1.trans s2, rfl, (fun q z => by cases z; exact ⟨hkq, ps, hup, hno⟩), rfl⟩
      · have ne : e = .none := by
          refine (dp_non he).mp ?_
          by_cases z : p = .non
          · exact z
          · rw [decide_eq_false z] at h1
            exact absurd rfl h1
        walk_at "rd"
        exact hnx _ _ ⟨_, none, s1, ne, (fun q z => by cases z), rfl⟩
    · rintro σ H2 ⟨u, o, s2, eo, ho, rfl⟩
      walk_at "rd"
      subst eo
      have ep := dp_opt he
      subst ep
      have hkm := hasK_mem hk
      have hilt := idxK_lt hkm
      have hele := endF_le hilt
      have hegt := endF_gt (rows := rows) (p := idxK rows k)
      refine ⟨a, rows, idxK rows k, rfl, rows_mono s2 hR, hilt, by omega, fun H3 s3 => ?_⟩
      have s23 := s2.trans s3
      obtain ⟨xs, hS, hX⟩ := rows_mono s23 hR
      have hlen : xs.length = rows.length := by rw [dpAll_len hX, List.length_map]
      walk_at "rd"
      rename_i b Hb nb sb hb qc Hc nc sc hc
      have e1 : ((idxK rows k : Nat) : Int) + 1 = ((idxK rows k + 1 : Nat) : Int) := by omega
      rw [e1, cut_mid (by omega) (by omega)] at hc
      rw [e1, cut_mid (by omega) (by omega)]
      refine Rd.newAt (by
        rw [List.length_cons, List.append_nil, List.length_take, List.length_drop]
        exact Nat.le_trans (by omega : _ ≤ 200001) (by decide)) fun B HB nB sB hB => ?_
      have hSB : SqL K HB a xs := ((sb.trans sc).trans sB).seq hS
      have htB : HB t = some (.ins A.c_Tree dx (("rows", .ref a) :: rest)) := sB _ _ (sc _ _ (sb _ _ (s23 _ _ ht)))
      walk_at "rd"
      rename_i q1a H1a n1a s1a h1a q1b H1b n1b s1b h1b
      rw [cut_to] at h1a
      rw [cut_from (by omega)] at h1b
      refine Rd.cat (s1b _ _ h1a) h1b (by
        rw [List.length_take, List.length_drop]
        exact Nat.le_trans (by omega : _ ≤ 200001) (by decide)) fun O HO_ nO sO hO => ?_
      have sBO : Same HB HO_ := (s1a.trans s1b).trans sO
      have sO_ : Same H HO_ := (((s23.trans sb).trans sc).trans sB).trans sBO
      have hXO : DpAll K HO_ xs (rows.map rowD) := dpAll_mono (((sb.trans sc).trans sB).trans sBO) hX
      have hRO : RowsAt K HO_ O (othersF rows k) := by
        refine ⟨_, SqL.of hO, ?_⟩
        unfold othersF
        rw [List.map_append, List.map_take, List.map_drop]
        exact dpAll_app (dpAll_take _ hXO) (dpAll_drop _ hXO)
      have hOl : (othersF rows k).length ≤ rows.length := by
        unfold othersF
        rw [List.length_append, List.length_take, List.length_drop]
        omega
      have hlandOk : ∀ q, o = some q → hasK (othersF rows k) (.int q) = true := fun q eq => by
        obtain ⟨h1, ps, hup, hno⟩ := ho q eq
        exact hasK_of h1 (others_key hT hkm hup hno)
      have hland : landF (othersF rows k) o ≤ (othersF rows k).length := landF_le fun q z => hasK_mem (hlandOk q z)
      walk_at "rd"
      refine ⟨O, optV o, othersF rows k, optD o, rfl, hRO, optV_dp o, by omega, fun o' H4 eo' ho' s4 => ?_, fun ne nh => ?_⟩
      · have eo2 : o' = o := by cases o <;> cases o' <;> first | rfl | (cases eo'; rfl) | cases eo'
        subst eo2
        obtain ⟨ys, hSO, hYO⟩ := rows_mono s4 hRO
        have hlenO : ys.length = (othersF rows k).length := by rw [dpAll_len hYO, List.length_map]
        have hB4 := s4 _ _ (sBO _ _ hB)
        have ht4 := s4 _ _ (sBO _ _ htB)
        have hb4 := s4 _ _ (sBO _ _ (sB _ _ (sc _ _ hb)))
        have hX4 := dpAll_mono s4 hXO
        have sH4 : Same H H4 := sO_.trans s4
        walk_at "rd"
        rename_i q2a H2a n2a s2a h2a
        rw [cut_to] at h2a
        refine Rd.cat h2a (s2a _ _ hB4) (by
          rw [List.length_take, List.length_cons, List.append_nil, List.length_take, List.length_drop]
          exact Nat.le_trans (by omega : _ ≤ 400001) (by decide)) fun C1 HC nC sC hC => ?_
        have hSOC : SqL K HC O ys := (s2a.trans sC).seq hSO
        walk_at "rd"
        rename_i q2b H2b n2b s2b h2b
        rw [cut_from (by omega)] at h2b
        refine Rd.cat (s2b _ _ hC) h2b (by
          rw [List.length_append, List.length_take, List.length_cons, List.append_nil, List.length_take, List.length_drop, List.length_drop]
          exact Nat.le_trans (by omega : _ ≤ 600001) (by decide)) fun Z HZ nZ sZ hZ => ?_
        have s4Z : Same H4 HZ := ((s2a.trans sC).trans s2b).trans sZ
        walk_at "rd"
        have sHZ : Same H HZ := sH4.trans s4Z
        refine Rd.sput (sHZ _ _ ht) T.k_Tree T.a_rows (Nat.lt_of_le_of_lt (Nat.succ_le_succ hrest.len) (by decide)) put_head fun H9 f9 e9 => ?_
        walk_at "rd"
        refine q k o' H9 rfl rfl hk (fun q z => by obtain ⟨h1, ps, hup, hno⟩ := ho q z; exact ⟨h1, ps, hup, hno⟩) ((Same.fr1 sHZ).trans f9) ⟨hrest, Z, e9, _, SqL.of (f9 Z _ (fun e => by rw [e, sHZ _ _ ht] at hZ; cases hZ) hZ), ?_⟩
        have htZ := sHZ _ _ ht
        have hX9 := dpAll_fr1 f9 htZ trivial (dpAll_mono s4Z hX4)
        have hY9 := dpAll_fr1 f9 htZ trivial (dpAll_mono s4Z hYO)
        have hb9 : SqT K H9 b [.int k, optV o'] := sqT_fr1 f9 htZ trivial (SqT.of (s4Z _ _ hb4))
        unfold moveF blockF
        rw [List.map_append, List.map_append, List.map_take, List.map_cons, List.map_take, List.map_drop, List.map_drop, List.append_nil]
        exact dpAll_app (dpAll_app (dpAll_take _ hY9) (.cons (row_dp (r := (k, o')) hb9) (dpAll_take _ (dpAll_drop _ hX9)))) (dpAll_drop _ hY9)
      · obtain ⟨q0, eq0⟩ : ∃ q0, o = some q0 := by
          cases o with
          | none => exact absurd rfl ne
          | some q0 => exact ⟨q0, rfl⟩
        subst eq0
        have := hlandOk q0 rfl
        rw [show optD (some q0) = PyData.int q0 from rfl, this] at nh
        cases nh
end
end PR
end

section
set_option maxHeartbeats 4000000
namespace PR
open PySem L2 PySem.Spec PyProof.Rows PySem.EX
local macro_rules | `(tactic| walk_at "st") => `(tactic| first | exact setAt_z | exact setAt_s (by walk_at "st"))
local macro_rules | `(tactic| walk_at "rd1") => `(tactic| first
  | with_reducible refine Rd.seq ?_
  | with_reducible refine Rd.nxE ?_
  | with_reducible refine Rd.rtE ?_
  | with_reducible refine Rd.ctE ?_
  | with_reducible refine Rd.bkE ?_
  | with_reducible refine Rd.asg ?_
  | ((with_reducible refine' Rd.gname ?hs ?_); (case hs => walk_at "st"))
  | with_reducible refine Rd.ifS ?_
  | with_reducible refine Rd.ret ?_
  | with_reducible refine Rd.retN ?_
  | with_reducible refine Rd.drop ?_
  | with_reducible refine Rd.next ?_
  | ((with_reducible refine' Rd.var ?hv ?_); (case hv => exact rfl))
  | with_reducible refine Rd.c ?_
  | with_reducible refine Rd.op ?_
  | with_reducible refine Rd.un ?_
  | with_reducible refine Rd.neg ?_
  | with_reducible refine Rd.i0 ?_
  | with_reducible refine Rd.test ?_
  | with_reducible refine Rd.chain ?_
  | with_reducible refine Rd.tB ?_
  | with_reducible refine Rd.bl ?_
  | with_reducible refine Rd.not ?_
  | with_reducible refine Rd.and ?_
  | with_reducible refine Rd.or ?_
  | with_reducible refine Rd.andV ?_
  | with_reducible refine Rd.orV ?_
  | with_reducible refine Rd.notV ?_
  | with_reducible refine Rd.nilA ?_
  | with_reducible refine Rd.consA ?_
  | with_reducible refine Rd.cb ?_
  | with_reducible refine Rd.int1 ?_
  | with_reducible refine Rd.abs1 ?_
  | with_reducible refine Rd.gsub ?_
  | with_reducible refine Rd.tpar ?_
  | ((with_reducible refine' Rd.par ?hs ?ht ?_); (case hs => walk_at "st"); (case ht => walk_at "st"))
  | with_reducible refine Rd.ttup ?_
  | with_reducible refine Rd.tlst ?_
  | with_reducible refine Rd.isN ?_
  | with_reducible refine Rd.call ?_
  | with_reducible refine Rd.sl ?_
  | with_reducible refine Rd.noPart ?_
  | with_reducible refine Rd.part ?_
  | with_reducible refine Rd.ex_int ?_
  | with_reducible refine Rd.bm ?_
  | with_reducible refine Rd.tfld ?_
  | with_reducible refine Rd.tfor ?_
  | with_reducible refine Rd.tlc ?_
  | with_reducible refine Rd.mk1 ?_
  | with_reducible refine Rd.tdc ?_
  | with_reducible refine Rd.sfld ?_
  | with_reducible refine Rd.methP ?_
  | with_reducible refine Rd.xf ?_

  | with_reducible refine Rd.itemP ?_
  | with_reducible refine Rd.ost ?_
  | with_reducible refine Rd.enumT ?_
  | ((with_reducible refine' Rd.enumTAt ?h1 ?_); (case h1 => walk_at "lk"))
  | with_reducible refine Rd.meth ?_
  | with_reducible refine Rd.make ?_
  | with_reducible refine Rd.prop ?_
  | with_reducible refine Rd.item ?_
  | with_reducible refine Rd.sprop ?_
  | with_reducible refine Rd.star ?_
  | ((with_reducible refine' Rd.starL ?h1 ?_); (case h1 => walk_at "lk"))
  | with_reducible refine Rd.tdget ?_
  | ((with_reducible refine' Rd.fld ?h1 ?h2 ?h3 ?h4 ?_); (case h1 => walk_at "lk"); (case h2 => walk_at "cl"); (case h3 => walk_at "na"); (case h4 => walk_at "fl"))
  | ((with_reducible refine' Rd.ty ?h1 ?_); (case h1 => walk_at "lk"))
  | with_reducible refine Rd.tyes ?_
  | with_reducible refine Rd.noN ?_
  | with_reducible refine Rd.noNr ?_
  | with_reducible refine Rd.yesN ?_
  | with_reducible refine Rd.yesI ?_
  | with_reducible refine Rd.yesR ?_
  | with_reducible refine Rd.noNN ?_
  | with_reducible refine Rd.yes rfl ?_
  | with_reducible refine Rd.no Bool.false_ne_true ?_
  | ((with_reducible refine' Rd.wp ?h1 ?_); (case h1 => exact rfl))
  | ((with_reducible refine' Rd.isi ?h1 ?h2 ?_); (case h1 => walk_at "lk"); (case h2 => first | exact kit_int (dp_nodict (by assumption)) | exact kit_bool (dp_nodict (by assumption))))
  | with_reducible refine Rd.enum ?_
  | ((with_reducible refine' Rd.enumAt ?h1 ?_); (case h1 => walk_at "lk"))
  | with_reducible refine Rd.rng1 ?_
  | with_reducible refine Rd.rng2 ?_
  | with_reducible refine Rd.ilist ?_
  | with_reducible refine Rd.itup ?_
  | ((with_reducible refine' Rd.ilistAt ?h1 ?_); (case h1 => walk_at "lk"))
  | ((with_reducible refine' Rd.itupAt ?h1 ?_); (case h1 => walk_at "lk"))
  | ((with_reducible refine' Rd.slL ?h1 (fun q H1 nq sq hq => ?_)); (case h1 => walk_at "lk"))
  | with_reducible refine Rd.gcons ?_
  | with_reducible refine Rd.gnil ?_
  | ((with_reducible refine' Rd.gtup ?h1 ?h2 ?_); (case h1 => walk_at "lk"); (case h2 => exact rfl))
  | ((with_reducible refine' Rd.lenL ?h1 ?_); (case h1 => walk_at "lk"))
  | ((with_reducible refine' Rd.lenT ?h1 ?_); (case h1 => walk_at "lk"))
  | ((with_reducible refine' Rd.ixA ?h1 ?h2 ?_); (case h1 => walk_at "lk"); (case h2 => exact rfl))
  | ((with_reducible refine' Rd.ixB ?h1 ?h2 ?_); (case h1 => walk_at "lk"); (case h2 => exact rfl))
  | ((with_reducible refine' Rd.ixL ?h1 ?h2 ?_); (case h1 => walk_at "lk"); (case h2 => exact rfl))
  | ((with_reducible refine' Rd.newAt ?h1 (fun p H1 np sp hp => ?_)); (case h1 => exact sz_small (Nat.le_of_ble_eq_true rfl)))
  | ((with_reducible refine' Rd.ic ?h1 ?_); (case h1 => walk_at "sd"))
  | ((with_reducible refine' Rd.setL ?h1 ?h2 ?h3 ?_); (case h1 => walk_at "lk"); (case h2 => exact rfl); (case h3 => walk_at "st")))
local macro_rules | `(tactic| walk_at "rd") => `(tactic| repeat walk_at "rd1")
local macro_rules | `(tactic| walk_at "lk") => `(tactic| first
  | assumption
  | exact upd_same
  | exact SqL.of upd_same
  | exact SqT.of upd_same
  | exact SqL.of (by assumption)
  | exact SqT.of (by assumption)
  | ((with_reducible refine' same_get ?lks ?lkh); (case lks => assumption); (case lkh => walk_at "lk"))
  | ((with_reducible refine' Same.seq ?lks ?lkh); (case lks => assumption); (case lkh => walk_at "lk"))
  | ((with_reducible refine' sqT_mono ?lks ?lkh); (case lks => assumption); (case lkh => walk_at "lk"))
  | ((with_reducible refine' dp_mono ?lks ?lkh); (case lks => assumption); (case lkh => walk_at "lk")))
local macro_rules | `(tactic| walk_at "sd") => `(tactic| first
  | assumption
  | decide
  | omega
  | exact Or.inl ⟨by decide, by decide⟩
  | exact ⟨by decide, by decide, by decide⟩
  | exact Or.inr ⟨by decide, by decide⟩
  | exact wide_div (by decide) (by decide : _ < 2 ^ 200) (by decide) (by decide)
  | exact wide_div (by assumption) (by assumption : _ < 2 ^ 200) (by decide) (by decide))

local macro_rules | `(tactic| walk_at "cl") => `(tactic| first | exact cl_Tree (by assumption) | exact cl_Spot (by assumption) | exact cl_Edit (by assumption))
local macro_rules | `(tactic| walk_at "na") => `(tactic| first | exact na_rows (by assumption) | exact na_left (by assumption) | exact na_tree (by assumption) | exact na_key (by assumption) | exact na_etree (by assumption) | exact na_saved (by assumption))
local macro_rules | `(tactic| walk_at "fl") => `(tactic| first | exact lk_head | exact lk_second (by decide +kernel))

section
variable {P : Program} {w : World} {K : PySem.W.Frag} {mg : Str → Option Value} {base : Heap} {A : Ad}
abbrev spotF (t : Addr) (v : V) : List (Str × V) := [("tree", .ref t), ("key", v)]
abbrev editF (t : Addr) (v : V) : List (Str × V) := [("tree", .ref t), ("saved", v)]
/-- a new instance: all else is as it was -/
theorem made_same {H H2 : Hp} {x dx : Addr} {o u : HO} (hx : H x = none) (hdx : H dx = none) (f : Fr1 x (upd (upd H dx o) x u) H2) : Same H H2 := fun b z e => by
  refine f b z (ne_of_none e hx) ?_
  rw [upd_ne (ne_of_none e hx), upd_ne (ne_of_none e hdx)]
  exact e
def spSInit (A : Ad) : Sp := fun vs H Q _ => ∃ s t v dx, vs = [.ref s, .ref t, v] ∧ H s = some (.ins A.c_Spot dx []) ∧ ∀ H', Fr1 s H H' → H' s = some (.ins A.c_Spot dx (spotF t v)) → Q .non H'
theorem ok_S_init (T : Txt K mg A) : FnOk P w K mg base (L2N.CX P w) 1 A.f_S_init A.d_S_init ["self", "tree", "key"] (spSInit A) := by
  refine T.F_S_init.okN sc_Spot___init__ (fun vs H Q E h => ?_) (fun cdv Ar outer s H vs Q E hr h => ?_)
  · obtain ⟨s, t, v, dx, rfl, _⟩ := h
    rfl
  · obtain ⟨sp, t, v, dx, rfl, hs, q⟩ := h
    refine ⟨_, (pss_cons (Kx.ps_fld (K := K) rfl (pv 0) (pv 1) rfl)
    (pss_one (Kx.ps_fld (K := K) rfl (pv 0) (pv 2) rfl))), ?_⟩
    try dsimp only [cxOf]
    rw [show L2.start ["self", "tree", "key"] [V.ref sp, V.ref t, v] = [some (V.ref sp), some (V.ref t), some (v)] from rfl]
    walk_at "rd"
    refine Rd.sput hs T.k_Spot T.a_tree (Nat.le_of_ble_eq_true rfl) (fs' := [("tree", .ref t)]) rfl fun H2 f2 e2 => ?_
    walk_at "rd"
    refine Rd.sput e2 T.k_Spot T.a_key (Nat.le_of_ble_eq_true rfl) (put_tail n_tk) fun H4 f4 e4 => ?_
    walk_at "rd"
    exact q H4 (f2.trans f4) e4
def spItem (K : PySem.W.Frag) (A : Ad) (C : Addr) : Sp := fun vs H Q E => ∃ t v dx rest rows d, vs = [.ref t, v] ∧ TreeAt K C dx rest H t rows ∧ Dp K H v d ∧ rows.length ≤ 90000 ∧
  (hasK rows d = true → ∀ H' s sx, H s = none → Same H H' → H' s = some (.ins A.c_Spot sx (spotF t v)) → Q (.ref s) H') ∧ (hasK rows d = false → ErrIs A.c_NoKey "key" v H E)
theorem ok_T_item (T : Txt K mg A) : FnOk P w K mg base (L2N.CX P w) 4 A.f_T_item A.d_T_item ["self", "key"] (spItem K A A.c_Tree) := by
  have G_place_of := ok_place_of (P := P) (w := w) (base := base) T
  have b_place_of := T.F_place_of.binds (ps := ["rows", "key"]) fun _ _ _ _ _ _ us hl => match us, hl with | [_, _], _ => rfl
  have G_S_init := ok_S_init (P := P) (w := w) (base := base) T
  have b_S_init := T.F_S_init.binds (ps := ["self", "tree", "key"]) fun _ _ _ _ _ _ us hl => match us, hl with | [_, _, _], _ => rfl
  refine T.F_T_item.okN sc_Tree___getitem__ (fun vs H Q E h => ?_) (fun cdv Ar outer s H vs Q E hr h => ?_)
  · obtain ⟨t, v, dx, rest, rows, d, rfl, _⟩ := h
    rfl
  · obtain ⟨t, v, dx, rest, rows, d, rfl, ⟨hrest, a, ht, hR⟩, hd, hl, q, qe⟩ := h
    have hu1 := hu65 hr
    refine ⟨_, (pss_cons (ps_expr (pe_call G_place_of (hr.mono (by decide)) rfl T.g_place_of T.F_place_of.kp b_place_of .nil passD (pa_cons (Kx.pe_fld (K := K) rfl (pv 0) rfl) (pa_cons (pv 1) pa_nil))))
    (pss_one (ps_ret (pe_make T.m_Spot G_S_init (hr.mono (by decide)) rfl T.g_Spot b_S_init .nil passD (pa_cons (pv 0) (pa_cons (pv 1) pa_nil)))))), ?_⟩
    try dsimp only [cxOf]
    rw [show L2.start ["self", "key"] [V.ref t, v] = [some (V.ref t), some (v)] from rfl]
    walk_at "rd"
    refine ⟨a, v, rows, d, rfl, hR, hd, by omega, fun k H1 ed hk s1 => ?_, qe⟩
    walk_at "rd"
    intro x dx' hx hdx hne
    refine ⟨x, t, v, dx', rfl, upd_same, fun H2 f2 e2 => ⟨rfl, ?_⟩⟩
    have s2 := made_same hx hdx f2
    exact q hk H2 x dx' (s1.free hx) (s1.trans s2) e2
def spGet (K : PySem.W.Frag) (A : Ad) (C : Addr) : Sp := fun vs H Q E => ∃ s t v sx dx rest rows d, vs = [.ref s] ∧ H s = some (.ins A.c_Spot sx (spotF t v)) ∧ TreeAt K C dx rest H t rows ∧ Dp K H v d ∧ rows.length ≤ 90000 ∧
  (∀ k o H', d = .int k → hasK rows d = true → rows[idxK rows k]? = some (k, o) → Same H H' → Q (optV o) H') ∧ (hasK rows d = false → ErrIs A.c_NoKey "key" v H E)
theorem ok_S_get (T : Txt K mg A) : FnOk P w K mg base (L2N.CX P w) 4 A.f_S_get A.d_S_get ["self"] (spGet K A A.c_Tree) := by
  have G_place_of := ok_place_of (P := P) (w := w) (base := base) T
  have b_place_of := T.F_place_of.binds (ps := ["rows", "key"]) fun _ _ _ _ _ _ us hl => match us, hl with | [_, _], _ => rfl
  refine T.F_S_get.okN sc_Spot_parent (fun vs H Q E h => ?_) (fun cdv Ar outer s H vs Q E hr h => ?_)
  · obtain ⟨s, t, v, sx, dx, rest, rows, d, rfl, _⟩ := h
    rfl
  · obtain ⟨sp, t, v, sx, dx, rest, rows, d, rfl, hs, ⟨hrest, a, ht, hR⟩, hd, hl, q, qe⟩ := h
    have hu1 := hu65 hr
    refine ⟨_, (pss_one (ps_ret (pe_ix (Kx.ix_seq (K := K) rfl) (pe_ix (Kx.ix_seq (K := K) rfl) (Kx.pe_fld (K := K) rfl (Kx.pe_fld (K := K) rfl (pv 0) rfl) rfl) (pe_call G_place_of (hr.mono (by decide)) rfl T.g_place_of T.F_place_of.kp b_place_of .nil passD (pa_cons (Kx.pe_fld (K := K) rfl (Kx.pe_fld (K := K) rfl (pv 0) rfl) rfl) (pa_cons (Kx.pe_fld (K := K) rfl (pv 0) rfl) pa_nil))) (fun _ _ => rfl)) pe_int (fun _ _ => rfl)))), ?_⟩
    try dsimp only [cxOf]
    rw [show L2.start ["self"] [V.ref sp] = [some (V.ref sp)] from rfl]
    walk_at "rd"
    refine ⟨a, v, rows, d, rfl, hR, hd, by omega, fun k H1 ed hk s1 => ?_, qe⟩
    subst ed
    obtain ⟨o, eo⟩ := idxK_get (hasK_mem hk)
    obtain ⟨xs, hS, hX⟩ := rows_mono s1 hR
    obtain ⟨b, eb, hb⟩ := rows_at hX eo
    walk_at "rd"
    refine Rd.ixA hS (at_of rfl eb) ?_
    walk_at "rd"
    exact q k o H1 rfl hk eo s1
def spSet (K : PySem.W.Frag) (A : Ad) (C : Addr) : Sp := fun vs H Q E => ∃ s t v p sx, vs = [.ref s, p] ∧ H s = some (.ins A.c_Spot sx (spotF t v)) ∧ spMove K A C [.ref t, v, p] H (fun _ H' => Q .non H') E
theorem move_at {C t : Addr} {v p : V} {H : Hp} {Q : VK} {E : XK} (h : spMove K A C [.ref t, v, p] H Q E) {m : Str} (h1 : ¬ (("rows" : Str) = m)) (h2 : m ≠ "left") (h3 : m ≠ "log") : ∃ dx fs, H t = some (.ins C dx fs) ∧ List.lookup m fs = none := by
  obtain ⟨t', v', p', dx, rest, rows, d, e, e1, hT, _⟩ := h
  cases e1
  obtain ⟨_, a, e, _⟩ := id hT
  exact ⟨dx, _, e, hT.noM h1 h2 h3⟩
theorem n_m1 : ¬ (("rows" : Str) = "move") := by decide +kernel
theorem n_m2 : ("move" : Str) ≠ "left" := by decide +kernel
theorem n_m3 : ("move" : Str) ≠ "log" := by decide +kernel
theorem ok_S_set (T : Txt K mg A) : FnOk P w K mg base (L2N.CX P w) 6 A.f_S_set A.d_S_set ["self", "value"] (spSet K A A.c_Tree) := by
  have G_T_move := ok_T_move (P := P) (w := w) (base := base) T
  have b_T_move := T.F_T_move.binds (ps := ["self", "key", "parent"]) fun _ _ _ _ _ _ us hl => match us, hl with | [_, _, _], _ => rfl
  refine T.F_S_set.okN sc_Spot_parent_1 (fun vs H Q E h => ?_) (fun cdv Ar outer s H vs Q E hr h => ?_)
  · obtain ⟨s, t, v, p, sx, rfl, _⟩ := h
    rfl
  · obtain ⟨sp, t, v, p, sx, rfl, hs, hm⟩ := h
    refine ⟨_, (pss_one (ps_expr (pe_meth (Kx.pe_fld (K := K) rfl (pv 0) rfl) T.k_Tree T.m_move G_T_move (hr.mono (by decide)) b_T_move .nil passD (pa_cons (Kx.pe_fld (K := K) rfl (pv 0) rfl) (pa_cons (pv 1) pa_nil))))), ?_⟩
    try dsimp only [cxOf]
    rw [show L2.start ["self", "value"] [V.ref sp, p] = [some (V.ref sp), some (p)] from rfl]
    obtain ⟨dx, fs, ht, lk⟩ := move_at hm n_m1 n_m2 n_m3
    walk_at "rd"
    refine Rd.methAt ht lk ?_
    walk_at "rd"
    exact hm
theorem ok_S_under (T : Txt K mg A) : FnOk P w K mg base (L2N.CX P w) 9 A.f_S_under A.d_S_under ["self", "parent"] (spSet K A A.c_Tree) := by
  have G_S_set := ok_S_set (P := P) (w := w) (base := base) T
  have b_S_set := T.F_S_set.binds (ps := ["self", "value"]) fun _ _ _ _ _ _ us hl => match us, hl with | [_, _], _ => rfl
  refine T.F_S_under.okN sc_Spot_under (fun vs H Q E h => ?_) (fun cdv Ar outer s H vs Q E hr h => ?_)
  · obtain ⟨s, t, v, p, sx, rfl, _⟩ := h
    rfl
  · obtain ⟨sp, t, v, p, sx, rfl, hs, hm⟩ := h
    refine ⟨_, (pss_one (ps_prop (pv 0) (pv 1) T.k_Spot T.p_set G_S_set (hr.mono (by decide)) b_S_set passD rfl)), ?_⟩
    try dsimp only [cxOf]
    rw [show L2.start ["self", "parent"] [V.ref sp, p] = [some (V.ref sp), some (p)] from rfl]
    walk_at "rd"
    exact ⟨sp, sx, _, rfl, hs, sp, t, v, p, sx, rfl, hs, hm⟩
def spEInit (A : Ad) : Sp := fun vs H Q _ => ∃ s t dx, vs = [.ref s, .ref t] ∧ H s = some (.ins A.c_Edit dx []) ∧ ∀ H' l, Fr1 s H H' → H' s = some (.ins A.c_Edit dx (editF t l)) → Q .non H'
theorem ok_E_init (T : Txt K mg A) : FnOk P w K mg base (L2N.CX P w) 1 A.f_E_init A.d_E_init ["self", "tree"] (spEInit A) := by
  refine T.F_E_init.okN sc_Edit___init__ (fun vs H Q E h => ?_) (fun cdv Ar outer s H vs Q E hr h => ?_)
  · obtain ⟨s, t, dx, rfl, _⟩ := h
    rfl
  · obtain ⟨sp, t, dx, rfl, hs, q⟩ := h
    refine ⟨_, (pss_cons (Kx.ps_fld (K := K) rfl (pv 0) (pv 1) rfl)
    (pss_one (Kx.ps_fld (K := K) rfl (pv 0) (pe_lst pa_nil) rfl))), ?_⟩
    try dsimp only [cxOf]
    rw [show L2.start ["self", "tree"] [V.ref sp, V.ref t] = [some (V.ref sp), some (V.ref t)] from rfl]
    walk_at "rd"
    refine Rd.sput hs T.k_Edit T.a_etree (Nat.le_of_ble_eq_true rfl) (fs' := [("tree", .ref t)]) rfl fun H2 f2 e2 => ?_
    walk_at "rd"
    rename_i r H3 nr sr hr1
    refine Rd.sput (sr _ _ e2) T.k_Edit T.a_saved (Nat.le_of_ble_eq_true rfl) (put_tail n_ts) fun H4 f4 e4 => ?_
    walk_at "rd"
    exact q H4 (.ref r) ((f2.trans (Same.fr1 sr)).trans f4) e4
def spEnter (K : PySem.W.Frag) (A : Ad) (C : Addr) : Sp := fun vs H Q _ => ∃ s t l sx dx rest rows, vs = [.ref s] ∧ H s = some (.ins A.c_Edit sx (editF t l)) ∧ TreeAt K C dx rest H t rows ∧ ∀ H' b, Fr1 s H H' → H' s = some (.ins A.c_Edit sx (editF t (.ref b))) → RowsAt K H' b rows → Q (.ref t) H'
theorem ok_E_enter (T : Txt K mg A) : FnOk P w K mg base (L2N.CX P w) 1 A.f_E_enter A.d_E_enter ["self"] (spEnter K A A.c_Tree) := by
  refine T.F_E_enter.okN sc_Edit___enter__ (fun vs H Q E h => ?_) (fun cdv Ar outer s H vs Q E hr h => ?_)
  · obtain ⟨s, t, l, sx, dx, rest, rows, rfl, _⟩ := h
    rfl
  · obtain ⟨sp, t, l, sx, dx, rest, rows, rfl, hs, ⟨hrest, a, ht, hR⟩, q⟩ := h
    refine ⟨_, (pss_cons (Kx.ps_fld (K := K) rfl (pv 0) (pe_callTy (Kx.call_list_of (K := K) rfl) (by rfl) T.n_list (by decide +kernel) (pa_cons (Kx.pe_fld (K := K) rfl (Kx.pe_fld (K := K) rfl (pv 0) rfl) rfl) pa_nil)) rfl)
    (pss_one (ps_ret (Kx.pe_fld (K := K) rfl (pv 0) rfl)))), ?_⟩
    try dsimp only [cxOf]
    rw [show L2.start ["self"] [V.ref sp] = [some (V.ref sp)] from rfl]
    obtain ⟨xs, hS, hX⟩ := hR
    walk_at "rd"
    refine ⟨a, xs, rfl, .inl hS, fun b hb => ?_⟩
    have sb : Same H (upd H b (.lst xs)) := same_upd hb
    have hbb : upd H b (.lst xs) b = some (.lst xs) := upd_same
    generalize upd H b (.lst xs) = H1 at sb hbb
    walk_at "rd"
    refine Rd.sput (sb _ _ hs) T.k_Edit T.a_saved (Nat.le_of_ble_eq_true rfl) ((put_tail n_ts).trans (congrArg _ put_head)) fun H2 f2 e2 => ?_
    walk_at "rd"
    have nbs : b ≠ sp := fun e => by rw [e, sb _ _ hs] at hbb; cases hbb
    refine q H2 b ((Same.fr1 sb).trans f2) e2 ⟨xs, SqL.of (f2 b _ nbs hbb), ?_⟩
    exact dpAll_fr1 f2 (sb _ _ hs) trivial (dpAll_mono sb hX)
def spExit (K : PySem.W.Frag) (A : Ad) (C : Addr) : Sp := fun vs H Q _ => ∃ s k x y, vs = [.ref s, k, x, y] ∧ (k = .non → Q .non H) ∧ (k ≠ .non → ∃ sx t b dx r rest, H s = some (.ins A.c_Edit sx (editF t (.ref b))) ∧ H t = some (.ins C dx (("rows", r) :: rest)) ∧ rest.length ≤ 8 ∧
  ∀ H', Fr1 t H H' → H' t = some (.ins C dx (("rows", .ref b) :: rest)) → Q .non H')
theorem ok_E_exit (T : Txt K mg A) : FnOk P w K mg base (L2N.CX P w) 1 A.f_E_exit A.d_E_exit ["self", "kind", "value", "trace"] (spExit K A A.c_Tree) ∧ FnM P w K mg base (L2.CX P w) 1 A.f_E_exit A.d_E_exit ["self", "kind", "value", "trace"] (spExit K A A.c_Tree) := by
  have len : ∀ vs H Q E, spExit K A A.c_Tree vs H Q E → vs.length = 4 := fun vs H Q E h => by
    obtain ⟨s, k, x, y, rfl, _⟩ := h
    rfl
  refine ⟨T.F_E_exit.okN sc_Edit___exit__ len (fun cdv Ar outer s H vs Q E hr h => ?_), T.F_E_exit.okM sc_Edit___exit__ len (fun cdv Ar outer s H vs Q E p hr h => ?_)⟩
  all_goals
    obtain ⟨sp, k, x, y, rfl, q1, q2⟩ := h
    refine ⟨_, (pss_one (ps_if (pt_cmpR op_notN (pv 1) pe_non (nomark _)) (pss_one (Kx.ps_fld (K := K) rfl (Kx.pe_fld (K := K) rfl (pv 0) rfl) (Kx.pe_fld (K := K) rfl (pv 0) rfl) rfl)) pss_nil)), ?_⟩
    try dsimp only [cxH, cxOf]
    rw [show L2.start ["self", "kind", "value", "trace"] [V.ref sp, k, x, y] = [some (V.ref sp), some (k), some (x), some (y)] from rfl]
    walk_at "rd"
    refine ite2 (fun h1 => ?_) (fun h1 => ?_)
    · have nk : k ≠ .non := fun z => by
        rw [z, decide_eq_true rfl] at h1
        cases h1
      obtain ⟨sx, t, b, dx, r, rest, hs, ht, hl, q⟩ := q2 nk
      walk_at "rd"
      refine Rd.sput ht T.k_Tree T.a_rows (Nat.lt_of_le_of_lt (Nat.succ_le_succ hl) (by decide)) put_head fun H2 f2 e2 => ?_
      walk_at "rd"
      exact q H2 f2 e2
    · have nk : k = .non := by
        by_cases z : k = .non
        · exact z
        · rw [decide_eq_false z] at h1
          exact absurd rfl h1
      walk_at "rd"
      exact q1 nk
def spTEdit (A : Ad) : Sp := fun vs H Q _ => ∃ t, vs = [.ref t] ∧ ∀ H' s sx l, H s = none → Same H H' → H' s = some (.ins A.c_Edit sx (editF t l)) → Q (.ref s) H'
theorem ok_T_edit (T : Txt K mg A) : FnOk P w K mg base (L2N.CX P w) 4 A.f_T_edit A.d_T_edit ["self"] (spTEdit A) := by
  have G_E_init := ok_E_init (P := P) (w := w) (base := base) T
  have b_E_init := T.F_E_init.binds (ps := ["self", "tree"]) fun _ _ _ _ _ _ us hl => match us, hl with | [_, _], _ => rfl
  refine T.F_T_edit.okN sc_Tree_edit (fun vs H Q E h => ?_) (fun cdv Ar outer s H vs Q E hr h => ?_)
  · obtain ⟨t, rfl, _⟩ := h
    rfl
  · obtain ⟨t, rfl, q⟩ := h
    refine ⟨_, (pss_one (ps_ret (pe_make T.m_Edit G_E_init (hr.mono (by decide)) rfl T.g_Edit b_E_init .nil passD (pa_cons (pv 0) pa_nil)))), ?_⟩
    try dsimp only [cxOf]
    rw [show L2.start ["self"] [V.ref t] = [some (V.ref t)] from rfl]
    walk_at "rd"
    intro x dx' hx hdx hne
    refine ⟨x, t, dx', rfl, upd_same, fun H2 l f2 e2 => ⟨rfl, ?_⟩⟩
    exact q H2 x dx' l hx (made_same hx hdx f2) e2
end
end PR
end

section
set_option maxHeartbeats 4000000
namespace PR
open PySem L2 PySem.Spec PyProof.Rows PySem.EX
local macro_rules | `(tactic| walk_at "st") => `(tactic| first | exact setAt_z | exact setAt_s (by walk_at "st"))
local macro_rules | `(tactic| walk_at "rd1") => `(tactic| first
  | with_reducible refine Rd.seq ?_
  | with_reducible refine Rd.nxE ?_
  | with_reducible refine Rd.rtE ?_
  | with_reducible refine Rd.ctE ?_
  | with_reducible refine Rd.bkE ?_
  | with_reducible refine Rd.asg ?_
  | ((with_reducible refine' Rd.gname ?hs ?_); (case hs => walk_at "st"))
  | with_reducible refine Rd.ifS ?_
  | with_reducible refine Rd.ret ?_
  | with_reducible refine Rd.retN ?_
  | with_reducible refine Rd.drop ?_
  | with_reducible refine Rd.next ?_
  | ((with_reducible refine' Rd.var ?hv ?_); (case hv => exact rfl))
  | with_reducible refine Rd.c ?_
  | with_reducible refine Rd.op ?_
  | with_reducible refine Rd.un ?_
  | with_reducible refine Rd.neg ?_
  | with_reducible refine Rd.i0 ?_
  | with_reducible refine Rd.test ?_
  | with_reducible refine Rd.chain ?_
  | with_reducible refine Rd.tB ?_
  | with_reducible refine Rd.bl ?_
  | with_reducible refine Rd.not ?_
  | with_reducible refine Rd.and ?_
  | with_reducible refine Rd.or ?_
  | with_reducible refine Rd.andV ?_
  | with_reducible refine Rd.orV ?_
  | with_reducible refine Rd.notV ?_
  | with_reducible refine Rd.nilA ?_
  | with_reducible refine Rd.consA ?_
  | with_reducible refine Rd.cb ?_
  | with_reducible refine Rd.int1 ?_
  | with_reducible refine Rd.abs1 ?_
  | with_reducible refine Rd.gsub ?_
  | with_reducible refine Rd.tpar ?_
  | ((with_reducible refine' Rd.par ?hs ?ht ?_); (case hs => walk_at "st"); (case ht => walk_at "st"))
  | with_reducible refine Rd.ttup ?_
  | with_reducible refine Rd.tlst ?_
  | with_reducible refine Rd.isN ?_
  | with_reducible refine Rd.call ?_
  | with_reducible refine Rd.sl ?_
  | with_reducible refine Rd.noPart ?_
  | with_reducible refine Rd.part ?_
  | with_reducible refine Rd.ex_int ?_
  | with_reducible refine Rd.bm ?_
  | with_reducible refine Rd.tfld ?_
  | with_reducible refine Rd.tfor ?_
  | with_reducible refine Rd.tlc ?_
  | with_reducible refine Rd.mk1 ?_
  | with_reducible refine Rd.tdc ?_
  | with_reducible refine Rd.sfld ?_
  | with_reducible refine Rd.methP ?_
  | with_reducible refine Rd.xf ?_

  | with_reducible refine Rd.itemP ?_
  | with_reducible refine Rd.ost ?_
  | with_reducible refine Rd.enumT ?_
  | ((with_reducible refine' Rd.enumTAt ?h1 ?_); (case h1 => walk_at "lk"))
  | with_reducible refine Rd.meth ?_
  | with_reducible refine Rd.make ?_
  | with_reducible refine Rd.prop ?_
  | with_reducible refine Rd.item ?_
  | with_reducible refine Rd.sprop ?_
  | with_reducible refine Rd.star ?_
  | ((with_reducible refine' Rd.starL ?h1 ?_); (case h1 => walk_at "lk"))
  | with_reducible refine Rd.tdget ?_
  | ((with_reducible refine' Rd.fld ?h1 ?h2 ?h3 ?h4 ?_); (case h1 => walk_at "lk"); (case h2 => walk_at "cl"); (case h3 => walk_at "na"); (case h4 => walk_at "fl"))
  | ((with_reducible refine' Rd.ty ?h1 ?_); (case h1 => walk_at "lk"))
  | with_reducible refine Rd.tyes ?_
  | with_reducible refine Rd.noN ?_
  | with_reducible refine Rd.noNr ?_
  | with_reducible refine Rd.yesN ?_
  | with_reducible refine Rd.yesI ?_
  | with_reducible refine Rd.yesR ?_
  | with_reducible refine Rd.noNN ?_
  | with_reducible refine Rd.yes rfl ?_
  | with_reducible refine Rd.no Bool.false_ne_true ?_
  | ((with_reducible refine' Rd.wp ?h1 ?_); (case h1 => exact rfl))
  | ((with_reducible refine' Rd.isi ?h1 ?h2 ?_); (case h1 => walk_at "lk"); (case h2 => first | exact kit_int (dp_nodict (by assumption)) | exact kit_bool (dp_nodict (by assumption))))
  | with_reducible refine Rd.enum ?_
  | ((with_reducible refine' Rd.enumAt ?h1 ?_); (case h1 => walk_at "lk"))
  | with_reducible refine Rd.rng1 ?_
  | with_reducible refine Rd.rng2 ?_
  | with_reducible refine Rd.ilist ?_
  | with_reducible refine Rd.itup ?_
  | ((with_reducible refine' Rd.ilistAt ?h1 ?_); (case h1 => walk_at "lk"))
  | ((with_reducible refine' Rd.itupAt ?h1 ?_); (case h1 => walk_at "lk"))
  | ((with_reducible refine' Rd.slL ?h1 (fun q H1 nq sq hq => ?_)); (case h1 => walk_at "lk"))
  | with_reducible refine Rd.gcons ?_
  | with_reducible refine Rd.gnil ?_
  | ((with_reducible refine' Rd.gtup ?h1 ?h2 ?_); (case h1 => walk_at "lk"); (case h2 => exact rfl))
  | ((with_reducible refine' Rd.lenL ?h1 ?_); (case h1 => walk_at "lk"))
  | ((with_reducible refine' Rd.lenT ?h1 ?_); (case h1 => walk_at "lk"))
  | ((with_reducible refine' Rd.ixA ?h1 ?h2 ?_); (case h1 => walk_at "lk"); (case h2 => exact rfl))
  | ((with_reducible refine' Rd.ixB ?h1 ?h2 ?_); (case h1 => walk_at "lk"); (case h2 => exact rfl))
  | ((with_reducible refine' Rd.ixL ?h1 ?h2 ?_); (case h1 => walk_at "lk"); (case h2 => exact rfl))
  | ((with_reducible refine' Rd.newAt ?h1 (fun p H1 np sp hp => ?_)); (case h1 => exact sz_small (Nat.le_of_ble_eq_true rfl)))
  | ((with_reducible refine' Rd.ic ?h1 ?_); (case h1 => walk_at "sd"))
  | ((with_reducible refine' Rd.setL ?h1 ?h2 ?h3 ?_); (case h1 => walk_at "lk"); (case h2 => exact rfl); (case h3 => walk_at "st")))
local macro_rules | `(tactic| walk_at "rd") => `(tactic| repeat walk_at "rd1")
local macro_rules | `(tactic| walk_at "lk") => `(tactic| first
  | assumption
  | exact upd_same
  | exact SqL.of upd_same
  | exact SqT.of upd_same
  | exact SqL.of (by assumption)
  | exact SqT.of (by assumption)
  | ((with_reducible refine' same_get ?lks ?lkh); (case lks => assumption); (case lkh => walk_at "lk"))
  | ((with_reducible refine' Same.seq ?lks ?lkh); (case lks => assumption); (case lkh => walk_at "lk"))
  | ((with_reducible refine' sqT_mono ?lks ?lkh); (case lks => assumption); (case lkh => walk_at "lk"))
  | ((with_reducible refine' dp_mono ?lks ?lkh); (case lks => assumption); (case lkh => walk_at "lk")))
local macro_rules | `(tactic| walk_at "sd") => `(tactic| first
  | assumption
  | decide
  | omega
  | exact Or.inl ⟨by decide, by decide⟩
  | exact ⟨by decide, by decide, by decide⟩
  | exact Or.inr ⟨by decide, by decide⟩
  | exact wide_div (by decide) (by decide : _ < 2 ^ 200) (by decide) (by decide)
  | exact wide_div (by assumption) (by assumption : _ < 2 ^ 200) (by decide) (by decide))

local macro_rules | `(tactic| walk_at "cl") => `(tactic| first | exact cl_Tree (by assumption) | exact cl_Spot (by assumption) | exact cl_Edit (by assumption))
local macro_rules | `(tactic| walk_at "na") => `(tactic| first | exact na_rows (by assumption) | exact na_left (by assumption) | exact na_tree (by assumption) | exact na_key (by assumption) | exact na_etree (by assumption) | exact na_saved (by assumption))
local macro_rules | `(tactic| walk_at "fl") => `(tactic| first | exact lk_head | exact lk_second (by decide +kernel))

section
variable {P : Program} {w : World} {K : PySem.W.Frag} {mg : Str → Option Value} {base : Heap} {A : Ad}
open L2H HotX
def spUInit (C : Addr) : Sp := fun vs H Q _ => ∃ e x y, vs = [.ref e, x, y] ∧ H e = some (exo e C none) ∧ ∀ H' d, Fr1 e H H' → H d = none → H' e = some (exo e C (some d)) → H' d = some (exd d [("why", y), ("place", x)]) → Q .non H'
theorem ok_U_init {CX : CXT} (T : Txt K mg A) : FnH P w K mg base CX 1 A.f_U_init A.d_U_init ["self", "place", "why"] (spUInit A.c_Undone) := by
  refine T.F_U_init.okH sc_Undone___init__ (fun vs H Q E h => ?_) (fun cdv Ar outer s H vs Q E p hot hr h => ?_)
  · obtain ⟨e, x, y, rfl, _⟩ := h
    rfl
  · obtain ⟨e, x, y, rfl, he, q⟩ := h
    refine ⟨_, (pss_cons (ps_ost (pv 0) (pv 1))
    (pss_one (ps_ost (pv 0) (pv 2)))), ?_⟩
    try dsimp only [cxH, cxOf]
    rw [show L2.start ["self", "place", "why"] [V.ref e, x, y] = [some (V.ref e), some (x), some (y)] from rfl]
    walk_at "rd"
    refine ⟨e, A.c_Undone, rfl, T.o_Undone, T.u_place, .inl ⟨he, fun d nd hne => ?_⟩⟩
    walk_at "rd"
    have hde : upd (upd H d (exd d [("place", x)])) e (exo e A.c_Undone (some d)) d = some (exd d [("place", x)]) := by rw [upd_ne hne, upd_same]
    refine ⟨e, A.c_Undone, rfl, T.o_Undone, T.u_why, .inr ⟨d, [("place", x)], upd_same, hde, (by decide : 1 ≤ 900), ?_⟩⟩
    refine q _ d (fun b o n z => ?_) nd ?_ upd_same
    · rw [upd_ne (ne_of_none z nd), upd_ne n, upd_ne (ne_of_none z nd)]
      exact z
    · rw [upd_ne hne.symm, upd_same]
/-- what one move does -/
def MoveOk (rows : List Row) (d e : PyData) (rows' : List Row) : Prop := ∃ k o, d = .int k ∧ e = optD o ∧ hasK rows d = true ∧ (∀ q, o = some q → hasK rows (.int q) = true ∧ ∃ ps, Up rows q ps ∧ k ∉ ps) ∧ rows' = moveF rows k o
def MoveKey (rows : List Row) (d e : PyData) : Prop := hasK rows d = false ∨ (hasK rows d = true ∧ e ≠ .none ∧ hasK rows e = false)
def MoveRing (rows : List Row) (d e : PyData) : Prop := ∃ k q ps, d = .int k ∧ e = .int q ∧ hasK rows d = true ∧ hasK rows e = true ∧ Up rows q ps ∧ k ∈ ps
inductive Out where
  | ok (rows : List Row)
  | bad (j : Nat) (why : Str)
inductive RunR : List Row → List (PyData × PyData) → Nat → Out → Prop
  | nil {rows : List Row} {j : Nat} : RunR rows [] j (.ok rows)
  | ok {rows rows' : List Row} {d e : PyData} {ms : List (PyData × PyData)} {j : Nat} {o : Out} : MoveOk rows d e rows' → RunR rows' ms (j + 1) o → RunR rows ((d, e) :: ms) j o
  | key {rows : List Row} {d e : PyData} {ms : List (PyData × PyData)} {j : Nat} : MoveKey rows d e → RunR rows ((d, e) :: ms) j (.bad j "key")
  | ring {rows : List Row} {d e : PyData} {ms : List (PyData × PyData)} {j : Nat} : MoveRing rows d e → RunR rows ((d, e) :: ms) j (.bad j "ring")
theorem opt_inj {o o' : Option Int} (h : optD o = optD o') : o = o' := by cases o <;> cases o' <;> first | rfl | (cases h; rfl) | cases h
theorem MoveOk.tr {rows rows' : List Row} {d e : PyData} (h : MoveOk rows d e rows') (t : Tr rows) : Tr rows' ∧ rows'.length = rows.length := by
  obtain ⟨k, o, rfl, rfl, hk, ho, rfl⟩ := h
  have mv := moveF_moved (hasK_mem hk) o
  have hl : (moveF rows k o).length = rows.length := by
    have := mv.keys.length_eq
    unfold keysOf at this
    rwa [List.length_map, List.length_map] at this
  cases o with
  | none => exact ⟨(mv.let_none t).2, hl⟩
  | some q =>
    obtain ⟨_, ps, u, n⟩ := ho q rfl
    exact ⟨(mv.let_some t u n).2, hl⟩
theorem MoveOk.noKey {rows rows' : List Row} {d e : PyData} (h : MoveOk rows d e rows') : ¬ MoveKey rows d e := by
  obtain ⟨k, o, rfl, rfl, hk, ho, rfl⟩ := h
  rintro (z | ⟨_, ne, z⟩)
  · rw [hk] at z; cases z
  · cases o with
    | none => exact ne rfl
    | some q =>
      have := (ho q rfl).1
      rw [show optD (some q) = PyData.int q from rfl, this] at z
      cases z
theorem MoveOk.noRing {rows rows' : List Row} {d e : PyData} (t : Tr rows) (h : MoveOk rows d e rows') : ¬ MoveRing rows d e := by
  obtain ⟨k, o, rfl, rfl, hk, ho, rfl⟩ := h
  rintro ⟨k', q, ps, e1, e2, _, _, u, hin⟩
  cases e1
  cases o with
  | none => cases e2
  | some q' =>
    cases e2
    obtain ⟨_, ps', u', n⟩ := ho _ rfl
    rw [u.uniq t.nd u'] at hin
    exact n hin
theorem MoveKey.noRing {rows : List Row} {d e : PyData} (h : MoveKey rows d e) : ¬ MoveRing rows d e := by
  rintro ⟨k, q, ps, rfl, rfl, h1, h2, _, _⟩
  rcases h with z | ⟨_, _, z⟩
  · rw [h1] at z; cases z
  · rw [h2] at z; cases z
def UndoneIs (K : PySem.W.Frag) (A : Ad) (C dx : Addr) (rest : List (Str × V)) (t : Addr) (rows : List Row) (j : Nat) (why : Str) (H : Hp) (E : XK) : Prop :=
  ∀ H' d, Fr1 t H H' → TreeAt K C dx rest H' t rows → H' d = some (.xd [("why", .str why), ("place", .int (j : Nat))]) → E (.ref A.c_Undone) (some d) H'
/-- the moves as they stand: pairs in new tuples -/
def MovesAt (K : PySem.W.Frag) (H : Hp) : List V → List (PyData × PyData) → Prop
  | [], [] => True
  | v :: vs, m :: ms => (∃ T x y, v = .ref T ∧ SqT K H T [x, y] ∧ Dp K H x m.1 ∧ Dp K H y m.2) ∧ MovesAt K H vs ms
  | _, _ => False
def spAllB (K : PySem.W.Frag) (A : Ad) (C : Addr) : Sp := fun vs H Q E => ∃ t p xs ms dx rest rows out, vs = [.ref t, .ref p] ∧ SqT K H p xs ∧ MovesAt K H xs ms ∧ ms.length ≤ 1000 ∧ TreeAt K C dx rest H t rows ∧ Tr rows ∧ rows.length ≤ 90000 ∧ RunR rows ms 0 out ∧
  (∀ rows' H', out = .ok rows' → Fr1 t H H' → TreeAt K C dx rest H' t rows' → Q .non H') ∧ (∀ j why, out = .bad j why → UndoneIs K A C dx rest t rows j why H E)
theorem moves_at : ∀ {xs : List V} {ms : List (PyData × PyData)} {i : Nat} {v : V} {H : Hp}, MovesAt K H xs ms → xs[i]? = some v → ∃ m T x y, ms.drop i = m :: ms.drop (i + 1) ∧ v = .ref T ∧ SqT K H T [x, y] ∧ Dp K H x m.1 ∧ Dp K H y m.2
  | [], [], _, _, _, _, e => by simp at e
  | v :: vs, m :: ms, 0, _, _, h, e => by
    obtain ⟨⟨T, x, y, e1, h1, h2, h3⟩, _⟩ := h
    have : v = _ := Option.some.inj e
    subst this
    exact ⟨m, T, x, y, rfl, e1, h1, h2, h3⟩
  | _ :: vs, _ :: ms, i + 1, _, _, h, e => by
    obtain ⟨m', T, x, y, e1, r⟩ := moves_at (i := i) h.2 (by simpa using e)
    exact ⟨m', T, x, y, by simpa using e1, r⟩
  | [], _ :: _, _, _, _, h, _ => h.elim
  | _ :: _, [], _, _, _, h, _ => h.elim
theorem moves_len : ∀ {xs : List V} {ms : List (PyData × PyData)} {H : Hp}, MovesAt K H xs ms → xs.length = ms.length
  | [], [], _, _ => rfl
  | _ :: _, _ :: _, _, h => congrArg Nat.succ (moves_len h.2)
  | [], _ :: _, _, h => h.elim
  | _ :: _, [], _, h => h.elim
theorem undone_raise {H5 : Hp} {σ : L2.St} {i j : Nat} {z : Str} {a s t b dx sx : Addr} {rest : List (Str × V)} {r : V} {cls : Value} {rows : List Row} {Wout : WX} (T : Txt K mg A) (es : H5 s = some (.ins A.c_Edit sx (editF t (.ref b)))) (ht : H5 t = some (.ins A.c_Tree dx (("rows", r) :: rest)))
    (hr : RestOk rest) (hb : RowsAt K H5 b rows) (hc : PySem.W.subIn K cls (.type "BaseException") = some true) (h2 : σ[2]? = some (some (.int (j : Nat)))) (hi : σ[i]? = some (some (.ref a)))
    (q : ∀ σ' H8 d, Fr1 t H5 H8 → TreeAt K A.c_Tree dx rest H8 t rows → H8 d = some (.xd [("why", .str z), ("place", .int (j : Nat))]) → Wout (.ref A.c_Undone) (some d) σ' H8) :
    tMkO A.c_Undone (spUInit A.c_Undone) [] (tCons (tVar 2) (tCons (tC (.str z)) tNil)) σ H5 fun cls1 d H' => PySem.W.subIn K cls (.type "BaseException") = some true ∧ outN (some i) (wWith (spExit K A A.c_Tree) s Wout) cls1 d σ H' ∧ σ[i]? = some (some (.ref a)) := by
  refine Rd.mkO (Rd.consA ⟨_, h2, Rd.consA (Rd.c (Rd.nilA ⟨(by decide : 2 ≤ 1000), fun a2 na2 => ⟨a2, _, _, rfl, upd_same, fun H6 d2 f6 nd2 e6 ed2 => ⟨rfl, d2, _, e6, ed2, ?_, hc, ?_, hi⟩⟩⟩))⟩)
  · by_cases e : d2 = a2
    · rw [e, upd_same] at nd2
      cases nd2
    · rwa [upd_ne e] at nd2
  · have n5 : H5 d2 = none := by
      by_cases e : d2 = a2
      · rw [e]; exact na2
      · rwa [upd_ne e] at nd2
    have s57 : Same H5 (upd (del H6 a2) d2 (.xd [("why", .str z), ("place", .int (j : Nat))])) := fun c o e => by
      have nc : c ≠ a2 := ne_of_none e na2
      rw [upd_ne (ne_of_none e n5), del_ne nc]
      exact f6 c o nc (by rw [upd_ne nc]; exact e)
    have h7d : (upd (del H6 a2) d2 (.xd [("why", V.str z), ("place", V.int (j : Nat))])) d2 = some (.xd [("why", .str z), ("place", .int (j : Nat))]) := upd_same
    generalize upd (del H6 a2) d2 (.xd [("why", .str z), ("place", .int (j : Nat))]) = H7 at s57 h7d
    refine ⟨.ref A.c_Undone, rfl, fun e y hy => ⟨s, _, _, _, rfl, (fun z => by cases z), fun _ => ⟨sx, t, b, dx, r, rest, s57 _ _ es, s57 _ _ ht, hr.len, fun H8 f8 e8 => ⟨rfl, ?_⟩⟩⟩⟩
    have nt : d2 ≠ t := fun e => by rw [e, ht] at n5; cases n5
    exact q _ H8 d2 ((Same.fr1 s57).trans f8) ⟨hr, b, e8, rows_fr1 f8 (s57 _ _ ht) trivial (rows_mono s57 hb)⟩ (f8 d2 _ nt h7d)
theorem n_e1 : ¬ (("rows" : Str) = "edit") := by decide +kernel
theorem n_e2 : ("edit" : Str) ≠ "left" := by decide +kernel
theorem n_e3 : ("edit" : Str) ≠ "log" := by decide +kernel
theorem ok_T_allB (T : Txt K mg A) (cdv : Value) (Ar : Around) (outer : List Env) (s : Shared) (H : Hp) (vs : List V) (Q : VK) (E : XK) (hr : Room 8 (Ar.deeper (envOfC "Tree.move_all" (defScope s_Tree_move_all) s.heap.objs.size A.f_T_all cdv))) (h : spAllB K A A.c_Tree vs H Q E) :
    ∃ t, PSs (cxOf (L2.CX P w) P w K mg base ["self", "moves", "place", "key", "parent", "ring", "missing"] "Tree.move_all" (defScope s_Tree_move_all) A.f_T_all cdv Ar outer s H E) (defBody s_Tree_move_all) t ∧ t { nx := fun _ H' => Q .non H', rt := Q } (L2.start ["self", "moves", "place", "key", "parent", "ring", "missing"] vs) H := by
  have G_T_edit := (ok_T_edit (P := P) (w := w) (base := base) T).weakN
  have b_T_edit := T.F_T_edit.binds (ps := ["self"]) fun _ _ _ _ _ _ us hl => match us, hl with | [_], _ => rfl
  have G_T_move := ok_T_move (P := P) (w := w) (base := base) T
  have b_T_move := T.F_T_move.binds (ps := ["self", "key", "parent"]) fun _ _ _ _ _ _ us hl => match us, hl with | [_, _, _], _ => rfl
  have R_T_move := G_T_move.raw b_T_move .nil
  have G_E_enter := (ok_E_enter (P := P) (w := w) (base := base) T).weakN
  have b_E_enter := T.F_E_enter.binds (ps := ["self"]) fun _ _ _ _ _ _ us hl => match us, hl with | [_], _ => rfl
  have G_E_exit := (ok_E_exit (P := P) (w := w) (base := base) T).1.weakN
  have M_E_exit := (ok_E_exit (P := P) (w := w) (base := base) T).2
  have b_E_exit := T.F_E_exit.binds (ps := ["self", "kind", "value", "trace"]) fun _ _ _ _ _ _ us hl => match us, hl with | [_, _, _, _], _ => rfl
  have H_U_init := ok_U_init (P := P) (w := w) (base := base) (CX := L2.CX P w) T
  have b_U_init := T.F_U_init.binds (ps := ["self", "place", "why"]) fun _ _ _ _ _ _ us hl => match us, hl with | [_, _, _], _ => rfl
  obtain ⟨t, p, xs, ms, dx, rest, rows, out, rfl, hp, hms, hml, hT, htr, hl, hrun, q, qe⟩ := h
  refine ⟨_, pss_one (ps_with rfl rfl rfl (L2.takes_of rfl rfl rfl rfl) (pe_meth0 (pv 0) T.k_Tree T.m_edit G_T_edit (hr.mono (by decide)) b_T_edit .nil passX) T.w_Edit G_E_enter G_E_exit M_E_exit (hr.mono (by decide)) b_E_enter b_E_exit passF
    (fun W pn xe tk hpo hpa => pss_one (ps_for hpo rfl (Kx.pi_enumT (K := K) rfl (by rfl) T.n_enumerate (pa_cons (pv 1) pa_nil))
      (Kx.pg_tup (K := K) (n := 2) rfl rfl (pgs_cons (pg_name (i := 2) sc_Tree_move_all.nd rfl (by first | exact Or.inl rfl | exact Or.inr rfl)) (pgs_cons (Kx.pg_tup (K := K) (n := 2) rfl rfl (pgs_cons (pg_name (i := 3) sc_Tree_move_all.nd rfl (by first | exact Or.inl rfl | exact Or.inr rfl)) (pgs_cons (pg_name (i := 4) sc_Tree_move_all.nd rfl (by first | exact Or.inl rfl | exact Or.inr rfl)) pgs_nil))) pgs_nil)))
      (pss_one (ps_tryN (K := K) rfl rfl rfl rfl sc_Tree_move_all.nd hpa tk
        (fun W2 pn2 xe2 tk2 hp2 => pss_one (ps_expr (pe_methP (pv 0) T.k_Tree T.m_move R_T_move (hr.mono (by decide)) (fun σ => L2N.passAt tk2 σ) (pa_cons (pv 3) (pa_cons (pv 4) pa_nil)))))
        (.as_ (i := 5) ⟨by rfl, by decide, .inl T.h_Ring⟩ rfl rfl
          (fun a oe cls d pn xe W3 hz hd tk3 hot => pss_one (ps_raiseHF (K := K) rfl (i := 5) List.mem_cons_self rfl ⟨_, hd.choose_spec, hz.2.2 _ hd.choose_spec⟩ hz.1 rfl rfl rfl tk3 (pmk5_oexH T.o_Undone T.u_init T.u_fn H_U_init (roomH_mark (hr.mono (by decide)) _) hot b_U_init passF (by rfl) T.g_Undone (pa_cons (pv 2) (pa_cons pe_str pa_nil)))))
          (.as_ (i := 6) ⟨by rfl, by decide, .inl T.h_NoKey⟩ rfl rfl
            (fun a oe cls d pn xe W3 hz hd tk3 hot => pss_one (ps_raiseHF (K := K) rfl (i := 6) List.mem_cons_self rfl ⟨_, hd.choose_spec, hz.2.2 _ hd.choose_spec⟩ hz.1 rfl rfl rfl tk3 (pmk5_oexH T.o_Undone T.u_init T.u_fn H_U_init (roomH_mark (hr.mono (by decide)) _) hot b_U_init passF (by rfl) T.g_Undone (pa_cons (pv 2) (pa_cons pe_str pa_nil)))))
            .nil))))))), ?_⟩
  try dsimp only [cxOf]
  rw [show L2.start ["self", "moves", "place", "key", "parent", "ring", "missing"] [V.ref t, V.ref p] = [some (V.ref t), some (V.ref p), none, none, none, none, none] from rfl]
  refine Rd.withS ?_
  obtain ⟨hrest, a0, ht, hR⟩ := id hT
  walk_at "rd"
  refine Rd.methAt ht (hT.noM n_e1 n_e2 n_e3) ?_
  walk_at "rd"
  refine ⟨t, rfl, fun H1 s0 sx l ns0 s1 es1 => ⟨s0, sx, _, rfl, es1, ⟨s0, t, l, sx, dx, rest, rows, rfl, es1, hT.mono s1, fun H2 b f2 es2 hb => ⟨⟨_, _, es2⟩, ?_⟩⟩⟩⟩
  have s02 : Same H H2 := fun c o e => f2 c o (ne_of_none e ns0) (s1 c o e)
  have nst : s0 ≠ t := fun e => by rw [e, ht] at ns0; cases ns0
  have ht2 := s02 _ _ ht
  have hp2 := sqT_mono s02 hp
  refine Rd.tforT fun TB hTB => ?_
  walk_at "rd"
  refine for_it (walk_enumT (xs := xs)) (fun i σ H3 => ∃ rws u2 u3 u4, σ = [some (V.ref t), some (V.ref p), u2, u3, u4, none, none] ∧ Fr1 t H2 H3 ∧ TreeAt K A.c_Tree dx rest H3 t rws ∧ Tr rws ∧ rws.length = rows.length ∧ RunR rws (ms.drop i) i out)
    ⟨rows, none, none, none, rfl, Fr1.refl, hT.mono s02, htr, rfl, hrun⟩ (fun i σ H3 _ pv => ?_) ?_ ?_
  · obtain ⟨_, _, _, _, _, f3, _⟩ := pv
    exact sqT_fr1 f3 ht2 trivial hp2
  · rintro i x σ H3 H4 hi ⟨rws, u2, u3, u4, rfl, f3, hT3, htr3, hl3, hrun3⟩ ⟨TT, x1, y1, rfl, nTT, rfl, e1, e2⟩
    cases e1
    obtain ⟨m, T', kx, px, em, rfl, hT', hd1, hd2⟩ := moves_at hms e2
    rw [em] at hrun3
    have s4 : Same H3 (upd H3 TT (.tup [.int (i : Nat), .ref T'])) := same_upd nTT
    have hTT : SqT K (upd H3 TT (.tup [.int (i : Nat), .ref T'])) TT [.int (i : Nat), .ref T'] := SqT.of upd_same
    generalize upd H3 TT (.tup [.int (i : Nat), .ref T']) = H4 at s4 hTT
    have hT4' : SqT K H4 T' [kx, px] := sqT_mono s4 (sqT_fr1 f3 ht2 trivial (sqT_mono s02 hT'))
    have hk4 : Dp K H4 kx m.1 := dp_mono s4 (dp_fr1 f3 ht2 trivial (dp_mono s02 hd1))
    have hp4 : Dp K H4 px m.2 := dp_mono s4 (dp_fr1 f3 ht2 trivial (dp_mono s02 hd2))
    have hT4 := hT3.mono s4
    obtain ⟨_, a4, ht4, hR4⟩ := id hT4
    have es4 : H4 s0 = some (.ins A.c_Edit sx (editF t (.ref b))) := s4 _ _ (f3 _ _ nst es2)
    have hb4 : RowsAt K H4 b rows := rows_mono s4 (rows_fr1 f3 ht2 trivial hb)
    have f04 : Fr1 t H H4 := ((Same.fr1 s02).trans f3).trans (Same.fr1 s4)
    walk_at "rd"
    rw [hTB]
    walk_at "rd"
    refine Rd.methAt ht4 (hT4.noM n_m1 n_m2 n_m3) ?_
    walk_at "rd"
    have bad : ∀ {z : Str} {H5 : Hp}, out = .bad i z → Same H4 H5 → ∀ {σ : L2.St} {n : Nat} {a : Addr} {cls : Value}, PySem.W.subIn K cls (.type "BaseException") = some true → σ[2]? = some (some (.int (i : Nat))) → σ[n]? = some (some (.ref a)) →
        tMkO A.c_Undone (spUInit A.c_Undone) [] (tCons (tVar 2) (tCons (tC (.str z)) tNil)) σ H5 fun cls1 d H' => PySem.W.subIn K cls (.type "BaseException") = some true ∧ outN (some n) (wWith (spExit K A A.c_Tree) s0 fun cls d _ H => E cls d H) cls1 d σ H' ∧ σ[n]? = some (some (.ref a)) := by
      intro z H5 eo s5 σ n a cls hc h2 hn
      refine undone_raise (rows := rows) T (s5 _ _ es4) (s5 _ _ ht4) hrest (rows_mono s5 hb4) hc h2 hn fun σ' H8 d f8 hT8 hd8 => ?_
      exact qe i z eo H8 d (f04.trans ((Same.fr1 s5).trans f8)) hT8 hd8
    refine ⟨t, kx, px, dx, rest, rws, m.1, m.2, rfl, hT4, hk4, hp4, htr3, by omega, fun k o H5 ed eo hk ho f5 hT5 => ?_, fun hk => ?_, fun hk ne nk => ?_, fun k q' ps ed eo hk hq hup hin => ?_⟩
    · have mok : MoveOk rws m.1 m.2 (moveF rws k o) := ⟨k, o, ed, eo, hk, ho, rfl⟩
      generalize hdr : m :: ms.drop (i + 1) = l at hrun3
      cases hrun3 with
      | nil => cases hdr
      | @ok _ rows' d e ms' _ _ hm hr' =>
        cases hdr
        obtain ⟨k', o', ed', eo', _, _, rfl⟩ := hm
        have e3 : k' = k := by
          have z : PyData.int k' = PyData.int k := ed'.symm.trans ed
          injection z
        have e4 : o' = o := opt_inj (eo'.symm.trans eo)
        subst e3 e4
        obtain ⟨htr5, hl5⟩ := mok.tr htr3
        walk_at "rd"
        exact ⟨_, _, _, _, rfl, (f3.trans (Same.fr1 s4)).trans f5, hT5, htr5, hl5.trans hl3, hr'⟩
      | key hm =>
        cases hdr
        exact absurd hm mok.noKey
      | ring hm =>
        cases hdr
        exact absurd hm (mok.noRing htr3)
    · generalize hdr : m :: ms.drop (i + 1) = l at hrun3
      cases hrun3 with
      | nil => cases hdr
      | ok hm hr' =>
        cases hdr
        exact absurd (.inl hk) hm.noKey
      | key hm =>
        intro H5 d5 s5 hd5
        exact ⟨false, T.x_NR, (fun z => by cases z), fun _ => ⟨true, T.x_NN, fun _ a na => bad rfl s5 T.X_NoKey.exC rfl rfl, fun z => by cases z⟩⟩
      | ring hm =>
        cases hdr
        exact absurd hm (MoveKey.noRing (.inl hk))
    · generalize hdr : m :: ms.drop (i + 1) = l at hrun3
      cases hrun3 with
      | nil => cases hdr
      | ok hm hr' =>
        cases hdr
        exact absurd (.inr ⟨hk, ne, nk⟩) hm.noKey
      | key hm =>
        intro H5 d5 s5 hd5
        exact ⟨false, T.x_NR, (fun z => by cases z), fun _ => ⟨true, T.x_NN, fun _ a na => bad rfl s5 T.X_NoKey.exC rfl rfl, fun z => by cases z⟩⟩
      | ring hm =>
        cases hdr
        exact absurd hm (MoveKey.noRing (.inr ⟨hk, ne, nk⟩))
    · have mr : MoveRing rws m.1 m.2 := ⟨k, q', ps, ed, eo, hk, hq, hup, hin⟩
      generalize hdr : m :: ms.drop (i + 1) = l at hrun3
      cases hrun3 with
      | nil => cases hdr
      | ok hm hr' =>
        cases hdr
        exact absurd mr (hm.noRing htr3)
      | key hm =>
        cases hdr
        exact absurd mr hm.noRing
      | ring hm =>
        intro H5 D5 T5 _ s5 hD5 hT5
        exact ⟨true, T.x_RR, fun _ a na => bad rfl s5 T.X_Ring.exC rfl rfl, fun z => by cases z⟩
  · rintro σ H3 ⟨rws, u2, u3, u4, rfl, f3, hT3, htr3, hl3, hrun3⟩
    have hdrop : ms.drop xs.length = [] := by rw [moves_len hms]; exact List.drop_length
    rw [hdrop] at hrun3
    cases hrun3
    refine ⟨s0, .non, .non, .non, rfl, fun _ => ?_, fun z => absurd rfl z⟩
    exact q rws H3 rfl ((Same.fr1 s02).trans f3) hT3
end
end PR
end

section
set_option maxHeartbeats 4000000
namespace PR
open PySem L2 PySem.Spec PyProof.Rows PySem.EX
local macro_rules | `(tactic| walk_at "st") => `(tactic| first | exact setAt_z | exact setAt_s (by walk_at "st"))
local macro_rules | `(tactic| walk_at "rd1") => `(tactic| first
  | with_reducible refine Rd.seq ?_
  | with_reducible refine Rd.nxE ?_
  | with_reducible refine Rd.rtE ?_
  | with_reducible refine Rd.ctE ?_
  | with_reducible refine Rd.bkE ?_
  | with_reducible refine Rd.asg ?_
  | ((with_reducible refine' Rd.gname ?hs ?_); (case hs => walk_at "st"))
  | with_reducible refine Rd.ifS ?_
  | with_reducible refine Rd.ret ?_
  | with_reducible refine Rd.retN ?_
  | with_reducible refine Rd.drop ?_
  | with_reducible refine Rd.next ?_
  | ((with_reducible refine' Rd.var ?hv ?_); (case hv => exact rfl))
  | with_reducible refine Rd.c ?_
  | with_reducible refine Rd.op ?_
  | with_reducible refine Rd.un ?_
  | with_reducible refine Rd.neg ?_
  | with_reducible refine Rd.i0 ?_
  | with_reducible refine Rd.test ?_
  | with_reducible refine Rd.chain ?_
  | with_reducible refine Rd.tB ?_
  | with_reducible refine Rd.bl ?_
  | with_reducible refine Rd.not ?_
  | with_reducible refine Rd.and ?_
  | with_reducible refine Rd.or ?_
  | with_reducible refine Rd.andV ?_
  | with_reducible refine Rd.orV ?_
  | with_reducible refine Rd.notV ?_
  | with_reducible refine Rd.nilA ?_
  | with_reducible refine Rd.consA ?_
  | with_reducible refine Rd.cb ?_
  | with_reducible refine Rd.int1 ?_
  | with_reducible refine Rd.abs1 ?_
  | with_reducible refine Rd.gsub ?_
  | with_reducible refine Rd.tpar ?_
  | ((with_reducible refine' Rd.par ?hs ?ht ?_); (case hs => walk_at "st"); (case ht => walk_at "st"))
  | with_reducible refine Rd.ttup ?_
  | with_reducible refine Rd.tlst ?_
  | with_reducible refine Rd.isN ?_
  | with_reducible refine Rd.call ?_
  | with_reducible refine Rd.sl ?_
  | with_reducible refine Rd.noPart ?_
  | with_reducible refine Rd.part ?_
  | with_reducible refine Rd.ex_int ?_
  | with_reducible refine Rd.bm ?_
  | with_reducible refine Rd.tfld ?_
  | with_reducible refine Rd.tfor ?_
  | with_reducible refine Rd.tlc ?_
  | with_reducible refine Rd.mk1 ?_
  | with_reducible refine Rd.tdc ?_
  | with_reducible refine Rd.sfld ?_
  | with_reducible refine Rd.methP ?_
  | with_reducible refine Rd.xf ?_

  | with_reducible refine Rd.itemP ?_
  | with_reducible refine Rd.ost ?_
  | with_reducible refine Rd.enumT ?_
  | ((with_reducible refine' Rd.enumTAt ?h1 ?_); (case h1 => walk_at "lk"))
  | with_reducible refine Rd.meth ?_
  | with_reducible refine Rd.make ?_
  | with_reducible refine Rd.prop ?_
  | with_reducible refine Rd.item ?_
  | with_reducible refine Rd.sprop ?_
  | with_reducible refine Rd.star ?_
  | ((with_reducible refine' Rd.starL ?h1 ?_); (case h1 => walk_at "lk"))
  | with_reducible refine Rd.tdget ?_
  | ((with_reducible refine' Rd.fld ?h1 ?h2 ?h3 ?h4 ?_); (case h1 => walk_at "lk"); (case h2 => walk_at "cl"); (case h3 => walk_at "na"); (case h4 => walk_at "fl"))
  | ((with_reducible refine' Rd.ty ?h1 ?_); (case h1 => walk_at "lk"))
  | with_reducible refine Rd.tyes ?_
  | with_reducible refine Rd.noN ?_
  | with_reducible refine Rd.noNr ?_
  | with_reducible refine Rd.yesN ?_
  | with_reducible refine Rd.yesI ?_
  | with_reducible refine Rd.yesR ?_
  | with_reducible refine Rd.noNN ?_
  | with_reducible refine Rd.yes rfl ?_
  | with_reducible refine Rd.no Bool.false_ne_true ?_
  | ((with_reducible refine' Rd.wp ?h1 ?_); (case h1 => exact rfl))
  | ((with_reducible refine' Rd.isi ?h1 ?h2 ?_); (case h1 => walk_at "lk"); (case h2 => first | exact kit_int (dp_nodict (by assumption)) | exact kit_bool (dp_nodict (by assumption))))
  | with_reducible refine Rd.enum ?_
  | ((with_reducible refine' Rd.enumAt ?h1 ?_); (case h1 => walk_at "lk"))
  | with_reducible refine Rd.rng1 ?_
  | with_reducible refine Rd.rng2 ?_
  | with_reducible refine Rd.ilist ?_
  | with_reducible refine Rd.itup ?_
  | ((with_reducible refine' Rd.ilistAt ?h1 ?_); (case h1 => walk_at "lk"))
  | ((with_reducible refine' Rd.itupAt ?h1 ?_); (case h1 => walk_at "lk"))
  | ((with_reducible refine' Rd.slL ?h1 (fun q H1 nq sq hq => ?_)); (case h1 => walk_at "lk"))
  | with_reducible refine Rd.gcons ?_
  | with_reducible refine Rd.gnil ?_
  | ((with_reducible refine' Rd.gtup ?h1 ?h2 ?_); (case h1 => walk_at "lk"); (case h2 => exact rfl))
  | ((with_reducible refine' Rd.lenL ?h1 ?_); (case h1 => walk_at "lk"))
  | ((with_reducible refine' Rd.lenT ?h1 ?_); (case h1 => walk_at "lk"))
  | ((with_reducible refine' Rd.ixA ?h1 ?h2 ?_); (case h1 => walk_at "lk"); (case h2 => exact rfl))
  | ((with_reducible refine' Rd.ixB ?h1 ?h2 ?_); (case h1 => walk_at "lk"); (case h2 => exact rfl))
  | ((with_reducible refine' Rd.ixL ?h1 ?h2 ?_); (case h1 => walk_at "lk"); (case h2 => exact rfl))
  | ((with_reducible refine' Rd.newAt ?h1 (fun p H1 np sp hp => ?_)); (case h1 => exact sz_small (Nat.le_of_ble_eq_true rfl)))
  | ((with_reducible refine' Rd.ic ?h1 ?_); (case h1 => walk_at "sd"))
  | ((with_reducible refine' Rd.setL ?h1 ?h2 ?h3 ?_); (case h1 => walk_at "lk"); (case h2 => exact rfl); (case h3 => walk_at "st")))
local macro_rules | `(tactic| walk_at "rd") => `(tactic| repeat walk_at "rd1")
local macro_rules | `(tactic| walk_at "lk") => `(tactic| first
  | assumption
  | exact upd_same
  | exact SqL.of upd_same
  | exact SqT.of upd_same
  | exact SqL.of (by assumption)
  | exact SqT.of (by assumption)
  | ((with_reducible refine' same_get ?lks ?lkh); (case lks => assumption); (case lkh => walk_at "lk"))
  | ((with_reducible refine' Same.seq ?lks ?lkh); (case lks => assumption); (case lkh => walk_at "lk"))
  | ((with_reducible refine' sqT_mono ?lks ?lkh); (case lks => assumption); (case lkh => walk_at "lk"))
  | ((with_reducible refine' dp_mono ?lks ?lkh); (case lks => assumption); (case lkh => walk_at "lk")))
local macro_rules | `(tactic| walk_at "sd") => `(tactic| first
  | assumption
  | decide
  | omega
  | exact Or.inl ⟨by decide, by decide⟩
  | exact ⟨by decide, by decide, by decide⟩
  | exact Or.inr ⟨by decide, by decide⟩
  | exact wide_div (by decide) (by decide : _ < 2 ^ 200) (by decide) (by decide)
  | exact wide_div (by assumption) (by assumption : _ < 2 ^ 200) (by decide) (by decide))

local macro_rules | `(tactic| walk_at "cl") => `(tactic| first | exact cl_Tree (by assumption) | exact cl_Spot (by assumption) | exact cl_Edit (by assumption))
local macro_rules | `(tactic| walk_at "na") => `(tactic| first | exact na_rows (by assumption) | exact na_left (by assumption) | exact na_tree (by assumption) | exact na_key (by assumption) | exact na_etree (by assumption) | exact na_saved (by assumption))
local macro_rules | `(tactic| walk_at "fl") => `(tactic| first | exact lk_head | exact lk_second (by decide +kernel))

abbrev s__law_way : Stmt := top 41
abbrev s__law_raised : Stmt := top 42
abbrev s_law : Stmt := top 43
theorem sc__law_way : FnScope ["_law_above", "_law_key", "_law_path", "_law_turn"] ["_law_above", "_law_key"] (defScope s__law_way) := ⟨rfl, rfl, rfl, by decide +kernel, rfl, by decide +kernel, by decide +kernel⟩
theorem sc__law_raised : FnScope ["_law_way_here", "_law_tree", "_law_key", "_law_parent", "e", "_law_is_own"] ["_law_way_here", "_law_tree", "_law_key", "_law_parent"] (defScope s__law_raised) := ⟨rfl, rfl, rfl, by decide +kernel, rfl, by decide +kernel, by decide +kernel⟩
theorem sc_law : FnScope ["_law_script", "_law_at", "_law_bag_here", "_law_base", "_law_step", "_law_tree", "_law_many", "_law_k", "_law_far", "_law_turn", "_law_rows", "_law_low", "_law_above", "_law_path", "_law_key", "_law_due", "_law_way_here", "_law_others", "_law_own", "_law_parent", "_law_other"] ["_law_script"] (defScope s_law) := ⟨rfl, rfl, rfl, by decide +kernel, rfl, by decide +kernel, by decide +kernel⟩
structure AdL where
  way : Addr
  d_way : FuncData
  raised : Addr
  d_raised : FuncData
  bag : Addr
  d_bag : FuncData
  take : Addr
  d_take : FuncData
  c_RowsError : Addr
structure TxtL (K : PySem.W.Frag) (mg : Str → Option Value) (A : Ad) (L : AdL) : Prop extends Txt K mg A where
  n_range : mg "range" = none
  n_abs : mg "abs" = none
  n_max : mg "max" = none
  n_min : mg "min" = none
  n_dict : mg "dict" = none
  n_ValueError : mg "ValueError" = none
  n_LookupError : mg "LookupError" = none
  g_RowsError : mg "RowsError" = some (.ref L.c_RowsError)
  g__law_way : mg "_law_way" = some (.ref L.way)
  F__law_way : Fun K "_law_way" "_law_way" s__law_way L.way L.d_way
  g__law_raised : mg "_law_raised" = some (.ref L.raised)
  F__law_raised : Fun K "_law_raised" "_law_raised" s__law_raised L.raised L.d_raised
  g__law_bag : mg "_law_bag" = some (.ref L.bag)
  F__law_bag : Fun K "_law_bag" "_law_bag" s__law_bag L.bag L.d_bag
  g__law_take : mg "_law_take" = some (.ref L.take)
  F__law_take : Fun K "_law_take" "_law_take" s__law_take L.take L.d_take
  e_Ring : ExcC K A.c_Ring
  e_Undone : ExcC K A.c_Undone
  f_Ring : XfC K A.c_Ring
  f_Undone : XfC K A.c_Undone
  f_NoKey : XfC K A.c_NoKey
  p_Ring : PySem.W.findIn K (.ref A.c_Ring) "path" = some none
  x_UR : PySem.W.exmOne K (.ref A.c_Undone) (.ref A.c_Ring) = some false
  x_UU : PySem.W.exmOne K (.ref A.c_Undone) (.ref A.c_Undone) = some true
  z_RR : PySem.W.kitOne K (.ref A.c_Ring) (.ref L.c_RowsError) = some true
  z_RV : PySem.W.kitOne K (.ref A.c_Ring) (.type "ValueError") = some true
  z_RL : PySem.W.kitOne K (.ref A.c_Ring) (.type "LookupError") = some false
  z_RU : PySem.W.kitOne K (.ref A.c_Ring) (.ref A.c_Undone) = some false
  z_UR : PySem.W.kitOne K (.ref A.c_Undone) (.ref L.c_RowsError) = some true
  z_UV : PySem.W.kitOne K (.ref A.c_Undone) (.type "ValueError") = some true
section
variable {P : Program} {w : World} {K : PySem.W.Frag} {mg : Str → Option Value} {base : Heap} {A : Ad} {L : AdL}
open L2H HotX
theorem TxtL.b (T : TxtL K mg A L) : TxtB K mg := ⟨T.n_len, T.n_int, T.n_abs, T.n_enumerate⟩
theorem ok_T_all (T : Txt K mg A) : FnR P w K mg base (L2.CX P w) 9 A.f_T_all (fun vs H Q E => ∃ ws rest, vs = ws ++ rest ∧ ws.length = 1 ∧ rest.length ≤ sizeLine ∧ ∀ p, H p = Option.none → spAllB K A A.c_Tree (ws ++ [V.ref p]) (upd H p (.tup rest)) Q E) := by
  obtain ⟨oc, od, kV, doc, pm, an, cdv, ct, osl, e, lk, hcd⟩ := T.F_T_all.ex
  rw [e] at lk
  exact StX.fn_star (ps := ["self"]) (pv := "moves") lk hcd sc_Tree_move_all StX.cxUp (StX.bind_star1 (B := fun l => bindArgs (PySem.W.fnOf "move_all" "Tree.move_all" (defArgs s_Tree_move_all) (defBody s_Tree_move_all) (defScope s_Tree_move_all) .none kV doc pm an cdv ct) ⟨l, []⟩) (p1 := "self") (pv := "moves") (fun _ => rfl) (fun _ _ _ => rfl)) fun Ar outer s H vs Q E hr h => ok_T_allB T cdv Ar outer s H vs Q E hr h
def spWay : Sp := fun vs H Q _ => ∃ D k rows ps, vs = [.ref D, .int k] ∧ H D = some (.dK (dictOf rows)) ∧ Tr rows ∧ Up rows k ps ∧ rows.length ≤ 1000 ∧ ∀ p H', H p = none → Same H H' → H' p = some (.lst (ps.map V.int)) → Q (.ref p) H'
theorem ok_way (T : TxtL K mg A L) : FnOk P w K mg base (L2N.CX P w) 1 L.way L.d_way ["_law_above", "_law_key"] spWay := by
  refine T.F__law_way.okN sc__law_way (fun vs H Q E h => ?_) (fun cdv Ar outer s H vs Q E hr h => ?_)
  · obtain ⟨D, k, rows, ps, rfl, _⟩ := h
    rfl
  · obtain ⟨D, k, rows, ps, rfl, hD, htr, hup, hl, q⟩ := h
    have hu1 := hu65 hr
    have hu0 : (Ar.deeper (envOfC "_law_way" (defScope s__law_way) s.heap.objs.size L.way cdv)).units + 1 < cLine := by omega
    refine ⟨_, (pss_cons (ps_set (i := 2) sc__law_way.nd rfl (by first | exact Or.inl rfl | exact Or.inr rfl) (pe_lst (pa_cons (pv 1) pa_nil)))
    (pss_cons (ps_for (passes_of rfl) rfl (pi_range1 (by rfl) T.n_range (pa_cons (pe_callB L2.call_lenD (by rfl) T.n_len PySem.boot_len (pa_cons (pv 0) pa_nil)) pa_nil)) (pg_name (i := 3) sc__law_way.nd rfl (by first | exact Or.inl rfl | exact Or.inr rfl)) (pss_cons (ps_if (pt_cmpR op_isN (pe_dget hu0 (pv 0) (pe_ix (Kx.ix_seq (K := K) rfl) (pv 2) (pe_un un_neg pe_int) (fun _ _ => rfl)) (fun _ _ => rfl)) pe_non (nomark _)) (pss_one (ps_ret (pv 2))) pss_nil)
    (pss_one (ps_expr (pe_bm PySem.F.plainAttrs_list PySem.F.slot_list_append PySem.F.type_list_append mt_append (pv 2) (pa_cons (pe_dget hu0 (pv 0) (pe_ix (Kx.ix_seq (K := K) rfl) (pv 2) (pe_un un_neg pe_int) (fun _ _ => rfl)) (fun _ _ => rfl)) pa_nil))))))
    (pss_one (ps_ret (pv 2))))), ?_⟩
    try dsimp only [cxOf]
    rw [show L2.start ["_law_above", "_law_key", "_law_path", "_law_turn"] [V.ref D, V.int k] = [some (V.ref D), some (V.int k), none, none] from rfl]
    have hpl := htr.len_path hup
    obtain ⟨tl, etl⟩ := hup.head
    walk_at "rd"
    rename_i I H1 nI sI hI
    refine Rd.lenD (sI _ _ hD) ?_
    have hdl : (dictOf rows).length = rows.length := by unfold dictOf; rw [List.length_map]
    rw [hdl]
    walk_at "rd"
    refine ⟨by omega, by omega, ?_⟩
    refine for_it walk_range (fun i σ H2 => ∃ (u : Option V) (pre : List Int) (kk : Int) (rest : List Int), σ = [some (V.ref D), some (V.int k), some (V.ref I), u] ∧ Same H H2 ∧ H2 I = some (.lst (pre.map V.int ++ [V.int kk])) ∧ Up rows kk (kk :: rest) ∧ ps = pre ++ kk :: rest ∧ pre.length = i)
      ⟨none, [], k, tl, rfl, sI, hI, by rw [← etl]; exact hup, etl, rfl⟩ (fun _ _ _ _ _ => trivial) ?_ ?_
    · rintro i x σ H2 H3 hi ⟨u, pre, kk, rest, rfl, s2, hI2, hup2, eps, hpre⟩ ⟨rfl, rfl⟩
      have hD2 := s2 _ _ hD
      have hix : ∀ Qx : VK, Qx (.int kk) H3 → rIx K (.ref I) (.int (-1)) H3 Qx := fun Qx h => Rd.ixA (SqL.of hI2) (atI_last _ _) h
      generalize hrest : kk :: rest = full at hup2
      cases hup2 with
      | root hm =>
        cases hrest
        walk_at "rd"
        refine hix _ ?_
        refine Rd.dgetI hD2 (dictOf_some htr.nd hm) ?_
        dsimp only [optV]
        walk_at "rd"
        exact q I H3 nI s2 (by rw [hI2, eps, List.map_append]; rfl)
      | @step _ q' ps' hm hup' =>
        have e1 : rest = ps' := by injection hrest
        subst e1
        obtain ⟨t', et⟩ := hup'.head
        walk_at "rd"
        refine hix _ ?_
        refine Rd.dgetI hD2 (dictOf_some htr.nd hm) ?_
        dsimp only [optV]
        walk_at "rd"
        refine hix _ ?_
        refine Rd.dgetI hD2 (dictOf_some htr.nd hm) ?_
        dsimp only [optV]
        walk_at "rd"
        refine Rd.app hI2 ?_ ?_
        · rw [List.length_append, List.length_map]
          have : pre.length + 1 ≤ 1001 := by
            have h1 := congrArg List.length eps
            rw [List.length_append, List.length_cons] at h1
            omega
          exact Nat.lt_of_le_of_lt this (by decide)
        · refine ⟨_, pre ++ [kk], q', t', rfl, ?_, ?_, ?_, ?_, ?_⟩
          · intro c o e
            rw [upd_ne (ne_of_none e nI)]
            exact s2 c o e
          · rw [upd_same, List.map_append]; rfl
          · rw [← et]; exact hup'
          · rw [eps, et, List.append_assoc]; rfl
          · rw [List.length_append, hpre]; rfl
    · rintro σ H2 ⟨u, pre, kk, rest, rfl, s2, hI2, hup2, eps, hpre⟩
      exfalso
      have h1 := congrArg List.length eps
      rw [List.length_append, List.length_cons] at h1
      omega
end
end PR
end

section
set_option maxHeartbeats 4000000
namespace PR
open PySem L2 PySem.Spec PyProof.Rows PySem.EX
local macro_rules | `(tactic| walk_at "st") => `(tactic| first | exact setAt_z | exact setAt_s (by walk_at "st"))
local macro_rules | `(tactic| walk_at "rd1") => `(tactic| first
  | with_reducible refine Rd.seq ?_
  | with_reducible refine Rd.nxE ?_
  | with_reducible refine Rd.rtE ?_
  | with_reducible refine Rd.ctE ?_
  | with_reducible refine Rd.bkE ?_
  | with_reducible refine Rd.asg ?_
  | ((with_reducible refine' Rd.gname ?hs ?_); (case hs => walk_at "st"))
  | with_reducible refine Rd.ifS ?_
  | with_reducible refine Rd.ret ?_
  | with_reducible refine Rd.retN ?_
  | with_reducible refine Rd.drop ?_
  | with_reducible refine Rd.next ?_
  | ((with_reducible refine' Rd.var ?hv ?_); (case hv => exact rfl))
  | with_reducible refine Rd.c ?_
  | with_reducible refine Rd.op ?_
  | with_reducible refine Rd.un ?_
  | with_reducible refine Rd.neg ?_
  | with_reducible refine Rd.i0 ?_
  | with_reducible refine Rd.test ?_
  | with_reducible refine Rd.chain ?_
  | with_reducible refine Rd.tB ?_
  | with_reducible refine Rd.bl ?_
  | with_reducible refine Rd.not ?_
  | with_reducible refine Rd.and ?_
  | with_reducible refine Rd.or ?_
  | with_reducible refine Rd.andV ?_
  | with_reducible refine Rd.orV ?_
  | with_reducible refine Rd.notV ?_
  | with_reducible refine Rd.nilA ?_
  | with_reducible refine Rd.consA ?_
  | with_reducible refine Rd.cb ?_
  | with_reducible refine Rd.int1 ?_
  | with_reducible refine Rd.abs1 ?_
  | with_reducible refine Rd.gsub ?_
  | with_reducible refine Rd.tpar ?_
  | ((with_reducible refine' Rd.par ?hs ?ht ?_); (case hs => walk_at "st"); (case ht => walk_at "st"))
  | with_reducible refine Rd.ttup ?_
  | with_reducible refine Rd.tlst ?_
  | with_reducible refine Rd.isN ?_
  | with_reducible refine Rd.call ?_
  | with_reducible refine Rd.sl ?_
  | with_reducible refine Rd.noPart ?_
  | with_reducible refine Rd.part ?_
  | with_reducible refine Rd.ex_int ?_
  | with_reducible refine Rd.bm ?_
  | with_reducible refine Rd.tfld ?_
  | with_reducible refine Rd.tfor ?_
  | with_reducible refine Rd.tlc ?_
  | with_reducible refine Rd.mk1 ?_
  | with_reducible refine Rd.tdc ?_
  | with_reducible refine Rd.sfld ?_
  | with_reducible refine Rd.methP ?_
  | with_reducible refine Rd.xf ?_

  | with_reducible refine Rd.itemP ?_
  | with_reducible refine Rd.ost ?_
  | with_reducible refine Rd.enumT ?_
  | ((with_reducible refine' Rd.enumTAt ?h1 ?_); (case h1 => walk_at "lk"))
  | with_reducible refine Rd.meth ?_
  | with_reducible refine Rd.make ?_
  | with_reducible refine Rd.prop ?_
  | with_reducible refine Rd.item ?_
  | with_reducible refine Rd.sprop ?_
  | with_reducible refine Rd.star ?_
  | ((with_reducible refine' Rd.starL ?h1 ?_); (case h1 => walk_at "lk"))
  | with_reducible refine Rd.tdget ?_
  | ((with_reducible refine' Rd.fld ?h1 ?h2 ?h3 ?h4 ?_); (case h1 => walk_at "lk"); (case h2 => walk_at "cl"); (case h3 => walk_at "na"); (case h4 => walk_at "fl"))
  | ((with_reducible refine' Rd.ty ?h1 ?_); (case h1 => walk_at "lk"))
  | with_reducible refine Rd.tyes ?_
  | with_reducible refine Rd.noN ?_
  | with_reducible refine Rd.noNr ?_
  | with_reducible refine Rd.yesN ?_
  | with_reducible refine Rd.yesI ?_
  | with_reducible refine Rd.yesR ?_
  | with_reducible refine Rd.noNN ?_
  | with_reducible refine Rd.yes rfl ?_
  | with_reducible refine Rd.no Bool.false_ne_true ?_
  | ((with_reducible refine' Rd.wp ?h1 ?_); (case h1 => exact rfl))
  | ((with_reducible refine' Rd.isi ?h1 ?h2 ?_); (case h1 => walk_at "lk"); (case h2 => first | exact kit_int (dp_nodict (by assumption)) | exact kit_bool (dp_nodict (by assumption))))
  | with_reducible refine Rd.enum ?_
  | ((with_reducible refine' Rd.enumAt ?h1 ?_); (case h1 => walk_at "lk"))
  | with_reducible refine Rd.rng1 ?_
  | with_reducible refine Rd.rng2 ?_
  | with_reducible refine Rd.ilist ?_
  | with_reducible refine Rd.itup ?_
  | ((with_reducible refine' Rd.ilistAt ?h1 ?_); (case h1 => walk_at "lk"))
  | ((with_reducible refine' Rd.itupAt ?h1 ?_); (case h1 => walk_at "lk"))
  | ((with_reducible refine' Rd.slL ?h1 (fun q H1 nq sq hq => ?_)); (case h1 => walk_at "lk"))
  | with_reducible refine Rd.gcons ?_
  | with_reducible refine Rd.gnil ?_
  | ((with_reducible refine' Rd.gtup ?h1 ?h2 ?_); (case h1 => walk_at "lk"); (case h2 => exact rfl))
  | ((with_reducible refine' Rd.lenL ?h1 ?_); (case h1 => walk_at "lk"))
  | ((with_reducible refine' Rd.lenT ?h1 ?_); (case h1 => walk_at "lk"))
  | ((with_reducible refine' Rd.ixA ?h1 ?h2 ?_); (case h1 => walk_at "lk"); (case h2 => exact rfl))
  | ((with_reducible refine' Rd.ixB ?h1 ?h2 ?_); (case h1 => walk_at "lk"); (case h2 => exact rfl))
  | ((with_reducible refine' Rd.ixL ?h1 ?h2 ?_); (case h1 => walk_at "lk"); (case h2 => exact rfl))
  | ((with_reducible refine' Rd.newAt ?h1 (fun p H1 np sp hp => ?_)); (case h1 => exact sz_small (Nat.le_of_ble_eq_true rfl)))
  | ((with_reducible refine' Rd.ic ?h1 ?_); (case h1 => walk_at "sd"))
  | ((with_reducible refine' Rd.setL ?h1 ?h2 ?h3 ?_); (case h1 => walk_at "lk"); (case h2 => exact rfl); (case h3 => walk_at "st")))
local macro_rules | `(tactic| walk_at "rd") => `(tactic| repeat walk_at "rd1")
local macro_rules | `(tactic| walk_at "lk") => `(tactic| first
  | assumption
  | exact upd_same
  | exact SqL.of upd_same
  | exact SqT.of upd_same
  | exact SqL.of (by assumption)
  | exact SqT.of (by assumption)
  | ((with_reducible refine' same_get ?lks ?lkh); (case lks => assumption); (case lkh => walk_at "lk"))
  | ((with_reducible refine' Same.seq ?lks ?lkh); (case lks => assumption); (case lkh => walk_at "lk"))
  | ((with_reducible refine' sqT_mono ?lks ?lkh); (case lks => assumption); (case lkh => walk_at "lk"))
  | ((with_reducible refine' dp_mono ?lks ?lkh); (case lks => assumption); (case lkh => walk_at "lk")))
local macro_rules | `(tactic| walk_at "sd") => `(tactic| first
  | assumption
  | decide
  | omega
  | exact Or.inl ⟨by decide, by decide⟩
  | exact ⟨by decide, by decide, by decide⟩
  | exact Or.inr ⟨by decide, by decide⟩
  | exact wide_div (by decide) (by decide : _ < 2 ^ 200) (by decide) (by decide)
  | exact wide_div (by assumption) (by assumption : _ < 2 ^ 200) (by decide) (by decide))

local macro_rules | `(tactic| walk_at "cl") => `(tactic| first | exact cl_Tree (by assumption) | exact cl_Spot (by assumption) | exact cl_Edit (by assumption))
local macro_rules | `(tactic| walk_at "na") => `(tactic| first | exact na_rows (by assumption) | exact na_left (by assumption) | exact na_tree (by assumption) | exact na_key (by assumption) | exact na_etree (by assumption) | exact na_saved (by assumption))
local macro_rules | `(tactic| walk_at "fl") => `(tactic| first | exact lk_head | exact lk_second (by decide +kernel))

section
variable {P : Program} {w : World} {K : PySem.W.Frag} {mg : Str → Option Value} {base : Heap} {A : Ad} {L : AdL}
open L2H HotX
def pathTo (ps : List Int) (k : Int) : List Int := ps.take (ps.idxOf k + 1)
def spRaised (K : PySem.W.Frag) (C : Addr) : Sp := fun vs H Q _ => ∃ (wy : Nat) (t : Addr) (k q : Int) (dx : Addr) (rest : List (Str × V)) (rows : List Row) (ps : List Int), vs = [.int wy, .ref t, .int k, .int q] ∧ wy ≤ 3 ∧ TreeAt K C dx rest H t rows ∧ Tr rows ∧ hasK rows (.int k) = true ∧ hasK rows (.int q) = true ∧ Up rows q ps ∧ k ∈ ps ∧ rows.length ≤ 1000 ∧
  (wy ≤ 1 → ∀ H' p T, H p = none → H T = none → Same H H' → H' p = some (.lst [.ref T, .bl true]) → H' T = some (.tup ((pathTo ps k).map V.int)) → Q (.ref p) H') ∧
  (2 ≤ wy → ∀ H' p, Fr1 t H H' → TreeAt K C dx rest H' t rows → H p = none → H' p = some (.lst [.int ((wy - 2 : Nat) : Int), .str "ring", .bl true]) → Q (.ref p) H')
theorem n_a1 : ¬ (("rows" : Str) = "move_all") := by decide +kernel
theorem n_a2 : ("move_all" : Str) ≠ "left" := by decide +kernel
theorem n_a3 : ("move_all" : Str) ≠ "log" := by decide +kernel
theorem n_u1 : ¬ (("tree" : Str) = "under") := by decide +kernel
theorem n_u2 : ¬ (("key" : Str) = "under") := by decide +kernel
theorem lk_under {t : Addr} {v : V} : List.lookup ("under" : Str) (spotF t v) = none := (lk_tail n_u1).trans (lk_tail n_u2)
theorem n_wp : ¬ (("why" : Str) = "place") := by decide +kernel
theorem ok_raised (T : TxtL K mg A L) : FnOk P w K mg base (L2.CX P w) 12 L.raised L.d_raised ["_law_way_here", "_law_tree", "_law_key", "_law_parent"] (spRaised K A.c_Tree) := by
  have R_move := (ok_T_move (P := P) (w := w) (base := base) T.toTxt).weakN.raw (T.F_T_move.binds (ps := ["self", "key", "parent"]) fun _ _ _ _ _ _ us hl => match us, hl with | [_, _, _], _ => rfl) .nil
  have R_item := (ok_T_item (P := P) (w := w) (base := base) T.toTxt).weakN.raw (T.F_T_item.binds (ps := ["self", "key"]) fun _ _ _ _ _ _ us hl => match us, hl with | [_, _], _ => rfl) .nil
  have R_under := (ok_S_under (P := P) (w := w) (base := base) T.toTxt).weakN.raw (T.F_S_under.binds (ps := ["self", "parent"]) fun _ _ _ _ _ _ us hl => match us, hl with | [_, _], _ => rfl) .nil
  have R_all := ok_T_all (P := P) (w := w) (base := base) T.toTxt
  refine T.F__law_raised.okX sc__law_raised (fun vs H Q E h => ?_) (fun cdv Ar outer s H vs Q E hr h => ?_)
  · obtain ⟨wy, t, k, q, dx, rest, rows, ps, rfl, _⟩ := h
    rfl
  · obtain ⟨wy, t, k, kq, dx, rest, rows, ps, rfl, hwy, hT, htr, hk, hq, hup, hin, hl, q1, q2⟩ := h
    have hu1 := hu65 hr
    refine ⟨_, pss_cons (ps_tryC (K := K) rfl rfl rfl rfl sc__law_raised.nd (fun hd => PassesOwnAt.leaving) (L2.takes_of rfl rfl rfl rfl)
      (fun W pn xe tk hpo => pss_one (ps_if (pt_cmpR (Kx.op_eqD (K := K) rfl hu1) (pv 0) pe_int (nomark _))
        (pss_one (ps_expr (pe_methP (pv 1) T.k_Tree T.m_move R_move (hr.mono (by decide)) (fun σ => L2.passAt tk σ) (pa_cons (pv 2) (pa_cons (pv 3) pa_nil)))))
        (pss_one (ps_if (pt_cmpR (Kx.op_eqD (K := K) rfl hu1) (pv 0) pe_int (nomark _))
          (pss_one (ps_expr (pe_methP (pe_itemP (pv 1) (pv 2) T.i_item R_item (hr.mono (by decide)) (fun σ => L2.passAt tk σ) (fun _ _ => rfl)) T.k_Spot T.m_under R_under (hr.mono (by decide)) (fun σ => L2.passAt tk σ) (pa_cons (pv 3) pa_nil))))
          (pss_one (ps_if (pt_cmpR (Kx.op_eqD (K := K) rfl hu1) (pv 0) pe_int (nomark _))
            (pss_one (ps_expr (pe_methP (pv 1) T.k_Tree T.m_all R_all (hr.mono (by decide)) (fun σ => L2.passAt tk σ) (pa_cons (pe_tup (pa_cons (pv 3) (pa_cons (pv 3) pa_nil))) (pa_cons (pe_tup (pa_cons (pv 2) (pa_cons (pv 3) pa_nil))) pa_nil)))))
            (pss_one (ps_expr (pe_methP (pv 1) T.k_Tree T.m_all R_all (hr.mono (by decide)) (fun σ => L2.passAt tk σ) (pa_cons (pe_tup (pa_cons (pv 2) (pa_cons pe_non pa_nil))) (pa_cons (pe_tup (pa_cons (pv 2) (pa_cons (pv 3) pa_nil))) pa_nil)))))))))))
      (.as_ (i := 4) ⟨by rfl, by decide, .inl T.h_Ring⟩ rfl rfl (fun a oe cls d pn xe W hz hd tk =>
          pss_cons (ps_set (i := 5) sc__law_raised.nd rfl (by first | exact Or.inl rfl | exact Or.inr rfl)
            (pe_and (pe_callB (call_isX (K := K) rfl hz hd) (by rfl) T.n_isinstance (by decide +kernel) (pa_cons (pv 4) (pa_cons (pe_glob (v := .ref L.c_RowsError) (by rfl) T.g_RowsError rfl) pa_nil)))
              (pe_and (pe_callB (call_isX (K := K) rfl hz hd) (by rfl) T.n_isinstance (by decide +kernel) (pa_cons (pv 4) (pa_cons (pe_bltn (v := .ty "ValueError") (by rfl) T.n_ValueError (by decide +kernel) rfl) pa_nil)))
                (pe_one (pe_not (pe_callB (call_isX (K := K) rfl hz hd) (by rfl) T.n_isinstance (by decide +kernel) (pa_cons (pv 4) (pa_cons (pe_bltn (v := .ty "LookupError") (by rfl) T.n_LookupError (by decide +kernel) rfl) pa_nil))))))))
          (pss_one (ps_ret (pe_lst (pa_cons (pe_xfN T.f_Ring T.p_Ring hz hd (pv 4)) (pa_cons (pe_and (pv 5) (pe_one (pe_not (pe_callB (call_isX (K := K) rfl hz hd) (by rfl) T.n_isinstance (by decide +kernel) (pa_cons (pv 4) (pa_cons (pe_glob (v := .ref A.c_Undone) (by rfl) T.g_Undone rfl) pa_nil)))))) pa_nil))))))
        (.as_ (i := 4) ⟨by rfl, by decide, .inl T.g_Undone⟩ rfl rfl (fun a oe cls d pn xe W hz hd tk =>
            pss_one (ps_ret (pe_lst (pa_cons (pe_xfN T.f_Undone T.u_place hz hd (pv 4)) (pa_cons (pe_xfN T.f_Undone T.u_why hz hd (pv 4))
              (pa_cons (pe_and (pe_callB (call_isX (K := K) rfl hz hd) (by rfl) T.n_isinstance (by decide +kernel) (pa_cons (pv 4) (pa_cons (pe_glob (v := .ref L.c_RowsError) (by rfl) T.g_RowsError rfl) pa_nil)))
                (pe_one (pe_callB (call_isX (K := K) rfl hz hd) (by rfl) T.n_isinstance (by decide +kernel) (pa_cons (pv 4) (pa_cons (pe_bltn (v := .ty "ValueError") (by rfl) T.n_ValueError (by decide +kernel) rfl) pa_nil))))) pa_nil))))))
          (.as_ (i := 4) ⟨by rfl, by decide, .inl T.h_NoKey⟩ rfl rfl (fun a oe cls d pn xe W hz hd tk => pss_one (ps_ret (pe_lst (pa_cons (pe_xfN T.f_NoKey T.X_NoKey.noN hz hd (pv 4)) pa_nil)))) .nil))))
      (pss_one (ps_ret pe_non)), ?_⟩
    try dsimp only [cxOf]
    rw [show L2.start ["_law_way_here", "_law_tree", "_law_key", "_law_parent", "e", "_law_is_own"] [V.int wy, V.ref t, V.int k, V.int kq] = [some (V.int wy), some (V.ref t), some (V.int k), some (V.int kq), none, none] from rfl]
    walk_at "rd"
    refine Rd.eqD (.int _) (.int _) (shaped_int _) (shaped_int _) ?_
    rw [eqv_int]
    walk_at "rd"
    obtain ⟨hrest, a0, ht, hR⟩ := id hT
    have hkm := hasK_mem hk
    -- what the clause of Ring tells
    have ring : ∀ {dn : L2.St → Hp → Prop} {dr : VK} {db dc : L2.St → Hp → Prop} {H5 : Hp} {a dd Tp : Addr} {σ5 : Option V}, wy ≤ 1 → Same H H5 → H Tp = none → H5 dd = some (.xd [("path", .ref Tp)]) → H5 Tp = some (.tup ((pathTo ps k).map V.int)) → (∀ v H', Q v H' → dr v H') →
        tSeq (tAsg (tAndV (tCB (rIsX K (.ref A.c_Ring) (some dd) a) (tCons (tVar 4) (tCons (tC (V.ref L.c_RowsError)) tNil))) (tAndV (tCB (rIsX K (.ref A.c_Ring) (some dd) a) (tCons (tVar 4) (tCons (tC (V.ty "ValueError")) tNil))) (tNotV (tCB (rIsX K (.ref A.c_Ring) (some dd) a) (tCons (tVar 4) (tCons (tC (V.ty "LookupError")) tNil)))))) (gName 5))
          (tRet (tLst (tCons (tXf a (.ref A.c_Ring) (some dd) A.c_Ring "path" (tVar 4)) (tCons (tAndV (tVar 5) (tNotV (tCB (rIsX K (.ref A.c_Ring) (some dd) a) (tCons (tVar 4) (tCons (tC (V.ref A.c_Undone)) tNil))))) tNil)))) { nx := dn, rt := dr, bk := db, ct := dc } [some (V.int wy), some (V.ref t), some (V.int k), some (V.int kq), some (V.ref a), σ5] H5 := by
      intro dn dr db dc H5 a dd Tp σ5 hw s5 nT hdd hTp hrt
      walk_at "rd"
      refine Rd.isX T.e_Ring (fun _ r => r) hdd T.z_RR ?_
      walk_at "rd"
      refine Rd.isX T.e_Ring (fun _ r => r) hdd T.z_RV ?_
      walk_at "rd"
      refine Rd.isX T.e_Ring (fun _ r => r) hdd T.z_RL ?_
      refine Rd.bl ?_
      simp only [Bool.not_false]
      walk_at "rd"
      refine ⟨rfl, rfl, dd, _, _, rfl, hdd, lk_head, ?_⟩
      walk_at "rd"
      refine Rd.isX T.e_Ring (fun _ r => r) hdd T.z_RU ?_
      refine Rd.bl ?_
      simp only [Bool.not_false]
      walk_at "rd"
      rename_i p H6 np sp hp
      exact hrt _ _ (q1 hw H6 p Tp (s5.free np) nT (s5.trans sp) hp (sp _ _ hTp))
    have undone : ∀ {dn : L2.St → Hp → Prop} {dr : VK} {db dc : L2.St → Hp → Prop} {H5 : Hp} {a dd : Addr} {σ5 : Option V} {j : Nat}, 2 ≤ wy → j = wy - 2 → Fr1 t H H5 → TreeAt K A.c_Tree dx rest H5 t rows → H5 dd = some (.xd [("why", .str "ring"), ("place", .int (j : Nat))]) → (∀ v H', Q v H' → dr v H') →
        tRet (tLst (tCons (tXf a (.ref A.c_Undone) (some dd) A.c_Undone "place" (tVar 4)) (tCons (tXf a (.ref A.c_Undone) (some dd) A.c_Undone "why" (tVar 4)) (tCons (tAndV (tCB (rIsX K (.ref A.c_Undone) (some dd) a) (tCons (tVar 4) (tCons (tC (V.ref L.c_RowsError)) tNil))) (tCB (rIsX K (.ref A.c_Undone) (some dd) a) (tCons (tVar 4) (tCons (tC (V.ty "ValueError")) tNil)))) tNil)))) { nx := dn, rt := dr, bk := db, ct := dc } [some (V.int wy), some (V.ref t), some (V.int k), some (V.int kq), some (V.ref a), σ5] H5 := by
      intro dn dr db dc H5 a dd σ5 j hw hj f5 hT5 hdd hrt
      walk_at "rd"
      refine ⟨rfl, rfl, dd, _, _, rfl, hdd, lk_second n_wp, ?_⟩
      walk_at "rd"
      refine ⟨rfl, rfl, dd, _, _, rfl, hdd, lk_head, ?_⟩
      walk_at "rd"
      refine Rd.isX T.e_Undone (fun _ r => r) hdd T.z_UR ?_
      walk_at "rd"
      refine Rd.isX T.e_Undone (fun _ r => r) hdd T.z_UV ?_
      walk_at "rd"
      rename_i p H6 np sp hp
      subst hj
      have nH : H p = none := by
        cases e : H p with
        | none => rfl
        | some o =>
          by_cases z : p = t
          · obtain ⟨_, a5, ht5, _⟩ := id hT5
            rw [z, ht5] at np
            cases np
          · rw [f5 p o z e] at np
            cases np
      exact hrt _ _ (q2 hw H6 p (f5.trans (Same.fr1 sp)) (hT5.mono sp) nH hp)
    have mv : ∀ {H1 : Hp} {Qm : VK} {Em : XK}, Same H H1 → RingIs A ps k H1 Em → spMove K A A.c_Tree [.ref t, .int k, .int kq] H1 Qm Em := by
      intro H1 Qm Em s1 hring
      refine ⟨t, .int k, .int kq, dx, rest, rows, .int k, .int kq, rfl, hT.mono s1, .int k, .int kq, htr, by omega, fun k' o H' e1 eo _ ho _ _ => ?_, fun z => ?_, fun _ _ z => ?_, fun k' q' ps' e1 e2 _ _ u' _ => ?_⟩
      · exfalso
        cases e1
        obtain ⟨_, ps', u', n'⟩ := ho kq (opt_inj (o := o) (o' := some kq) eo.symm)
        rw [hup.uniq htr.nd u'] at hin
        exact n' hin
      · rw [hk] at z; cases z
      · rw [hq] at z; cases z
      · cases e1
        cases e2
        rw [← hup.uniq htr.nd u']
        exact hring
    have hkqm := hasK_mem hq
    have all : ∀ {H1 : Hp} {Qm : VK} {Em : XK} {T1 T2 : Addr} {x1 y1 x2 y2 : V} {d1 e1 d2 e2 : PyData} {j : Nat}, Same H H1 → SqT K H1 T1 [x1, y1] → SqT K H1 T2 [x2, y2] → (∀ H', Dp K H' x1 d1 ∧ Dp K H' y1 e1 ∧ Dp K H' x2 d2 ∧ Dp K H' y2 e2) → RunR rows [(d1, e1), (d2, e2)] 0 (.bad j "ring") →
        (∀ H' d, Fr1 t H H' → TreeAt K A.c_Tree dx rest H' t rows → H' d = some (.xd [("why", .str "ring"), ("place", .int (j : Nat))]) → Em (.ref A.c_Undone) (some d) H') →
        ∃ ws rest', [V.ref t, .ref T1, .ref T2] = ws ++ rest' ∧ ws.length = 1 ∧ rest'.length ≤ sizeLine ∧ ∀ p, H1 p = Option.none → spAllB K A A.c_Tree (ws ++ [V.ref p]) (upd H1 p (.tup rest')) Qm Em := by
      intro H1 Qm Em T1 T2 x1 y1 x2 y2 d1 e1 d2 e2 j s1 h1 h2 hd hrun herr
      refine ⟨[.ref t], [.ref T1, .ref T2], rfl, rfl, sz_small (Nat.le_of_ble_eq_true rfl), fun p np => ?_⟩
      have s2 : Same H1 (upd H1 p (.tup [.ref T1, .ref T2])) := same_upd np
      have hp : SqT K (upd H1 p (.tup [.ref T1, .ref T2])) p [.ref T1, .ref T2] := SqT.of upd_same
      generalize upd H1 p (.tup [.ref T1, .ref T2]) = H2 at s2 hp
      obtain ⟨h3, h4, h5, h6⟩ := hd H2
      refine ⟨t, p, _, [(d1, e1), (d2, e2)], dx, rest, rows, _, rfl, hp, ⟨⟨T1, x1, y1, rfl, sqT_mono s2 h1, h3, h4⟩, ⟨T2, x2, y2, rfl, sqT_mono s2 h2, h5, h6⟩, trivial⟩, (by decide : 2 ≤ 1000), hT.mono (s1.trans s2), htr, by omega, hrun, (fun rows' H' z => by cases z), fun j' why z => ?_⟩
      cases z
      intro H' d f hT' hd'
      exact herr H' d ((Same.fr1 (s1.trans s2)).trans f) hT' hd'
    refine ite2 (fun h0 => ?_) (fun h0 => ?_)
    · have w0 : wy = 0 := by have := of_decide_eq_true h0; omega
      walk_at "rd"
      refine Rd.methAt ht (hT.noM n_m1 n_m2 n_m3) ?_
      walk_at "rd"
      refine mv (Same.refl _) ?_
      intro H5 D5 T5 nT s5 hD hT5
      exact ⟨true, T.x_RR, fun _ a na => ring (by omega) s5 nT hD hT5 (fun v H' h => h), fun z => by cases z⟩
    · have w1 : wy ≠ 0 := fun z => h0 (decide_eq_true (by omega))
      walk_at "rd"
      refine Rd.eqD (.int _) (.int _) (shaped_int _) (shaped_int _) ?_
      rw [eqv_int]
      walk_at "rd"
      refine ite2 (fun h2 => ?_) (fun h2 => ?_)
      · have w2 : wy = 1 := by have := of_decide_eq_true h2; omega
        walk_at "rd"
        refine ⟨t, dx, _, rfl, ht, t, .int k, dx, rest, rows, .int k, rfl, hT, .int k, by omega, fun _ H1 sp sx nsp s1 esp => ?_, fun z => by rw [hk] at z; cases z⟩
        refine Rd.methAt esp lk_under ?_
        walk_at "rd"
        refine ⟨sp, t, .int k, .int kq, sx, rfl, esp, mv s1 ?_⟩
        intro H5 D5 T5 nT s5 hD hT5
        exact ⟨true, T.x_RR, fun _ a na => ring (by omega) (s1.trans s5) (s1.free nT) hD hT5 (fun v H' h => h), fun z => by cases z⟩
      · have w3 : wy ≠ 1 := fun z => h2 (decide_eq_true (by omega))
        walk_at "rd"
        refine Rd.eqD (.int _) (.int _) (shaped_int _) (shaped_int _) ?_
        rw [eqv_int]
        walk_at "rd"
        obtain ⟨tl, etl⟩ := hup.head
        refine ite2 (fun h4 => ?_) (fun h4 => ?_)
        · have w4 : wy = 2 := by have := of_decide_eq_true h4; omega
          walk_at "rd"
          refine Rd.methAt ht (hT.noM n_a1 n_a2 n_a3) ?_
          walk_at "rd"
          rename_i T1 H1 n1 s1 h1 T2 H2 n2 s2 h2'
          refine all (j := 0) (s1.trans s2) (SqT.of (s2 _ _ h1)) (SqT.of h2') (fun H' => ⟨.int _, .int _, .int _, .int _⟩) (.ring ⟨kq, kq, ps, rfl, rfl, hq, hq, hup, by rw [etl]; exact List.mem_cons_self⟩) fun H' d f hT' hd' => ?_
          exact ⟨false, T.x_UR, (fun z => by cases z), fun _ => ⟨true, T.x_UU, fun _ a na => undone (by omega) (by omega) f hT' hd' (fun v H' h => h), fun z => by cases z⟩⟩
        · have w4 : wy = 3 := by
            have : wy ≠ 2 := fun z => h4 (decide_eq_true (by omega))
            omega
          walk_at "rd"
          refine Rd.methAt ht (hT.noM n_a1 n_a2 n_a3) ?_
          walk_at "rd"
          rename_i T1 H1 n1 s1 h1 T2 H2 n2 s2 h2'
          have mvd := moveF_moved hkm none
          obtain ⟨up1, tr1⟩ := mvd.let_none htr
          obtain ⟨pa, pb, ep, _, npa⟩ := hup.tail hin
          have up2 := mvd.below hup up1 ep npa
          have hk1 : hasK (moveF rows k none) (.int k) = true := hasK_of hk (mvd.keys.mem_iff.mpr hkm)
          have hq1 : hasK (moveF rows k none) (.int kq) = true := hasK_of hq (mvd.keys.mem_iff.mpr hkqm)
          refine all (j := 1) (s1.trans s2) (SqT.of (s2 _ _ h1)) (SqT.of h2') (fun H' => ⟨.int _, .non, .int _, .int _⟩)
            (.ok ⟨k, none, rfl, rfl, hk, (fun q z => by cases z), rfl⟩ (.ring ⟨k, kq, _, rfl, rfl, hk1, hq1, up2, List.mem_append_right _ List.mem_cons_self⟩)) fun H' d f hT' hd' => ?_
          exact ⟨false, T.x_UR, (fun z => by cases z), fun _ => ⟨true, T.x_UU, fun _ a na => undone (by omega) (by omega) f hT' hd' (fun v H' h => h), fun z => by cases z⟩⟩
end
end PR
end

section
set_option maxHeartbeats 4000000
/-! blocks by contracts: a piece of a def's body keeps a promise told as a reading -/
namespace PR
open PySem L2 PySem.Spec PyProof.Rows
theorem Rd.gnameW {n : Nat} {v : V} {σ σ0 σ' : L2.St} {vs : List Nat} {H : Hp} {Qg : L2.St → Hp → Prop} (e0 : wipe σ vs = σ0) (e : SetAt σ0 n (some v) σ') (h : Qg σ' H) : gName n v (wipe σ vs) H Qg := by
  rw [e0]
  exact Rd.gname e h
theorem PSs.weak {X : Cx} {l : List Stmt} {t u : TS} (h : PSs X l t) (q : ∀ D σ H, u D σ H → t D σ H) : PSs X l u := ⟨fun pins s σ H D I z => h.run pins s σ H D I (q D σ H z)⟩
theorem PS.weak {X : Cx} {l : Stmt} {t u : TS} (h : PS X l t) (q : ∀ D σ H, u D σ H → t D σ H) : PS X l u := ⟨fun pins s σ H D I z => h.run pins s σ H D I (q D σ H z)⟩
def fB : Stmt → List Stmt
  | .For _ _ b _ _ => b
  | .If _ b _ _ => b
  | .While _ b _ _ => b
  | .With _ b _ => b
  | .Try b _ _ _ _ => b
  | _ => []
def fE : Stmt → List Stmt
  | .If _ _ b _ => b
  | .For _ _ _ b _ => b
  | _ => []
def nthS (l : List Stmt) (i : Nat) : Stmt := l.getD i (.Pass ⟨0, 0, 0, 0⟩)
/-- what stands elsewhere than at S stands -/
def Fr (S : List Addr) (H H' : Hp) : Prop := ∀ b o, b ∉ S → H b = some o → H' b = some o
section
variable {S S' : List Addr} {H H1 H2 H0 : Hp} {a p t : Addr} {o : HO}
theorem Fr.refl : Fr S H H := fun _ _ _ e => e
theorem Fr.trans (f : Fr S H H1) (g : Fr S H1 H2) : Fr S H H2 := fun b o n e => g b o n (f b o n e)
theorem fr_same (s : Same H H1) : Fr S H H1 := fun b o _ e => s b o e
theorem Fr1.fr (f : Fr1 t H H1) (h : t ∈ S) : Fr S H H1 := fun b o n e => f b o (fun z => n (by rw [z]; exact h)) e
theorem Fr.get (f : Fr S H H1) (n : a ∉ S) (e : H a = some o) : H1 a = some o := f a o n e
theorem Fr.mono (f : Fr S H H1) (h : ∀ a, a ∈ S → a ∈ S') : Fr S' H H1 := fun b o n e => f b o (fun z => n (h b z)) e
/-- what was made anew: with regard to an older heap all is the same -/
theorem Fr.same (f : Fr S H H1) (s : Same H0 H) (n : ∀ a, a ∈ S → H0 a = none) : Same H0 H1 := fun b o e => f b o (fun z => by rw [n b z] at e; cases e) (s b o e)
theorem none2 (h1 : H a = none) (h2 : H p = none) : ∀ b, b ∈ [a, p] → H b = none := fun b h => by
  rcases List.mem_cons.mp h with e | h
  · rw [e]; exact h1
  · rcases List.mem_cons.mp h with e | h
    · rw [e]; exact h2
    · cases h
end
/-- slots not looked at -/
theorem us1 {us : List (Option V)} (h : us.length = 1) : ∃ a, us = [a] := match us, h with | [a], _ => ⟨a, rfl⟩
theorem us2 {us : List (Option V)} (h : us.length = 2) : ∃ a b, us = [a, b] := match us, h with | [a, b], _ => ⟨a, b, rfl⟩
theorem us3 {us : List (Option V)} (h : us.length = 3) : ∃ a b c, us = [a, b, c] := match us, h with | [a, b, c], _ => ⟨a, b, c, rfl⟩
theorem us4 {us : List (Option V)} (h : us.length = 4) : ∃ a b c d, us = [a, b, c, d] := match us, h with | [a, b, c, d], _ => ⟨a, b, c, d, rfl⟩
theorem us5 {us : List (Option V)} (h : us.length = 5) : ∃ a b c d e, us = [a, b, c, d, e] := match us, h with | [a, b, c, d, e], _ => ⟨a, b, c, d, e, rfl⟩
theorem us11 {us : List (Option V)} (h : us.length = 11) : ∃ a b c d e f g i j k l, us = [a, b, c, d, e, f, g, i, j, k, l] := match us, h with | [a, b, c, d, e, f, g, i, j, k, l], _ => ⟨a, b, c, d, e, f, g, i, j, k, l, rfl⟩
theorem us12 {us : List (Option V)} (h : us.length = 12) : ∃ a b c d e f g i j k l m, us = [a, b, c, d, e, f, g, i, j, k, l, m] := match us, h with | [a, b, c, d, e, f, g, i, j, k, l, m], _ => ⟨a, b, c, d, e, f, g, i, j, k, l, m, rfl⟩
end PR
end

section
set_option maxHeartbeats 4000000
namespace PR
open PySem L2 PySem.Spec PyProof.Rows PySem.EX
local macro_rules | `(tactic| walk_at "st") => `(tactic| first | with_reducible exact setAt_z | with_reducible exact setAt_s (by walk_at "st"))
local macro_rules | `(tactic| walk_at "rd1") => `(tactic| first
  | walk_at "sq"
  | with_reducible refine Rd.nxE ?_
  | with_reducible refine Rd.rtE ?_
  | with_reducible refine Rd.ctE ?_
  | with_reducible refine Rd.bkE ?_
  | with_reducible refine Rd.asg ?_
  | ((with_reducible refine' Rd.gnameW ?h0 ?hs ?_); (case h0 => walk_at "wi"); (case hs => walk_at "st"))
  | ((with_reducible refine' Rd.gname ?hs ?_); (case hs => walk_at "st"))
  | with_reducible refine Rd.ifS ?_
  | with_reducible refine Rd.ret ?_
  | with_reducible refine Rd.retN ?_
  | with_reducible refine Rd.drop ?_
  | with_reducible refine Rd.next ?_
  | ((with_reducible refine' Rd.var ?hv ?_); (case hv => exact rfl))
  | with_reducible refine Rd.c ?_
  | with_reducible refine Rd.op ?_
  | with_reducible refine Rd.un ?_
  | with_reducible refine Rd.neg ?_
  | with_reducible refine Rd.i0 ?_
  | with_reducible refine Rd.test ?_
  | with_reducible refine Rd.chain ?_
  | with_reducible refine Rd.tB ?_
  | with_reducible refine Rd.bl ?_
  | with_reducible refine Rd.not ?_
  | with_reducible refine Rd.and ?_
  | with_reducible refine Rd.or ?_
  | with_reducible refine Rd.andV ?_
  | with_reducible refine Rd.orV ?_
  | with_reducible refine Rd.notV ?_
  | with_reducible refine Rd.nilA ?_
  | with_reducible refine Rd.consA ?_
  | with_reducible refine Rd.cb ?_
  | with_reducible refine Rd.int1 ?_
  | with_reducible refine Rd.abs1 ?_
  | with_reducible refine Rd.gsub ?_
  | with_reducible refine Rd.tpar ?_
  | ((with_reducible refine' Rd.par ?hs ?ht ?_); (case hs => walk_at "st"); (case ht => walk_at "st"))
  | with_reducible refine Rd.ttup ?_
  | with_reducible refine Rd.tlst ?_
  | with_reducible refine Rd.isN ?_
  | with_reducible refine Rd.call ?_
  | with_reducible refine Rd.sl ?_
  | with_reducible refine Rd.noPart ?_
  | with_reducible refine Rd.part ?_
  | with_reducible refine Rd.ex_int ?_
  | with_reducible refine Rd.bm ?_
  | with_reducible refine Rd.tfld ?_
  | with_reducible refine Rd.tforT fun TB hTB => ?_
  | with_reducible refine Rd.tlc ?_
  | with_reducible refine Rd.mk1 ?_
  | with_reducible refine Rd.tdc ?_
  | with_reducible refine Rd.sfld ?_
  | with_reducible refine Rd.methP ?_
  | with_reducible refine Rd.xf ?_

  | with_reducible refine Rd.itemP ?_
  | with_reducible refine Rd.ost ?_
  | with_reducible refine Rd.enumT ?_
  | ((with_reducible refine' Rd.enumTAt ?h1 ?_); (case h1 => walk_at "lk"))
  | with_reducible refine Rd.meth ?_
  | with_reducible refine Rd.make ?_
  | with_reducible refine Rd.prop ?_
  | with_reducible refine Rd.item ?_
  | with_reducible refine Rd.sprop ?_
  | with_reducible refine Rd.star ?_
  | ((with_reducible refine' Rd.starL ?h1 ?_); (case h1 => walk_at "lk"))
  | with_reducible refine Rd.tdget ?_
  | ((with_reducible refine' Rd.fld ?h1 ?h2 ?h3 ?h4 ?_); (case h1 => walk_at "lk"); (case h2 => walk_at "cl"); (case h3 => walk_at "na"); (case h4 => walk_at "fl"))
  | ((with_reducible refine' Rd.ty ?h1 ?_); (case h1 => walk_at "lk"))
  | with_reducible refine Rd.tyes ?_
  | with_reducible refine Rd.noN ?_
  | with_reducible refine Rd.noNr ?_
  | with_reducible refine Rd.yesN ?_
  | with_reducible refine Rd.yesI ?_
  | with_reducible refine Rd.yesR ?_
  | with_reducible refine Rd.noNN ?_
  | with_reducible refine Rd.yes rfl ?_
  | with_reducible refine Rd.no Bool.false_ne_true ?_
  | ((with_reducible refine' Rd.wp ?h1 ?_); (case h1 => exact rfl))
  | ((with_reducible refine' Rd.isi ?h1 ?h2 ?_); (case h1 => walk_at "lk"); (case h2 => first | exact kit_int (dp_nodict (by with_reducible assumption)) | exact kit_bool (dp_nodict (by with_reducible assumption))))
  | with_reducible refine Rd.enum ?_
  | ((with_reducible refine' Rd.enumAt ?h1 ?_); (case h1 => walk_at "lk"))
  | with_reducible refine Rd.rng1 ?_
  | with_reducible refine Rd.rng2 ?_
  | with_reducible refine Rd.ilist ?_
  | with_reducible refine Rd.itup ?_
  | ((with_reducible refine' Rd.ilistAt ?h1 ?_); (case h1 => walk_at "lk"))
  | ((with_reducible refine' Rd.itupAt ?h1 ?_); (case h1 => walk_at "lk"))
  | ((with_reducible refine' Rd.slL ?h1 (fun q H1 nq sq hq => ?_)); (case h1 => walk_at "lk"))
  | with_reducible refine Rd.gcons ?_
  | with_reducible refine Rd.gnil ?_
  | ((with_reducible refine' Rd.gtup ?h1 ?h2 ?_); (case h1 => walk_at "lk"); (case h2 => exact rfl))
  | ((with_reducible refine' Rd.lenL ?h1 ?_); (case h1 => walk_at "lk"))
  | ((with_reducible refine' Rd.lenT ?h1 ?_); (case h1 => walk_at "lk"))
  | ((with_reducible refine' Rd.ixA ?h1 ?h2 ?_); (case h1 => walk_at "lk"); (case h2 => exact rfl))
  | ((with_reducible refine' Rd.ixB ?h1 ?h2 ?_); (case h1 => walk_at "lk"); (case h2 => exact rfl))
  | ((with_reducible refine' Rd.ixL ?h1 ?h2 ?_); (case h1 => walk_at "lk"); (case h2 => exact rfl))
  | ((with_reducible refine' Rd.newAt ?h1 (fun p H1 np sp hp => ?_)); (case h1 => exact sz_small (Nat.le_of_ble_eq_true rfl)))
  | ((with_reducible refine' Rd.ic ?h1 ?_); (case h1 => walk_at "sd"))
  | ((with_reducible refine' Rd.setL ?h1 ?h2 ?h3 ?_); (case h1 => walk_at "lk"); (case h2 => exact rfl); (case h3 => walk_at "st")))
local macro_rules | `(tactic| walk_at "rd") => `(tactic| repeat walk_at "rd1")
local macro_rules | `(tactic| walk_at "lk") => `(tactic| first
  | with_reducible assumption
  | exact upd_same
  | exact SqL.of upd_same
  | exact SqT.of upd_same
  | exact SqL.of (by with_reducible assumption)
  | exact SqT.of (by with_reducible assumption)
  | ((with_reducible refine' same_get ?lks ?lkh); (case lks => with_reducible assumption); (case lkh => walk_at "lk"))
  | ((with_reducible refine' Same.seq ?lks ?lkh); (case lks => with_reducible assumption); (case lkh => walk_at "lk"))
  | ((with_reducible refine' sqT_mono ?lks ?lkh); (case lks => with_reducible assumption); (case lkh => walk_at "lk"))
  | ((with_reducible refine' dp_mono ?lks ?lkh); (case lks => with_reducible assumption); (case lkh => walk_at "lk")))
local macro_rules | `(tactic| walk_at "sd") => `(tactic| first
  | with_reducible assumption
  | decide
  | omega
  | exact Or.inl ⟨by decide, by decide⟩
  | exact ⟨by decide, by decide, by decide⟩
  | exact Or.inr ⟨by decide, by decide⟩
  | exact Or.inl ⟨by omega, by omega⟩
  | exact wide_div (by decide) (by decide : _ < 2 ^ 200) (by decide) (by decide)
  | exact wide_div (by with_reducible assumption) (by assumption : _ < 2 ^ 200) (by decide) (by decide))

local macro_rules | `(tactic| walk_at "cl") => `(tactic| first | exact cl_Tree (by with_reducible assumption) | exact cl_Spot (by with_reducible assumption) | exact cl_Edit (by with_reducible assumption))
local macro_rules | `(tactic| walk_at "na") => `(tactic| first | exact na_rows (by with_reducible assumption) | exact na_left (by with_reducible assumption) | exact na_tree (by with_reducible assumption) | exact na_key (by with_reducible assumption) | exact na_etree (by with_reducible assumption) | exact na_saved (by with_reducible assumption))
local macro_rules | `(tactic| walk_at "fl") => `(tactic| first | exact lk_head | exact lk_second (by decide +kernel))
local macro_rules | `(tactic| walk_at "wi") => `(tactic| first | (simp only [wipe, List.map_cons, List.map_nil, List.set_cons_succ, List.set_cons_zero]; done) | (simp only [wipe, List.map_cons, List.map_nil, List.set_cons_succ, List.set_cons_zero]; exact rfl))

set_option hygiene false in
local macro_rules | `(tactic| walk_at "sq") => `(tactic| with_reducible refine Rd.seqT fun S2 hS2 => ?_)
set_option hygiene false in
local macro_rules | `(tactic| walk_at "nx") => `(tactic| subst hS2)

section
variable {K : PySem.W.Frag} {mg : Str → Option Value} {A : Ad}
/-- put, all of its parameters given -/
theorem bind_put (T : Txt K mg A) : Binds K A.d_T_put ["self", "key", "parent"] [] := by
  obtain ⟨ds, hv, hb⟩ := T.F_T_put.binds1 (ps := ["self", "key", "parent"]) 3 1 (by simp) rfl (fun TT kV doc pm an cdv ct us its h1 h2 => match us, its, h1, h2 with | [_, _, _], [_], _, _ => ⟨_, rfl, rfl⟩)
  cases hv
  exact hb
abbrev passL {X : Cx} : Passes (L2.CX X.prog X.w) X (fun _ _ _ => False) := passF
end
section
variable {P : Program} {w : World} {K : PySem.W.Frag} {mg : Str → Option Value} {base : Heap} {A : Ad} {L : AdL}
open L2H HotX
def spLaw (K : PySem.W.Frag) : Sp := fun vs H Q _ => ∃ (a : Addr) (ns : List Int), vs = [.ref a] ∧ SqL K H a (ns.map V.int) ∧ ns.length ≤ 63 ∧ ∀ H', Q (.bl true) H'
theorem n_p1 : ¬ (("rows" : Str) = "put") := by decide +kernel
theorem n_p2 : ("put" : Str) ≠ "left" := by decide +kernel
theorem n_p3 : ("put" : Str) ≠ "log" := by decide +kernel
def OnlyAt (p : Addr) (H H' : Hp) : Prop := ∀ b, b ≠ p → H' b = H b
theorem take_at {H : Hp} {p : Addr} {k : Int} {Q : VK} {E : XK} (bg : BagAt H p) (h0 : 0 < k) (h1 : k.natAbs < 2 ^ 200) (h : ∀ d H', 0 ≤ d → d < k → OnlyAt p H H' → BagAt H' p → Q (.int d) H') : spTake [.ref p, .int k] H Q E :=
  ⟨p, k, rfl, bg, h0, h1, fun d c m d0 d1 c0 m0 m1 => h d _ d0 d1 (fun b hb => upd_ne hb) ⟨c, m, c0, m0, m1, upd_same⟩⟩
theorem OnlyAt.same {H0 H H' : Hp} {p : Addr} (o : OnlyAt p H H') (s : Same H0 H) (n : H0 p = none) : Same H0 H' := fun b z e => by
  rw [o b (ne_of_none e n)]
  exact s b z e
/-- rows don't lean on the bag -/
theorem rows_bag {K : PySem.W.Frag} {H H' : Hp} {p a : Addr} {rows : List Row} (o : OnlyAt p H H') (bg : BagAt H p) (h : RowsAt K H a rows) : RowsAt K H' a rows := by
  obtain ⟨c, m, _, _, _, hp⟩ := bg
  obtain ⟨xs, hS, hX⟩ := h
  refine ⟨xs, ?_, ?_⟩
  · rcases hS with (e | ⟨o', e⟩) | e
    · refine .inl (.inl ?_)
      rw [o a (fun z => ?_)]
      · exact e
      · rw [z, hp] at e
        cases e
        cases rows with
        | nil => cases hX
        | cons r rs =>
          cases hX with
          | cons h1 _ => cases h1
    · refine .inl (.inr ⟨o', ?_⟩)
      rw [o a (fun z => by rw [z, hp] at e; cases e)]
      exact e
    · exact .inr e
  · clear hS
    induction rows generalizing xs with
    | nil => cases hX; exact .nil
    | cons r rs ih =>
      cases hX with
      | cons h1 t1 =>
        obtain ⟨b, rfl, hb⟩ := dp_row h1
        refine .cons (row_dp ?_) (ih _ t1)
        rcases hb with (e | ⟨o', e⟩) | e
        · refine .inl (.inl ?_)
          rw [o b (fun z => by rw [z, hp] at e; cases e)]
          exact e
        · refine .inl (.inr ⟨o', ?_⟩)
          rw [o b (fun z => by rw [z, hp] at e; cases e)]
          exact e
        · exact .inr e
theorem tree_bag {K : PySem.W.Frag} {C dx : Addr} {rest : List (Str × V)} {H H' : Hp} {p t : Addr} {rows : List Row} (o : OnlyAt p H H') (bg : BagAt H p) (h : TreeAt K C dx rest H t rows) : TreeAt K C dx rest H' t rows := by
  obtain ⟨r, a, e, hR⟩ := h
  refine ⟨r, a, ?_, rows_bag o bg hR⟩
  obtain ⟨c, m, _, _, _, hp⟩ := bg
  rw [o t (fun z => by rw [z, hp] at e; cases e)]
  exact e
theorem bag_same {H H' : Hp} {p : Addr} (bg : BagAt H p) (s : Same H H') : BagAt H' p := let ⟨c, m, a, b, d, e⟩ := bg; ⟨c, m, a, b, d, s _ _ e⟩
theorem bag_fr1 {H H' : Hp} {p t : Addr} (bg : BagAt H p) (f : Fr1 t H H') (n : p ≠ t) : BagAt H' p := let ⟨c, m, a, b, d, e⟩ := bg; ⟨c, m, a, b, d, f _ _ n e⟩
theorem bag_ne {K : PySem.W.Frag} {C dx : Addr} {rest : List (Str × V)} {H : Hp} {p t : Addr} {rows : List Row} (bg : BagAt H p) (h : TreeAt K C dx rest H t rows) : p ≠ t := fun z => by
  obtain ⟨c, m, _, _, _, hp⟩ := bg
  obtain ⟨_, a, e, _⟩ := h
  rw [z, e] at hp
  cases hp

theorem OnlyAt.fr {S : List Addr} {H H' : Hp} {p : Addr} (o : OnlyAt p H H') (h : p ∈ S) : Fr S H H' := fun b u n e => by
  rw [o b (fun z => n (by rw [z]; exact h))]
  exact e
theorem bag_fr {S : List Addr} {H H' : Hp} {p : Addr} (bg : BagAt H p) (f : Fr S H H') (n : p ∉ S) : BagAt H' p := let ⟨c, m, a, b, d, e⟩ := bg; ⟨c, m, a, b, d, f _ _ n e⟩
/-- keys in a row of steps -/
def KeysUp (base step : Int) (n : Nat) (rows : List Row) : Prop := Tr rows ∧ rows.length = n ∧ ∀ k, k ∈ keysOf rows ↔ ∃ m : Nat, m < n ∧ k = base + step * m
abbrev LX (P : Program) (w : World) (K : PySem.W.Frag) (mg : Str → Option Value) (base : Heap) (f : Addr) (cdv : Value) (Ar : Around) (outer : List Env) (s0 : Shared) (Hz : Hp) (E : XK) : Cx :=
  cxOf (L2.CX P w) P w K mg base ["_law_script", "_law_at", "_law_bag_here", "_law_base", "_law_step", "_law_tree", "_law_many", "_law_k", "_law_far", "_law_turn", "_law_rows", "_law_low", "_law_above", "_law_path", "_law_key", "_law_due", "_law_way_here", "_law_others", "_law_own", "_law_parent", "_law_other"] "law" (defScope s_law) f cdv Ar outer s0 Hz E
/-- one turn of the loop that puts the rows -/
def spPutB (K : PySem.W.Frag) (C : Addr) : TS := fun D σ H => ∃ (a0 a1 : Option V) (p t dx : Addr) (l : V) (base step : Int) (M j : Nat) (u8 : Option V) (us : List (Option V)) (rows : List Row),
  σ = a0 :: a1 :: some (.ref p) :: some (.int base) :: some (.int step) :: some (.ref t) :: some (.int (M : Nat)) :: some (.int (j : Nat)) :: u8 :: us ∧ (-(10 ^ 21) ≤ base ∧ base ≤ 10 ^ 21) ∧ (1 ≤ step ∧ step ≤ 10 ^ 9) ∧ j < 50 ∧
  BagAt H p ∧ TreeAt K C dx [("left", l)] H t rows ∧ KeysUp base step j rows ∧
  ∀ H' u8' rows', Fr [p, t] H H' → BagAt H' p → TreeAt K C dx [("left", l)] H' t rows' → KeysUp base step (j + 1) rows' →
    D.nx (a0 :: a1 :: some (.ref p) :: some (.int base) :: some (.int step) :: some (.ref t) :: some (.int (M : Nat)) :: some (.int (j : Nat)) :: u8' :: us) H'
theorem blk_put (T : TxtL K mg A L) {f : Addr} {cdv : Value} {Ar : Around} {outer : List Env} {s0 : Shared} {Hz : Hp} {E : XK} (hr : Room 13 (LX P w K mg base f cdv Ar outer s0 Hz E).A) :
    PSs (LX P w K mg base f cdv Ar outer s0 Hz E) (fB (nthS (fB (nthS (defBody s_law) 0)) 3)) (spPutB K A.c_Tree) := by
  have T0 : Txt K mg A := T.toTxt
  have G__law_take := ok_take (P := P) (w := w) (base := base) T.b T.F__law_take
  have b__law_take := T.F__law_take.binds (ps := ["_law_bag_here", "_law_many"]) fun _ _ _ _ _ _ us hl => match us, hl with | [_, _], _ => rfl
  have G_T_put := (ok_T_put (P := P) (w := w) (base := base) T.toTxt).weakN
  have b_T_put := bind_put T.toTxt
  have hu1 := hu65 hr
  refine PSs.weak (pss_cons (ps_set (i := 8) sc_law.nd rfl (by first | exact Or.inl rfl | exact Or.inr rfl) (pe_ix (Kx.ix_seq (K := K) rfl) (pe_lst (pa_cons (pe_op op_sub (pv 7) pe_int) (pa_cons (pe_op op_sub (pv 7) pe_int) (pa_cons (pe_op op_sub (pv 7) pe_int) (pa_cons (pe_op op_sub (pe_call G__law_take (hr.mono (by decide)) rfl T.g__law_take T.F__law_take.kp b__law_take .nil passX (pa_cons (pv 2) (pa_cons (pe_op op_add (pv 7) pe_int) pa_nil))) pe_int) pa_nil))))) (pe_call G__law_take (hr.mono (by decide)) rfl T.g__law_take T.F__law_take.kp b__law_take .nil passX (pa_cons (pv 2) (pa_cons pe_int pa_nil))) (fun _ _ => rfl)))
    (pss_one (ps_if (pt_cmpR op_notN (pe_meth (pv 5) T.k_Tree T.m_put G_T_put (hr.mono (by decide)) b_T_put .nil passX (pa_cons (pe_op op_add (pv 3) (pe_op op_mul (pv 4) (pv 7))) (pa_cons (pe_ifExp (pt_cmpR op_ge (pv 8) pe_int (nomark _)) (pe_op op_add (pv 3) (pe_op op_mul (pv 4) (pv 8))) pe_non) pa_nil))) pe_non (nomark _)) (pss_one (ps_ret pe_bl)) pss_nil))) (fun D σ H9 hh => ?_)
  obtain ⟨dn, dr, db, dc⟩ := D
  obtain ⟨a0, a1, p, t, dx, l, base, step, M, j, u8, us, rows, rfl, hb1, hs1, hj50, bg9, hT9, ⟨htr, hlen, hkeys⟩, q⟩ := hh
  try dsimp only [cxOf]
  walk_at "rd"
  refine take_at bg9 (by omega) (by omega) fun d4 H11 d40 d41 o11 bg11 => ?_
  have hT11 := tree_bag o11 bg9 hT9
  walk_at "rd"
  rename_i L1 H12 n12 s12 h12
  have bg12 := bag_same bg11 s12
  have hT12 := hT11.mono s12
  refine take_at bg12 (by decide) (by decide) fun d5 H13 d50 d51 o13 bg13 => ?_
  have hT13 := tree_bag o13 bg12 hT12
  have f13 : Fr [p, t] H9 H13 := ((o11.fr (by simp)).trans (fr_same s12)).trans (o13.fr (by simp))
  have nL : L1 ≠ p := fun z => by
    obtain ⟨_, _, _, _, _, hp⟩ := bg11
    rw [z, hp] at n12
    cases n12
  have hL13 : H13 L1 = some (.lst [.int ((j : Nat) - 1), .int ((j : Nat) - 1), .int ((j : Nat) - 1), .int (d4 - 1)]) := (o13 L1 nL).trans h12
  obtain ⟨far, efar, hf1, hf2⟩ : ∃ far : Int, atI [V.int ((j : Nat) - 1), .int ((j : Nat) - 1), .int ((j : Nat) - 1), .int (d4 - 1)] d5 = some (.int far) ∧ -1 ≤ far ∧ far < j := by
    rcases (by omega : d5 = 0 ∨ d5 = 1 ∨ d5 = 2 ∨ d5 = 3) with z | z | z | z
    · subst z; exact ⟨_, rfl, by omega, by omega⟩
    · subst z; exact ⟨_, rfl, by omega, by omega⟩
    · subst z; exact ⟨_, rfl, by omega, by omega⟩
    · subst z; exact ⟨_, rfl, by omega, by omega⟩
  refine Rd.ixA (SqL.of hL13) efar ?_
  walk_at "rd"
  walk_at "nx"
  walk_at "rd"
  obtain ⟨_, a13, ht13, hR13⟩ := id hT13
  refine Rd.methAt ht13 (hT13.noM n_p1 n_p2 n_p3) ?_
  walk_at "rd"
  refine Rd.cutE (P := fun v => ∃ o, v = optV o ∧ ∀ q, o = some q → ∃ m : Nat, m < j ∧ q = base + step * m) (fun Q' kq => ?_) ?_
  · refine Rd.ifE ?_
    walk_at "rd"
    refine ite2 (fun h1 => ?_) (fun h1 => ?_)
    · have hf0 : 0 ≤ far := of_decide_eq_true h1
      walk_at "rd"
      refine kq _ ⟨some _, rfl, fun q z => ?_⟩
      cases z
      exact ⟨far.toNat, by omega, by rw [Int.toNat_of_nonneg hf0]⟩
    · walk_at "rd"
      exact kq _ ⟨none, rfl, fun q z => by cases z⟩
  · rintro _ ⟨o, rfl, ho⟩
    walk_at "rd"
    have hjs : 0 ≤ step * (j : Nat) ∧ step * (j : Nat) ≤ 10 ^ 9 * 50 := by
      refine ⟨Int.mul_nonneg (by omega) (by omega), ?_⟩
      exact Int.mul_le_mul hs1.2 (by omega) (by omega) (by decide)
    have kd : keyD (.int (base + step * (j : Nat))) = true := by
      show (decide (-bigK < _) && decide (_ < bigK)) = true
      unfold bigK
      rw [decide_eq_true (by omega), decide_eq_true (by omega)]
      rfl
    have kn : base + step * (j : Nat) ∉ keysOf rows := fun z => by
      obtain ⟨m, hm, em⟩ := (hkeys _).mp z
      have : step * (j : Nat) = step * (m : Nat) := by omega
      have := Int.eq_of_mul_eq_mul_left (by omega) this
      omega
    have key_in : ∀ q, q ∈ keysOf rows → hasK rows (.int q) = true := fun q z => by
      obtain ⟨m, hm, em⟩ := (hkeys q).mp z
      have hms : 0 ≤ step * (m : Nat) ∧ step * (m : Nat) ≤ 10 ^ 9 * 50 := by
        refine ⟨Int.mul_nonneg (by omega) (by omega), ?_⟩
        exact Int.mul_le_mul hs1.2 (by omega) (by omega) (by decide)
      show ((decide (-bigK < q) && decide (q < bigK)) && decide (q ∈ keysOf rows)) = true
      unfold bigK
      rw [decide_eq_true (by omega), decide_eq_true (by omega), decide_eq_true z]
      rfl
    have nk : hasK rows (.int (base + step * (j : Nat))) = false := by
      show ((decide (-bigK < _) && decide (_ < bigK)) && decide (_ ∈ keysOf rows)) = false
      rw [decide_eq_false kn, Bool.and_false]
    have hop : ∀ q, o = some q → q ∈ keysOf rows := fun q z => (hkeys q).mpr (ho q z)
    refine ⟨t, .int (base + step * (j : Nat)), optV o, dx, [("left", l)], rows, .int (base + step * (j : Nat)), optD o, rfl, hT13, .int _, optV_dp o, by omega, fun k' o' H' e1 e2 _ _ _ f' hT' => ?_, fun z => ?_, fun z => ?_, fun _ _ ne z => ?_⟩
    · cases e1
      have eo := opt_inj e2
      subst eo
      walk_at "rd"
      refine q _ _ (putR rows _ o) (f13.trans (f'.fr (by simp))) (bag_fr1 bg13 f' (bag_ne bg13 hT13)) hT' ⟨putR_tr htr kn hop, ?_, fun k => ?_⟩
      · have := (putR_perm rows (base + step * (j : Nat)) o).length_eq
        rw [this, List.length_cons, hlen]
      · have pk : (keysOf (putR rows (base + step * (j : Nat)) o)).Perm ((base + step * (j : Nat)) :: keysOf rows) := (putR_perm rows _ o).map Prod.fst
        rw [pk.mem_iff, List.mem_cons, hkeys]
        refine ⟨fun z => ?_, fun ⟨m, hm, em⟩ => ?_⟩
        · rcases z with z | ⟨m, hm, em⟩
          · exact ⟨j, by omega, z⟩
          · exact ⟨m, by omega, em⟩
        · by_cases z : m = j
          · subst z; exact .inl em
          · exact .inr ⟨m, by omega, em⟩
    · rw [kd] at z; cases z
    · rw [nk] at z; cases z
    · cases o with
      | none => exact absurd rfl ne
      | some q0 =>
        rw [show optD (some q0) = PyData.int q0 from rfl, key_in q0 (hop q0 rfl)] at z
        cases z
end
end PR
end

section
set_option maxHeartbeats 4000000
namespace PR
open PySem L2 PySem.Spec PyProof.Rows PySem.EX
local macro_rules | `(tactic| walk_at "st") => `(tactic| first | with_reducible exact setAt_z | with_reducible exact setAt_s (by walk_at "st"))
local macro_rules | `(tactic| walk_at "rd1") => `(tactic| first
  | walk_at "sq"
  | with_reducible refine Rd.nxE ?_
  | with_reducible refine Rd.rtE ?_
  | with_reducible refine Rd.ctE ?_
  | with_reducible refine Rd.bkE ?_
  | with_reducible refine Rd.asg ?_
  | ((with_reducible refine' Rd.gnameW ?h0 ?hs ?_); (case h0 => walk_at "wi"); (case hs => walk_at "st"))
  | ((with_reducible refine' Rd.gname ?hs ?_); (case hs => walk_at "st"))
  | with_reducible refine Rd.ifS ?_
  | with_reducible refine Rd.ret ?_
  | with_reducible refine Rd.retN ?_
  | with_reducible refine Rd.drop ?_
  | with_reducible refine Rd.next ?_
  | ((with_reducible refine' Rd.var ?hv ?_); (case hv => exact rfl))
  | with_reducible refine Rd.c ?_
  | with_reducible refine Rd.op ?_
  | with_reducible refine Rd.un ?_
  | with_reducible refine Rd.neg ?_
  | with_reducible refine Rd.i0 ?_
  | with_reducible refine Rd.test ?_
  | with_reducible refine Rd.chain ?_
  | with_reducible refine Rd.tB ?_
  | with_reducible refine Rd.bl ?_
  | with_reducible refine Rd.not ?_
  | with_reducible refine Rd.and ?_
  | with_reducible refine Rd.or ?_
  | with_reducible refine Rd.andV ?_
  | with_reducible refine Rd.orV ?_
  | with_reducible refine Rd.notV ?_
  | with_reducible refine Rd.nilA ?_
  | with_reducible refine Rd.consA ?_
  | with_reducible refine Rd.cb ?_
  | with_reducible refine Rd.int1 ?_
  | with_reducible refine Rd.abs1 ?_
  | with_reducible refine Rd.gsub ?_
  | with_reducible refine Rd.tpar ?_
  | ((with_reducible refine' Rd.par ?hs ?ht ?_); (case hs => walk_at "st"); (case ht => walk_at "st"))
  | with_reducible refine Rd.ttup ?_
  | with_reducible refine Rd.tlst ?_
  | with_reducible refine Rd.isN ?_
  | with_reducible refine Rd.call ?_
  | with_reducible refine Rd.sl ?_
  | with_reducible refine Rd.noPart ?_
  | with_reducible refine Rd.part ?_
  | with_reducible refine Rd.ex_int ?_
  | with_reducible refine Rd.bm ?_
  | with_reducible refine Rd.tfld ?_
  | with_reducible refine Rd.tforT fun TB hTB => ?_
  | with_reducible refine Rd.tlc ?_
  | with_reducible refine Rd.mk1 ?_
  | with_reducible refine Rd.tdc ?_
  | with_reducible refine Rd.sfld ?_
  | with_reducible refine Rd.methP ?_
  | with_reducible refine Rd.xf ?_

  | with_reducible refine Rd.itemP ?_
  | with_reducible refine Rd.ost ?_
  | with_reducible refine Rd.enumT ?_
  | ((with_reducible refine' Rd.enumTAt ?h1 ?_); (case h1 => walk_at "lk"))
  | with_reducible refine Rd.meth ?_
  | with_reducible refine Rd.make ?_
  | with_reducible refine Rd.prop ?_
  | with_reducible refine Rd.item ?_
  | with_reducible refine Rd.sprop ?_
  | with_reducible refine Rd.star ?_
  | ((with_reducible refine' Rd.starL ?h1 ?_); (case h1 => walk_at "lk"))
  | with_reducible refine Rd.tdget ?_
  | ((with_reducible refine' Rd.fld ?h1 ?h2 ?h3 ?h4 ?_); (case h1 => walk_at "lk"); (case h2 => walk_at "cl"); (case h3 => walk_at "na"); (case h4 => walk_at "fl"))
  | ((with_reducible refine' Rd.ty ?h1 ?_); (case h1 => walk_at "lk"))
  | with_reducible refine Rd.tyes ?_
  | with_reducible refine Rd.noN ?_
  | with_reducible refine Rd.noNr ?_
  | with_reducible refine Rd.yesN ?_
  | with_reducible refine Rd.yesI ?_
  | with_reducible refine Rd.yesR ?_
  | with_reducible refine Rd.noNN ?_
  | with_reducible refine Rd.yes rfl ?_
  | with_reducible refine Rd.no Bool.false_ne_true ?_
  | ((with_reducible refine' Rd.wp ?h1 ?_); (case h1 => exact rfl))
  | ((with_reducible refine' Rd.isi ?h1 ?h2 ?_); (case h1 => walk_at "lk"); (case h2 => first | exact kit_int (dp_nodict (by with_reducible assumption)) | exact kit_bool (dp_nodict (by with_reducible assumption))))
  | with_reducible refine Rd.enum ?_
  | ((with_reducible refine' Rd.enumAt ?h1 ?_); (case h1 => walk_at "lk"))
  | with_reducible refine Rd.rng1 ?_
  | with_reducible refine Rd.rng2 ?_
  | with_reducible refine Rd.ilist ?_
  | with_reducible refine Rd.itup ?_
  | ((with_reducible refine' Rd.ilistAt ?h1 ?_); (case h1 => walk_at "lk"))
  | ((with_reducible refine' Rd.itupAt ?h1 ?_); (case h1 => walk_at "lk"))
  | ((with_reducible refine' Rd.slL ?h1 (fun q H1 nq sq hq => ?_)); (case h1 => walk_at "lk"))
  | with_reducible refine Rd.gcons ?_
  | with_reducible refine Rd.gnil ?_
  | ((with_reducible refine' Rd.gtup ?h1 ?h2 ?_); (case h1 => walk_at "lk"); (case h2 => exact rfl))
  | ((with_reducible refine' Rd.lenL ?h1 ?_); (case h1 => walk_at "lk"))
  | ((with_reducible refine' Rd.lenT ?h1 ?_); (case h1 => walk_at "lk"))
  | ((with_reducible refine' Rd.ixA ?h1 ?h2 ?_); (case h1 => walk_at "lk"); (case h2 => exact rfl))
  | ((with_reducible refine' Rd.ixB ?h1 ?h2 ?_); (case h1 => walk_at "lk"); (case h2 => exact rfl))
  | ((with_reducible refine' Rd.ixL ?h1 ?h2 ?_); (case h1 => walk_at "lk"); (case h2 => exact rfl))
  | ((with_reducible refine' Rd.newAt ?h1 (fun p H1 np sp hp => ?_)); (case h1 => exact sz_small (Nat.le_of_ble_eq_true rfl)))
  | ((with_reducible refine' Rd.ic ?h1 ?_); (case h1 => walk_at "sd"))
  | ((with_reducible refine' Rd.setL ?h1 ?h2 ?h3 ?_); (case h1 => walk_at "lk"); (case h2 => exact rfl); (case h3 => walk_at "st")))
local macro_rules | `(tactic| walk_at "rd") => `(tactic| repeat walk_at "rd1")
local macro_rules | `(tactic| walk_at "lk") => `(tactic| first
  | with_reducible assumption
  | exact upd_same
  | exact SqL.of upd_same
  | exact SqT.of upd_same
  | exact SqL.of (by with_reducible assumption)
  | exact SqT.of (by with_reducible assumption)
  | ((with_reducible refine' same_get ?lks ?lkh); (case lks => with_reducible assumption); (case lkh => walk_at "lk"))
  | ((with_reducible refine' Same.seq ?lks ?lkh); (case lks => with_reducible assumption); (case lkh => walk_at "lk"))
  | ((with_reducible refine' sqT_mono ?lks ?lkh); (case lks => with_reducible assumption); (case lkh => walk_at "lk"))
  | ((with_reducible refine' dp_mono ?lks ?lkh); (case lks => with_reducible assumption); (case lkh => walk_at "lk")))
local macro_rules | `(tactic| walk_at "sd") => `(tactic| first
  | with_reducible assumption
  | decide
  | omega
  | exact Or.inl ⟨by decide, by decide⟩
  | exact ⟨by decide, by decide, by decide⟩
  | exact Or.inr ⟨by decide, by decide⟩
  | exact Or.inl ⟨by omega, by omega⟩
  | exact wide_div (by decide) (by decide : _ < 2 ^ 200) (by decide) (by decide)
  | exact wide_div (by with_reducible assumption) (by assumption : _ < 2 ^ 200) (by decide) (by decide))

local macro_rules | `(tactic| walk_at "cl") => `(tactic| first | exact cl_Tree (by with_reducible assumption) | exact cl_Spot (by with_reducible assumption) | exact cl_Edit (by with_reducible assumption))
local macro_rules | `(tactic| walk_at "na") => `(tactic| first | exact na_rows (by with_reducible assumption) | exact na_left (by with_reducible assumption) | exact na_tree (by with_reducible assumption) | exact na_key (by with_reducible assumption) | exact na_etree (by with_reducible assumption) | exact na_saved (by with_reducible assumption))
local macro_rules | `(tactic| walk_at "fl") => `(tactic| first | exact lk_head | exact lk_second (by decide +kernel))
local macro_rules | `(tactic| walk_at "wi") => `(tactic| first | (simp only [wipe, List.map_cons, List.map_nil, List.set_cons_succ, List.set_cons_zero]; done) | (simp only [wipe, List.map_cons, List.map_nil, List.set_cons_succ, List.set_cons_zero]; exact rfl))

set_option hygiene false in
local macro_rules | `(tactic| walk_at "sq") => `(tactic| with_reducible refine Rd.seqT fun S2 hS2 => ?_)
set_option hygiene false in
local macro_rules | `(tactic| walk_at "nx") => `(tactic| subst hS2)

section
variable {P : Program} {w : World} {K : PySem.W.Frag} {mg : Str → Option Value} {base : Heap} {A : Ad} {L : AdL}
open L2H HotX
theorem atI_map {xs : List Int} {i : Int} {k : Int} (h0 : 0 ≤ i) (h : xs[i.toNat]? = some k) : atI (xs.map V.int) i = some (.int k) := by
  have e : i = (i.toNat : Int) := by omega
  rw [e]
  exact atI_nat (by rw [List.getElem?_map, h]; rfl)
theorem KeysUp.keyIn {base step : Int} {n : Nat} {rows : List Row} (h : KeysUp base step n rows) (hb : -(10 ^ 21) ≤ base ∧ base ≤ 10 ^ 21) (hs : 1 ≤ step ∧ step ≤ 10 ^ 9) (hn : n ≤ 50) : ∀ q, q ∈ keysOf rows → hasK rows (.int q) = true := fun q z => by
  obtain ⟨m, hm, em⟩ := (h.2.2 q).mp z
  have hms : 0 ≤ step * (m : Nat) ∧ step * (m : Nat) ≤ 10 ^ 9 * 50 := by
    refine ⟨Int.mul_nonneg (by omega) (by omega), ?_⟩
    exact Int.mul_le_mul hs.2 (by omega) (by omega) (by decide)
  show ((decide (-bigK < q) && decide (q < bigK)) && decide (q ∈ keysOf rows)) = true
  unfold bigK
  rw [decide_eq_true (by omega), decide_eq_true (by omega), decide_eq_true z]
  rfl
/-- the first six statements of a turn -/
def spTurnA (K : PySem.W.Frag) (C : Addr) : TS := fun D σ H => ∃ (a0 a1 : Option V) (p t dx : Addr) (l : V) (bs st : Int) (M : Nat) (u7 u8 a9 u10 u11 u12 u13 u14 u15 : Option V) (us : List (Option V)) (rows : List Row),
  σ = a0 :: a1 :: some (.ref p) :: some (.int bs) :: some (.int st) :: some (.ref t) :: some (.int (M : Nat)) :: u7 :: u8 :: a9 :: u10 :: u11 :: u12 :: u13 :: u14 :: u15 :: us ∧ (-(10 ^ 21) ≤ bs ∧ bs ≤ 10 ^ 21) ∧ (1 ≤ st ∧ st ≤ 10 ^ 9) ∧ 2 ≤ M ∧ M ≤ 50 ∧
  BagAt H p ∧ TreeAt K C dx [("left", l)] H t rows ∧ KeysUp bs st M rows ∧
  ∀ H' r dk pth due low key ps, Fr [p, t] H H' → BagAt H' p → TreeAt K C dx [("left", l)] H' t rows → r ≠ p → RowsAt K H' r rows → H' dk = some (.dK (dictOf rows)) → Up rows low ps → key ∈ ps → H' due = some (.lst ((pathTo ps key).map V.int)) →
    D.nx (a0 :: a1 :: some (.ref p) :: some (.int bs) :: some (.int st) :: some (.ref t) :: some (.int (M : Nat)) :: u7 :: u8 :: a9 :: some (.ref r) :: some (.int low) :: some (.ref dk) :: some (.ref pth) :: some (.int key) :: some (.ref due) :: us) H'
theorem blk_turnA (T : TxtL K mg A L) {f : Addr} {cdv : Value} {Ar : Around} {outer : List Env} {s0 : Shared} {Hz : Hp} {E : XK} (hr : Room 13 (LX P w K mg base f cdv Ar outer s0 Hz E).A) {u : TS}
    (hu : PSs (LX P w K mg base f cdv Ar outer s0 Hz E) (List.drop 6 (fB (nthS (fB (nthS (defBody s_law) 0)) 4))) u) :
    PSs (LX P w K mg base f cdv Ar outer s0 Hz E) (fB (nthS (fB (nthS (defBody s_law) 0)) 4)) (tSeq (spTurnA K A.c_Tree) u) := by
  have T0 : Txt K mg A := T.toTxt
  have G__law_take := ok_take (P := P) (w := w) (base := base) T.b T.F__law_take
  have b__law_take := T.F__law_take.binds (ps := ["_law_bag_here", "_law_many"]) fun _ _ _ _ _ _ us hl => match us, hl with | [_, _], _ => rfl
  have G__law_way := (ok_way (P := P) (w := w) (base := base) T).weakN
  have b__law_way := T.F__law_way.binds (ps := ["_law_above", "_law_key"]) fun _ _ _ _ _ _ us hl => match us, hl with | [_, _], _ => rfl
  have hu1 := hu65 hr
  refine PSs.weak (pss_cons (ps_set (i := 10) sc_law.nd rfl (by first | exact Or.inl rfl | exact Or.inr rfl) (pe_callTy (Kx.call_list_of (K := K) rfl) (by rfl) T.n_list (by decide +kernel) (pa_cons (Kx.pe_fld (K := K) rfl (pv 5) rfl) pa_nil)))
    (pss_cons (ps_set (i := 11) sc_law.nd rfl (by first | exact Or.inl rfl | exact Or.inr rfl) (pe_op op_add (pv 3) (pe_op op_mul (pv 4) (pe_call G__law_take (hr.mono (by decide)) rfl T.g__law_take T.F__law_take.kp b__law_take .nil passX (pa_cons (pv 2) (pa_cons (pv 6) pa_nil))))))
    (pss_cons (ps_set (i := 12) sc_law.nd rfl (by first | exact Or.inl rfl | exact Or.inr rfl) (pe_callTy (Kx.call_dictP (K := K) rfl rfl) (by rfl) T.n_dict (by decide +kernel) (pa_cons (pv 10) pa_nil)))
    (pss_cons (ps_set (i := 13) sc_law.nd rfl (by first | exact Or.inl rfl | exact Or.inr rfl) (pe_call G__law_way (hr.mono (by decide)) rfl T.g__law_way T.F__law_way.kp b__law_way .nil passX (pa_cons (pv 12) (pa_cons (pv 11) pa_nil))))
    (pss_cons (ps_set (i := 14) sc_law.nd rfl (by first | exact Or.inl rfl | exact Or.inr rfl) (pe_ix (Kx.ix_seq (K := K) rfl) (pv 13) (pe_call G__law_take (hr.mono (by decide)) rfl T.g__law_take T.F__law_take.kp b__law_take .nil passX (pa_cons (pv 2) (pa_cons (pe_callB (Kx.call_len (K := K) rfl) (by rfl) T.n_len PySem.boot_len (pa_cons (pv 13) pa_nil)) pa_nil))) (fun _ _ => rfl)))
    (pss_cons (ps_set (i := 15) sc_law.nd rfl (by first | exact Or.inl rfl | exact Or.inr rfl) (pe_slice (Kx.sl_list (K := K) rfl) (pv 13) po_none (po_some (pe_op op_add (pe_bm PySem.F.plainAttrs_list PySem.F.slot_list_index PySem.F.type_list_index (Kx.mt_indexD (K := K) rfl hu1) (pv 13) (pa_cons (pv 14) pa_nil)) pe_int))))
    hu)))))) (fun D σ H9 hh => ?_)
  obtain ⟨dn, dr, db, dc⟩ := D
  obtain ⟨a0, a1, p, t, dx, l, bs, st, M, u7, u8, a9, u10, u11, u12, u13, u14, u15, us, rows, rfl, hb1, hs1, hM2, hM50, bg9, hT9, hku, q⟩ := hh
  obtain ⟨htr, hlen, hkeys⟩ := id hku
  obtain ⟨hrest9, a9', ht9, xs9, hS9, hX9⟩ := id hT9
  try dsimp only [cxOf]
  walk_at "rd"
  refine ⟨a9', xs9, rfl, .inl hS9, fun r nr => ?_⟩
  have sr : Same H9 (upd H9 r (.lst xs9)) := same_upd nr
  have hr1 : upd H9 r (.lst xs9) r = some (.lst xs9) := upd_same
  generalize upd H9 r (.lst xs9) = H11 at sr hr1
  have hT11 := hT9.mono sr
  have bg11 := bag_same bg9 sr
  have hrp : r ≠ p := fun z => by obtain ⟨_, _, _, _, _, hp⟩ := bg9; rw [z, hp] at nr; cases nr
  have hR11 : RowsAt K H11 r rows := ⟨xs9, SqL.of hr1, dpAll_mono sr hX9⟩
  walk_at "rd"
  walk_at "nx"
  walk_at "rd"
  refine take_at (k := (M : Int)) bg11 (by omega) (by rw [Int.natAbs_natCast]; exact Nat.lt_of_le_of_lt hM50 (by decide)) fun dl H12 dl0 dl1 o12 bg12 => ?_
  have hT12 := tree_bag o12 bg11 hT11
  have hR12 := rows_bag o12 bg11 hR11
  have f12 : Fr [p, t] H9 H12 := (fr_same sr).trans (o12.fr (by simp))
  walk_at "rd"
  walk_at "nx"
  walk_at "rd"
  obtain ⟨xsr, hSr, hXr⟩ := id hR12
  obtain ⟨psr, rfl, hpr⟩ := rows_pairs hXr
  refine ⟨r, psr, dictOf rows, rfl, hSr, hpr, fun dk nD => ?_⟩
  rw [merge_all htr.nd]
  have sD : Same H12 (upd H12 dk (.dK (dictOf rows))) := same_upd nD
  have hD1 : upd H12 dk (.dK (dictOf rows)) dk = some (.dK (dictOf rows)) := upd_same
  generalize upd H12 dk (.dK (dictOf rows)) = H13 at sD hD1
  walk_at "rd"
  walk_at "nx"
  walk_at "rd"
  have hlowk : bs + st * dl ∈ keysOf rows := (hkeys _).mpr ⟨dl.toNat, by omega, by rw [Int.toNat_of_nonneg dl0]⟩
  generalize bs + st * dl = low at hlowk
  obtain ⟨ps, hup⟩ := htr.up _ hlowk
  have hpsl := htr.len_path hup
  have hpsn : 0 < ps.length := List.length_pos_iff.mpr hup.ne
  refine ⟨dk, low, rows, ps, rfl, hD1, htr, hup, by omega, fun pth H14 npth s14 hpth => ?_⟩
  have bg14 := bag_same bg12 (sD.trans s14)
  walk_at "rd"
  walk_at "nx"
  walk_at "rd"
  rw [List.length_map]
  refine take_at (k := (ps.length : Int)) bg14 (by omega) (by rw [Int.natAbs_natCast]; exact Nat.lt_of_le_of_lt (by omega : _ ≤ 50) (by decide)) fun dj H15 dj0 dj1 o15 bg15 => ?_
  have hpp : pth ≠ p := fun z => by obtain ⟨_, _, _, _, _, hp⟩ := bag_same bg12 sD; rw [z, hp] at npth; cases npth
  have hpth15 : H15 pth = some (.lst (ps.map V.int)) := (o15 pth hpp).trans hpth
  have hlt : dj.toNat < ps.length := by omega
  obtain ⟨key, ekey⟩ : ∃ key, ps[dj.toNat]? = some key := ⟨_, List.getElem?_eq_getElem hlt⟩
  have hin : key ∈ ps := List.mem_of_getElem? ekey
  refine Rd.ixA (SqL.of hpth15) (atI_map dj0 ekey) ?_
  walk_at "rd"
  walk_at "nx"
  walk_at "rd"
  refine Rd.indexI (SqL.of hpth15) hin ?_
  walk_at "rd"
  rename_i due H16 ndue s16 hdue
  have e1 : ((ps.idxOf key : Nat) : Int) + 1 = ((ps.idxOf key + 1 : Nat) : Int) := by omega
  rw [e1, cut_to, ← List.map_take] at hdue
  have f16 : Fr [p, t] H9 H16 := (((f12.trans (fr_same sD)).trans (fr_same s14)).trans (o15.fr (by simp))).trans (fr_same s16)
  have hdk16 : H16 dk = some (.dK (dictOf rows)) := by
    have e := s14 _ _ hD1
    refine s16 _ _ ((o15 dk (fun z => ?_)).trans e)
    obtain ⟨_, _, _, _, _, hp⟩ := bg12
    rw [z, hp] at nD
    cases nD
  walk_at "nx"
  exact q H16 r dk pth due low key ps f16 (bag_same bg15 s16) ((tree_bag o15 bg14 ((hT12.mono sD).mono s14)).mono s16) hrp (rows_mono s16 (rows_bag o15 bg14 (rows_mono s14 (rows_mono sD hR12)))) hdk16 hup hin hdue
end
end PR
end

section
set_option maxHeartbeats 4000000
namespace PR
open PySem L2 PySem.Spec PyProof.Rows PySem.EX
local macro_rules | `(tactic| walk_at "st") => `(tactic| first | with_reducible exact setAt_z | with_reducible exact setAt_s (by walk_at "st"))
local macro_rules | `(tactic| walk_at "rd1") => `(tactic| first
  | walk_at "sq"
  | with_reducible refine Rd.nxE ?_
  | with_reducible refine Rd.rtE ?_
  | with_reducible refine Rd.ctE ?_
  | with_reducible refine Rd.bkE ?_
  | with_reducible refine Rd.asg ?_
  | ((with_reducible refine' Rd.gnameW ?h0 ?hs ?_); (case h0 => walk_at "wi"); (case hs => walk_at "st"))
  | ((with_reducible refine' Rd.gname ?hs ?_); (case hs => walk_at "st"))
  | with_reducible refine Rd.ifS ?_
  | with_reducible refine Rd.ret ?_
  | with_reducible refine Rd.retN ?_
  | with_reducible refine Rd.drop ?_
  | with_reducible refine Rd.next ?_
  | ((with_reducible refine' Rd.var ?hv ?_); (case hv => exact rfl))
  | with_reducible refine Rd.c ?_
  | with_reducible refine Rd.op ?_
  | with_reducible refine Rd.un ?_
  | with_reducible refine Rd.neg ?_
  | with_reducible refine Rd.i0 ?_
  | with_reducible refine Rd.test ?_
  | with_reducible refine Rd.chain ?_
  | with_reducible refine Rd.tB ?_
  | with_reducible refine Rd.bl ?_
  | with_reducible refine Rd.not ?_
  | with_reducible refine Rd.and ?_
  | with_reducible refine Rd.or ?_
  | with_reducible refine Rd.andV ?_
  | with_reducible refine Rd.orV ?_
  | with_reducible refine Rd.notV ?_
  | with_reducible refine Rd.nilA ?_
  | with_reducible refine Rd.consA ?_
  | with_reducible refine Rd.cb ?_
  | with_reducible refine Rd.int1 ?_
  | with_reducible refine Rd.abs1 ?_
  | with_reducible refine Rd.gsub ?_
  | with_reducible refine Rd.tpar ?_
  | ((with_reducible refine' Rd.par ?hs ?ht ?_); (case hs => walk_at "st"); (case ht => walk_at "st"))
  | with_reducible refine Rd.ttup ?_
  | with_reducible refine Rd.tlst ?_
  | with_reducible refine Rd.isN ?_
  | with_reducible refine Rd.call ?_
  | with_reducible refine Rd.sl ?_
  | with_reducible refine Rd.noPart ?_
  | with_reducible refine Rd.part ?_
  | with_reducible refine Rd.ex_int ?_
  | with_reducible refine Rd.bm ?_
  | with_reducible refine Rd.tfld ?_
  | with_reducible refine Rd.tforT fun TB hTB => ?_
  | with_reducible refine Rd.tlc ?_
  | with_reducible refine Rd.mk1 ?_
  | with_reducible refine Rd.tdc ?_
  | with_reducible refine Rd.sfld ?_
  | with_reducible refine Rd.methP ?_
  | with_reducible refine Rd.xf ?_

  | with_reducible refine Rd.itemP ?_
  | with_reducible refine Rd.ost ?_
  | with_reducible refine Rd.enumT ?_
  | ((with_reducible refine' Rd.enumTAt ?h1 ?_); (case h1 => walk_at "lk"))
  | with_reducible refine Rd.meth ?_
  | with_reducible refine Rd.make ?_
  | with_reducible refine Rd.prop ?_
  | with_reducible refine Rd.item ?_
  | with_reducible refine Rd.sprop ?_
  | with_reducible refine Rd.star ?_
  | ((with_reducible refine' Rd.starL ?h1 ?_); (case h1 => walk_at "lk"))
  | with_reducible refine Rd.tdget ?_
  | ((with_reducible refine' Rd.fld ?h1 ?h2 ?h3 ?h4 ?_); (case h1 => walk_at "lk"); (case h2 => walk_at "cl"); (case h3 => walk_at "na"); (case h4 => walk_at "fl"))
  | ((with_reducible refine' Rd.ty ?h1 ?_); (case h1 => walk_at "lk"))
  | with_reducible refine Rd.tyes ?_
  | with_reducible refine Rd.noN ?_
  | with_reducible refine Rd.noNr ?_
  | with_reducible refine Rd.yesN ?_
  | with_reducible refine Rd.yesI ?_
  | with_reducible refine Rd.yesR ?_
  | with_reducible refine Rd.noNN ?_
  | with_reducible refine Rd.yes rfl ?_
  | with_reducible refine Rd.no Bool.false_ne_true ?_
  | ((with_reducible refine' Rd.wp ?h1 ?_); (case h1 => exact rfl))
  | ((with_reducible refine' Rd.isi ?h1 ?h2 ?_); (case h1 => walk_at "lk"); (case h2 => first | exact kit_int (dp_nodict (by with_reducible assumption)) | exact kit_bool (dp_nodict (by with_reducible assumption))))
  | with_reducible refine Rd.enum ?_
  | ((with_reducible refine' Rd.enumAt ?h1 ?_); (case h1 => walk_at "lk"))
  | with_reducible refine Rd.rng1 ?_
  | with_reducible refine Rd.rng2 ?_
  | with_reducible refine Rd.ilist ?_
  | with_reducible refine Rd.itup ?_
  | ((with_reducible refine' Rd.ilistAt ?h1 ?_); (case h1 => walk_at "lk"))
  | ((with_reducible refine' Rd.itupAt ?h1 ?_); (case h1 => walk_at "lk"))
  | ((with_reducible refine' Rd.slL ?h1 (fun q H1 nq sq hq => ?_)); (case h1 => walk_at "lk"))
  | with_reducible refine Rd.gcons ?_
  | with_reducible refine Rd.gnil ?_
  | ((with_reducible refine' Rd.gtup ?h1 ?h2 ?_); (case h1 => walk_at "lk"); (case h2 => exact rfl))
  | ((with_reducible refine' Rd.lenL ?h1 ?_); (case h1 => walk_at "lk"))
  | ((with_reducible refine' Rd.lenT ?h1 ?_); (case h1 => walk_at "lk"))
  | ((with_reducible refine' Rd.ixA ?h1 ?h2 ?_); (case h1 => walk_at "lk"); (case h2 => exact rfl))
  | ((with_reducible refine' Rd.ixB ?h1 ?h2 ?_); (case h1 => walk_at "lk"); (case h2 => exact rfl))
  | ((with_reducible refine' Rd.ixL ?h1 ?h2 ?_); (case h1 => walk_at "lk"); (case h2 => exact rfl))
  | ((with_reducible refine' Rd.newAt ?h1 (fun p H1 np sp hp => ?_)); (case h1 => exact sz_small (Nat.le_of_ble_eq_true rfl)))
  | ((with_reducible refine' Rd.ic ?h1 ?_); (case h1 => walk_at "sd"))
  | ((with_reducible refine' Rd.setL ?h1 ?h2 ?h3 ?_); (case h1 => walk_at "lk"); (case h2 => exact rfl); (case h3 => walk_at "st")))
local macro_rules | `(tactic| walk_at "rd") => `(tactic| repeat walk_at "rd1")
local macro_rules | `(tactic| walk_at "lk") => `(tactic| first
  | with_reducible assumption
  | exact upd_same
  | exact SqL.of upd_same
  | exact SqT.of upd_same
  | exact SqL.of (by with_reducible assumption)
  | exact SqT.of (by with_reducible assumption)
  | ((with_reducible refine' same_get ?lks ?lkh); (case lks => with_reducible assumption); (case lkh => walk_at "lk"))
  | ((with_reducible refine' Same.seq ?lks ?lkh); (case lks => with_reducible assumption); (case lkh => walk_at "lk"))
  | ((with_reducible refine' sqT_mono ?lks ?lkh); (case lks => with_reducible assumption); (case lkh => walk_at "lk"))
  | ((with_reducible refine' dp_mono ?lks ?lkh); (case lks => with_reducible assumption); (case lkh => walk_at "lk")))
local macro_rules | `(tactic| walk_at "sd") => `(tactic| first
  | with_reducible assumption
  | decide
  | omega
  | exact Or.inl ⟨by decide, by decide⟩
  | exact ⟨by decide, by decide, by decide⟩
  | exact Or.inr ⟨by decide, by decide⟩
  | exact Or.inl ⟨by omega, by omega⟩
  | exact wide_div (by decide) (by decide : _ < 2 ^ 200) (by decide) (by decide)
  | exact wide_div (by with_reducible assumption) (by assumption : _ < 2 ^ 200) (by decide) (by decide))

local macro_rules | `(tactic| walk_at "cl") => `(tactic| first | exact cl_Tree (by with_reducible assumption) | exact cl_Spot (by with_reducible assumption) | exact cl_Edit (by with_reducible assumption))
local macro_rules | `(tactic| walk_at "na") => `(tactic| first | exact na_rows (by with_reducible assumption) | exact na_left (by with_reducible assumption) | exact na_tree (by with_reducible assumption) | exact na_key (by with_reducible assumption) | exact na_etree (by with_reducible assumption) | exact na_saved (by with_reducible assumption))
local macro_rules | `(tactic| walk_at "fl") => `(tactic| first | exact lk_head | exact lk_second (by decide +kernel))
local macro_rules | `(tactic| walk_at "wi") => `(tactic| first | (simp only [wipe, List.map_cons, List.map_nil, List.set_cons_succ, List.set_cons_zero]; done) | (simp only [wipe, List.map_cons, List.map_nil, List.set_cons_succ, List.set_cons_zero]; exact rfl))

set_option hygiene false in
local macro_rules | `(tactic| walk_at "sq") => `(tactic| with_reducible refine Rd.seqT fun S2 hS2 => ?_)
set_option hygiene false in
local macro_rules | `(tactic| walk_at "nx") => `(tactic| subst hS2)

section
variable {P : Program} {w : World} {K : PySem.W.Frag} {mg : Str → Option Value} {base : Heap} {A : Ad} {L : AdL}
open L2H HotX
theorem pathTo_len {ps : List Int} {k : Int} : (pathTo ps k).length ≤ ps.length := by
  unfold pathTo
  rw [List.length_take]
  exact Nat.min_le_right _ _
/-- the checks of a turn: nothing is changed but the tree's own list -/
def spTurnB (K : PySem.W.Frag) (C : Addr) : TS := fun D σ H => ∃ (a0 a1 a3 a4 a6 a7 a8 a9 a13 : Option V) (p t dx : Addr) (l : V) (r dk due : Addr) (low key : Int) (us : List (Option V)) (rows : List Row) (ps : List Int),
  σ = a0 :: a1 :: some (.ref p) :: a3 :: a4 :: some (.ref t) :: a6 :: a7 :: a8 :: a9 :: some (.ref r) :: some (.int low) :: some (.ref dk) :: a13 :: some (.int key) :: some (.ref due) :: us ∧ us.length = 5 ∧
  BagAt H p ∧ TreeAt K C dx [("left", l)] H t rows ∧ Tr rows ∧ rows.length ≤ 50 ∧ (∀ q, q ∈ keysOf rows → hasK rows (.int q) = true) ∧ r ≠ p ∧ RowsAt K H r rows ∧ H dk = some (.dK (dictOf rows)) ∧ Up rows low ps ∧ key ∈ ps ∧ H due = some (.lst ((pathTo ps key).map V.int)) ∧
  ∀ H', Fr1 t H H' → BagAt H' p → TreeAt K C dx [("left", l)] H' t rows → RowsAt K H' r rows → H' dk = some (.dK (dictOf rows)) → H' due = some (.lst ((pathTo ps key).map V.int)) → D.nx σ H'
theorem shaped_due {ks : List Int} {b : Bool} : SeqAt.shaped (.list [.list [.tuple (ks.map PyData.int), .bool b], .list [.tuple (ks.map PyData.int), .bool b]]) = true := by
  have h0 : ShN 2 (.list [.tuple (ks.map PyData.int), .bool b]) := shN_list (n := 1) fun d hd => by
    rcases List.mem_cons.mp hd with e | hd
    · rw [e]; exact shN_tuple (shN_ints ks)
    rcases List.mem_cons.mp hd with e | hd
    · rw [e]; exact ⟨by simp [PyData.canLay0], by simp [PyData.depth]⟩
    · cases hd
  refine shaped_of (shN_list (n := 2) fun d hd => ?_) (by decide)
  rcases List.mem_cons.mp hd with e | hd
  · rw [e]; exact h0
  rcases List.mem_cons.mp hd with e | hd
  · rw [e]; exact h0
  · cases hd
theorem eqv_sh {d : PyData} (h : SeqAt.shaped d = true) : PyData.eqv d d = true := by
  have h' : (d.canLay0 && decide (d.depth ≤ 64)) = true := h
  exact SeqAt.eqv_refl _ (Bool.and_eq_true_iff.mp h').1
theorem shaped_ring {n : Int} : SeqAt.shaped (.list [.int n, .str "ring", .bool true]) = true := by
  refine shaped_of (n := 1) (shN_list (n := 0) fun d hd => ?_) (by decide)
  rcases List.mem_cons.mp hd with e | hd
  · rw [e]; exact ⟨by simp [PyData.canLay0], by simp [PyData.depth]⟩
  rcases List.mem_cons.mp hd with e | hd
  · rw [e]; exact ⟨by decide +kernel, by simp [PyData.depth]⟩
  rcases List.mem_cons.mp hd with e | hd
  · rw [e]; exact ⟨by simp [PyData.canLay0], by simp [PyData.depth]⟩
  · cases hd
theorem shaped_rows {rows : List Row} : SeqAt.shaped (.list (rows.map rowD)) = true := by
  refine shaped_of (n := 2) (shN_list (n := 1) fun d hd => ?_) (by decide)
  obtain ⟨r, _, rfl⟩ := List.mem_map.mp hd
  refine shN_tuple fun z hz => ?_
  rcases List.mem_cons.mp hz with e | hz
  · rw [e]; exact ⟨by simp [PyData.canLay0], by simp [PyData.depth]⟩
  rcases List.mem_cons.mp hz with e | hz
  · rw [e]
    cases r.2 with
    | none => exact ⟨by simp [optD, PyData.canLay0], by simp [optD, PyData.depth]⟩
    | some q => exact ⟨by simp [optD, PyData.canLay0], by simp [optD, PyData.depth]⟩
  · cases hz
theorem blk_turnB (T : TxtL K mg A L) {f : Addr} {cdv : Value} {Ar : Around} {outer : List Env} {s0 : Shared} {Hz : Hp} {E : XK} (hr : Room 13 (LX P w K mg base f cdv Ar outer s0 Hz E).A) {u : TS}
    (hu : PSs (LX P w K mg base f cdv Ar outer s0 Hz E) (List.drop 9 (fB (nthS (fB (nthS (defBody s_law) 0)) 4))) u) :
    PSs (LX P w K mg base f cdv Ar outer s0 Hz E) (List.drop 6 (fB (nthS (fB (nthS (defBody s_law) 0)) 4))) (tSeq (spTurnB K A.c_Tree) u) := by
  have T0 : Txt K mg A := T.toTxt
  have G__law_raised := ok_raised (P := P) (w := w) (base := base) T
  have b__law_raised := T.F__law_raised.binds (ps := ["_law_way_here", "_law_tree", "_law_key", "_law_parent"]) fun _ _ _ _ _ _ us hl => match us, hl with | [_, _, _, _], _ => rfl
  have hu1 := hu65 hr
  refine PSs.weak (pss_cons (ps_if (pt_cmpR (Kx.op_neD (K := K) rfl hu1) (pe_lc (own := [("_law_way_here", 16)]) (g := gName 16) (tt := tYes) rfl sc_law.nd (pi_range1 (by rfl) T.n_range (pa_cons pe_int pa_nil)) (blkOk_by (N := ["_law_script", "_law_at", "_law_bag_here", "_law_base", "_law_step", "_law_tree", "_law_many", "_law_k", "_law_far", "_law_turn", "_law_rows", "_law_low", "_law_above", "_law_path", "_law_key", "_law_due", "_law_way_here", "_law_others", "_law_own", "_law_parent", "_law_other"]) (sc := defScope s_law) (by decide +kernel)) (fun _ _ _ _ _ => (pg_name (i := 16) sc_law.nd rfl (by first | exact Or.inl rfl | exact Or.inr rfl))) (fun _ _ _ _ _ => pts_nil) (fun _ _ _ _ _ => (pe_call G__law_raised (hr.mono (by decide)) rfl T.g__law_raised T.F__law_raised.kp b__law_raised .nil passL (pa_cons (pv 16) (pa_cons (pv 5) (pa_cons (pv 14) (pa_cons (pv 11) pa_nil))))))) (pe_lst (pa_cons (pe_lst (pa_cons (pe_callTy (Kx.call_tuple_of (K := K) rfl) (by rfl) T.n_tuple (by decide +kernel) (pa_cons (pv 15) pa_nil)) (pa_cons pe_bl pa_nil))) (pa_cons (pe_lst (pa_cons (pe_callTy (Kx.call_tuple_of (K := K) rfl) (by rfl) T.n_tuple (by decide +kernel) (pa_cons (pv 15) pa_nil)) (pa_cons pe_bl pa_nil))) pa_nil))) (nomark _)) (pss_one (ps_ret pe_bl)) pss_nil)
    (pss_cons (ps_if (PW.pt (pw_or (pt_cmpR (Kx.op_neD (K := K) rfl hu1) (pe_call G__law_raised (hr.mono (by decide)) rfl T.g__law_raised T.F__law_raised.kp b__law_raised .nil passX (pa_cons pe_int (pa_cons (pv 5) (pa_cons (pv 14) (pa_cons (pv 11) pa_nil))))) (pe_lst (pa_cons pe_int (pa_cons pe_str (pa_cons pe_bl pa_nil)))) (nomark _)) (pw_or1 (pt_cmpR (Kx.op_neD (K := K) rfl hu1) (pe_call G__law_raised (hr.mono (by decide)) rfl T.g__law_raised T.F__law_raised.kp b__law_raised .nil passX (pa_cons pe_int (pa_cons (pv 5) (pa_cons (pv 14) (pa_cons (pv 11) pa_nil))))) (pe_lst (pa_cons pe_int (pa_cons pe_str (pa_cons pe_bl pa_nil)))) (nomark _))))) (pss_one (ps_ret pe_bl)) pss_nil)
    (pss_cons (ps_if (pt_cmpR (Kx.op_neD (K := K) rfl hu1) (Kx.pe_fld (K := K) rfl (pv 5) rfl) (pv 10) (nomark _)) (pss_one (ps_ret pe_bl)) pss_nil)
    hu))) (fun D σ H9 hh => ?_)
  obtain ⟨dn, dr, db, dc⟩ := D
  obtain ⟨a0, a1, a3, a4, a6, a7, a8, a9, a13, p, t, dx, l, r, dk, due, low, key, us, rows, ps, rfl, hus, bg9, hT9, htr, hlen, hkin, hrp, hR9, hdk9, hup, hin, hdue9, q⟩ := hh
  obtain ⟨u16, u17, u18, u19, u20, rfl⟩ := us5 hus
  try dsimp only [cxOf]
  walk_at "rd"
  have hkp : key ∈ keysOf rows := hup.sub _ hin
  have hkey := hkin _ hkp
  have hlow := hkin _ hup.key
  let dd : PyData := .list [.tuple ((pathTo ps key).map PyData.int), .bool true]
  refine ⟨by decide, by decide, fun Dl hDl => ?_⟩
  refine lcD (K := K) walk_range (fun _ => some dd) hDl (by decide) (fun H2 s2 => trivial) ?_ ?_
  · rintro i x H1 H2 hi s1 _ ⟨rfl, ex⟩
    obtain rfl : x = V.int (i : Nat) := ex.trans (by show V.int (0 + (i : Nat)) = _; rw [Int.zero_add])
    have hi2 : i < 2 := hi
    refine ⟨Same.refl _, fun yes no hy hn ok => ?_⟩
    walk_at "rd"
    refine ⟨i, t, key, low, dx, _, rows, ps, rfl, by omega, hT9.mono s1, htr, hkey, hlow, hup, hin, by omega, fun _ H3 q1 q2 nq1 nq2 s3 hq1 hq2 => ?_, fun z => by omega⟩
    have n1 : q1 ∉ [Dl] := ok.new nq1
    have n2 : q2 ∉ [Dl] := ok.new nq2
    refine hy (.ref q1) dd H3 rfl s3 (.lst (SqL.of ((hid_out n1).trans hq1)) (.cons (.tup (SqT.of ((hid_out n2).trans hq2)) (dpAll_ints _)) (.cons (.bl _) .nil)))
  · intro H2 ys s2 hD2 hY2
    have hY2' : DpAll K H2 ys [dd, dd] := dpAll_mono hid_same hY2
    have hdue2 := s2 _ _ hdue9
    walk_at "rd"
    refine ⟨due, _, rfl, .inl ⟨SqL.of hdue2, fun T1 nT1 => ?_⟩⟩
    have s3 : Same H2 (upd H2 T1 (.tup ((pathTo ps key).map V.int))) := same_upd nT1
    have hT1 : upd H2 T1 (.tup ((pathTo ps key).map V.int)) T1 = some (.tup ((pathTo ps key).map V.int)) := upd_same
    generalize upd H2 T1 (.tup ((pathTo ps key).map V.int)) = H3 at s3 hT1
    walk_at "rd"
    rename_i L1 H4 n4 s4 hL1
    refine ⟨due, _, rfl, .inl ⟨SqL.of (s4 _ _ (s3 _ _ hdue2)), fun T2 nT2 => ?_⟩⟩
    have s5 : Same H4 (upd H4 T2 (.tup ((pathTo ps key).map V.int))) := same_upd nT2
    have hT2 : upd H4 T2 (.tup ((pathTo ps key).map V.int)) T2 = some (.tup ((pathTo ps key).map V.int)) := upd_same
    generalize upd H4 T2 (.tup ((pathTo ps key).map V.int)) = H5 at s5 hT2
    walk_at "rd"
    rename_i L2 H6 n6 s6 hL2 L3 H7 n7 s7 hL3
    have e1 : Dp K H7 (.ref L1) dd := .lst (SqL.of (s7 _ _ (s6 _ _ (s5 _ _ hL1)))) (.cons (.tup (SqT.of (s7 _ _ (s6 _ _ (s5 _ _ (s4 _ _ hT1))))) (dpAll_ints _)) (.cons (.bl _) .nil))
    have e2 : Dp K H7 (.ref L2) dd := .lst (SqL.of (s7 _ _ hL2)) (.cons (.tup (SqT.of (s7 _ _ (s6 _ _ hT2))) (dpAll_ints _)) (.cons (.bl _) .nil))
    have s27 : Same H2 H7 := ((((s3.trans s4).trans s5).trans s6).trans s7)
    refine Rd.neD (d := .list [dd, dd]) (e := .list [dd, dd]) (.lst (SqL.of (s27 _ _ hD2)) (dpAll_mono s27 hY2')) (.lst (SqL.of hL3) (.cons e1 (.cons e2 .nil))) shaped_due shaped_due ?_
    rw [eqv_sh shaped_due]
    refine Rd.bl ?_
    rw [Bool.not_true]
    walk_at "rd"
    walk_at "nx"
    have s97 : Same H9 H7 := s2.trans s27
    walk_at "rd"
    refine ⟨2, t, key, low, dx, _, rows, ps, rfl, by omega, hT9.mono s97, htr, hkey, hlow, hup, hin, by omega, fun z => by omega, fun _ H8 o8 f8 hT8 n8 h8 => ?_⟩
    walk_at "rd"
    rename_i Z1 HA nA sA hA
    refine Rd.neD (d := .list [.int 0, .str "ring", .bool true]) (e := .list [.int 0, .str "ring", .bool true]) (.lst (SqL.of (sA _ _ h8)) (.cons (.int _) (.cons (.str _) (.cons (.bl _) .nil)))) (.lst (SqL.of hA) (.cons (.int _) (.cons (.str _) (.cons (.bl _) .nil)))) shaped_ring shaped_ring ?_
    rw [eqv_sh shaped_ring]
    refine Rd.bl ?_
    rw [Bool.not_true]
    walk_at "rd"
    refine ⟨3, t, key, low, dx, _, rows, ps, rfl, by omega, hT8.mono sA, htr, hkey, hlow, hup, hin, by omega, fun z => by omega, fun _ HB oB fB' hTB nB hB => ?_⟩
    walk_at "rd"
    rename_i Z2 HC nC sC hC
    refine Rd.neD (d := .list [.int 1, .str "ring", .bool true]) (e := .list [.int 1, .str "ring", .bool true]) (.lst (SqL.of (sC _ _ hB)) (.cons (.int _) (.cons (.str _) (.cons (.bl _) .nil)))) (.lst (SqL.of hC) (.cons (.int _) (.cons (.str _) (.cons (.bl _) .nil)))) shaped_ring shaped_ring ?_
    rw [eqv_sh shaped_ring]
    refine Rd.bl ?_
    rw [Bool.not_true]
    walk_at "rd"
    walk_at "nx"
    have fC : Fr1 t H9 HC := (((Same.fr1 s97).trans f8).trans (Same.fr1 sA)).trans (fB'.trans (Same.fr1 sC))
    have hTC := hTB.mono sC
    obtain ⟨hrestC, aC, htC, hRC⟩ := id hTC
    have ht9 : ∃ fs, H9 t = some (.ins A.c_Tree dx fs) := by obtain ⟨_, a, e, _⟩ := hT9; exact ⟨_, e⟩
    obtain ⟨fs9, ht9⟩ := ht9
    have hrC : RowsAt K HC r rows := rows_fr1 fC ht9 trivial hR9
    have bgC : BagAt HC p := bag_fr1 bg9 fC (bag_ne bg9 hT9)
    have ndk : dk ≠ t := fun z => by rw [z, ht9] at hdk9; cases hdk9
    have ndue : due ≠ t := fun z => by rw [z, ht9] at hdue9; cases hdue9
    walk_at "rd"
    refine Rd.neD (rows_dp hRC) (rows_dp hrC) shaped_rows shaped_rows ?_
    rw [eqv_self_rows]
    refine Rd.bl ?_
    rw [Bool.not_true]
    walk_at "rd"
    walk_at "nx"
    exact q HC fC bgC hTC hrC (fC dk _ ndk hdk9) (fC due _ ndue hdue9)
end
end PR
end

section
set_option maxHeartbeats 4000000
namespace PR
open PySem L2 PySem.Spec PyProof.Rows PySem.EX
local macro_rules | `(tactic| walk_at "st") => `(tactic| first | with_reducible exact setAt_z | with_reducible exact setAt_s (by walk_at "st"))
local macro_rules | `(tactic| walk_at "rd1") => `(tactic| first
  | walk_at "sq"
  | with_reducible refine Rd.nxE ?_
  | with_reducible refine Rd.rtE ?_
  | with_reducible refine Rd.ctE ?_
  | with_reducible refine Rd.bkE ?_
  | with_reducible refine Rd.asg ?_
  | ((with_reducible refine' Rd.gnameW ?h0 ?hs ?_); (case h0 => walk_at "wi"); (case hs => walk_at "st"))
  | ((with_reducible refine' Rd.gname ?hs ?_); (case hs => walk_at "st"))
  | with_reducible refine Rd.ifS ?_
  | with_reducible refine Rd.ret ?_
  | with_reducible refine Rd.retN ?_
  | with_reducible refine Rd.drop ?_
  | with_reducible refine Rd.next ?_
  | ((with_reducible refine' Rd.var ?hv ?_); (case hv => exact rfl))
  | with_reducible refine Rd.c ?_
  | with_reducible refine Rd.op ?_
  | with_reducible refine Rd.un ?_
  | with_reducible refine Rd.neg ?_
  | with_reducible refine Rd.i0 ?_
  | with_reducible refine Rd.test ?_
  | with_reducible refine Rd.chain ?_
  | with_reducible refine Rd.tB ?_
  | with_reducible refine Rd.bl ?_
  | with_reducible refine Rd.not ?_
  | with_reducible refine Rd.and ?_
  | with_reducible refine Rd.or ?_
  | with_reducible refine Rd.andV ?_
  | with_reducible refine Rd.orV ?_
  | with_reducible refine Rd.notV ?_
  | with_reducible refine Rd.nilA ?_
  | with_reducible refine Rd.consA ?_
  | with_reducible refine Rd.cb ?_
  | with_reducible refine Rd.int1 ?_
  | with_reducible refine Rd.abs1 ?_
  | with_reducible refine Rd.gsub ?_
  | with_reducible refine Rd.tpar ?_
  | ((with_reducible refine' Rd.par ?hs ?ht ?_); (case hs => walk_at "st"); (case ht => walk_at "st"))
  | with_reducible refine Rd.ttup ?_
  | with_reducible refine Rd.tlst ?_
  | with_reducible refine Rd.isN ?_
  | with_reducible refine Rd.call ?_
  | with_reducible refine Rd.sl ?_
  | with_reducible refine Rd.noPart ?_
  | with_reducible refine Rd.part ?_
  | with_reducible refine Rd.ex_int ?_
  | with_reducible refine Rd.bm ?_
  | with_reducible refine Rd.tfld ?_
  | with_reducible refine Rd.tforT fun TB hTB => ?_
  | with_reducible refine Rd.tlc ?_
  | with_reducible refine Rd.mk1 ?_
  | with_reducible refine Rd.tdc ?_
  | with_reducible refine Rd.sfld ?_
  | with_reducible refine Rd.methP ?_
  | with_reducible refine Rd.xf ?_

  | with_reducible refine Rd.itemP ?_
  | with_reducible refine Rd.ost ?_
  | with_reducible refine Rd.enumT ?_
  | ((with_reducible refine' Rd.enumTAt ?h1 ?_); (case h1 => walk_at "lk"))
  | with_reducible refine Rd.meth ?_
  | with_reducible refine Rd.make ?_
  | with_reducible refine Rd.prop ?_
  | with_reducible refine Rd.item ?_
  | with_reducible refine Rd.sprop ?_
  | with_reducible refine Rd.star ?_
  | ((with_reducible refine' Rd.starL ?h1 ?_); (case h1 => walk_at "lk"))
  | with_reducible refine Rd.tdget ?_
  | ((with_reducible refine' Rd.fld ?h1 ?h2 ?h3 ?h4 ?_); (case h1 => walk_at "lk"); (case h2 => walk_at "cl"); (case h3 => walk_at "na"); (case h4 => walk_at "fl"))
  | ((with_reducible refine' Rd.ty ?h1 ?_); (case h1 => walk_at "lk"))
  | with_reducible refine Rd.tyes ?_
  | with_reducible refine Rd.noN ?_
  | with_reducible refine Rd.noNr ?_
  | with_reducible refine Rd.yesN ?_
  | with_reducible refine Rd.yesI ?_
  | with_reducible refine Rd.yesR ?_
  | with_reducible refine Rd.noNN ?_
  | with_reducible refine Rd.yes rfl ?_
  | with_reducible refine Rd.no Bool.false_ne_true ?_
  | ((with_reducible refine' Rd.wp ?h1 ?_); (case h1 => exact rfl))
  | ((with_reducible refine' Rd.isi ?h1 ?h2 ?_); (case h1 => walk_at "lk"); (case h2 => first | exact kit_int (dp_nodict (by with_reducible assumption)) | exact kit_bool (dp_nodict (by with_reducible assumption))))
  | with_reducible refine Rd.enum ?_
  | ((with_reducible refine' Rd.enumAt ?h1 ?_); (case h1 => walk_at "lk"))
  | with_reducible refine Rd.rng1 ?_
  | with_reducible refine Rd.rng2 ?_
  | with_reducible refine Rd.ilist ?_
  | with_reducible refine Rd.itup ?_
  | ((with_reducible refine' Rd.ilistAt ?h1 ?_); (case h1 => walk_at "lk"))
  | ((with_reducible refine' Rd.itupAt ?h1 ?_); (case h1 => walk_at "lk"))
  | ((with_reducible refine' Rd.slL ?h1 (fun q H1 nq sq hq => ?_)); (case h1 => walk_at "lk"))
  | with_reducible refine Rd.gcons ?_
  | with_reducible refine Rd.gnil ?_
  | ((with_reducible refine' Rd.gtup ?h1 ?h2 ?_); (case h1 => walk_at "lk"); (case h2 => exact rfl))
  | ((with_reducible refine' Rd.lenL ?h1 ?_); (case h1 => walk_at "lk"))
  | ((with_reducible refine' Rd.lenT ?h1 ?_); (case h1 => walk_at "lk"))
  | ((with_reducible refine' Rd.ixA ?h1 ?h2 ?_); (case h1 => walk_at "lk"); (case h2 => exact rfl))
  | ((with_reducible refine' Rd.ixB ?h1 ?h2 ?_); (case h1 => walk_at "lk"); (case h2 => exact rfl))
  | ((with_reducible refine' Rd.ixL ?h1 ?h2 ?_); (case h1 => walk_at "lk"); (case h2 => exact rfl))
  | ((with_reducible refine' Rd.newAt ?h1 (fun p H1 np sp hp => ?_)); (case h1 => exact sz_small (Nat.le_of_ble_eq_true rfl)))
  | ((with_reducible refine' Rd.ic ?h1 ?_); (case h1 => walk_at "sd"))
  | ((with_reducible refine' Rd.setL ?h1 ?h2 ?h3 ?_); (case h1 => walk_at "lk"); (case h2 => exact rfl); (case h3 => walk_at "st")))
local macro_rules | `(tactic| walk_at "rd") => `(tactic| repeat walk_at "rd1")
local macro_rules | `(tactic| walk_at "lk") => `(tactic| first
  | with_reducible assumption
  | exact upd_same
  | exact SqL.of upd_same
  | exact SqT.of upd_same
  | exact SqL.of (by with_reducible assumption)
  | exact SqT.of (by with_reducible assumption)
  | ((with_reducible refine' same_get ?lks ?lkh); (case lks => with_reducible assumption); (case lkh => walk_at "lk"))
  | ((with_reducible refine' Same.seq ?lks ?lkh); (case lks => with_reducible assumption); (case lkh => walk_at "lk"))
  | ((with_reducible refine' sqT_mono ?lks ?lkh); (case lks => with_reducible assumption); (case lkh => walk_at "lk"))
  | ((with_reducible refine' dp_mono ?lks ?lkh); (case lks => with_reducible assumption); (case lkh => walk_at "lk")))
local macro_rules | `(tactic| walk_at "sd") => `(tactic| first
  | with_reducible assumption
  | decide
  | omega
  | exact Or.inl ⟨by decide, by decide⟩
  | exact ⟨by decide, by decide, by decide⟩
  | exact Or.inr ⟨by decide, by decide⟩
  | exact Or.inl ⟨by omega, by omega⟩
  | exact wide_div (by decide) (by decide : _ < 2 ^ 200) (by decide) (by decide)
  | exact wide_div (by with_reducible assumption) (by assumption : _ < 2 ^ 200) (by decide) (by decide))

local macro_rules | `(tactic| walk_at "cl") => `(tactic| first | exact cl_Tree (by with_reducible assumption) | exact cl_Spot (by with_reducible assumption) | exact cl_Edit (by with_reducible assumption))
local macro_rules | `(tactic| walk_at "na") => `(tactic| first | exact na_rows (by with_reducible assumption) | exact na_left (by with_reducible assumption) | exact na_tree (by with_reducible assumption) | exact na_key (by with_reducible assumption) | exact na_etree (by with_reducible assumption) | exact na_saved (by with_reducible assumption))
local macro_rules | `(tactic| walk_at "fl") => `(tactic| first | exact lk_head | exact lk_second (by decide +kernel))
local macro_rules | `(tactic| walk_at "wi") => `(tactic| first | (simp only [wipe, List.map_cons, List.map_nil, List.set_cons_succ, List.set_cons_zero]; done) | (simp only [wipe, List.map_cons, List.map_nil, List.set_cons_succ, List.set_cons_zero]; exact rfl))

set_option hygiene false in
local macro_rules | `(tactic| walk_at "sq") => `(tactic| with_reducible refine Rd.seqT fun S2 hS2 => ?_)
set_option hygiene false in
local macro_rules | `(tactic| walk_at "nx") => `(tactic| subst hS2)

section
variable {P : Program} {w : World} {K : PySem.W.Frag} {mg : Str → Option Value} {base : Heap} {A : Ad} {L : AdL}
open L2H HotX
theorem filterMap_bind {α β : Type} (l : List α) (g : α → Option β) : (List.range l.length).filterMap (fun i => l[i]?.bind g) = l.filterMap g := by
  have e : ∀ n, n ≤ l.length → (List.range n).filterMap (fun i => l[i]?.bind g) = (l.take n).filterMap g := by
    intro n
    induction n with
    | zero => intro _; rfl
    | succ n ih =>
      intro hn
      have hlt : n < l.length := by omega
      rw [List.range_succ, List.filterMap_append, ih (by omega), List.take_add_one, List.filterMap_append, List.getElem?_eq_getElem hlt]
      congr 1
      show List.filterMap _ [n] = List.filterMap g [l[n]]
      rw [List.filterMap_cons, List.filterMap_cons, List.getElem?_eq_getElem hlt]
      rfl
  rw [e l.length (Nat.le_refl _), List.take_length]
/-- the way up from a key -/
noncomputable def upF (rows : List Row) (k : Int) : List Int := Classical.epsilon fun ps => Up rows k ps
theorem upF_up {rows : List Row} {k : Int} (t : Tr rows) (h : k ∈ keysOf rows) : Up rows k (upF rows k) := Classical.epsilon_spec (t.up k h)
/-- the keys that are not below k -/
noncomputable def offK (rows : List Row) (k : Int) : List Int := rows.filterMap fun r => if k ∈ upF rows r.1 then none else some r.1
theorem offK_map {rows : List Row} {k : Int} : (List.range rows.length).filterMap (fun i => rows[i]?.bind fun r => if k ∈ upF rows r.1 then none else some (V.int r.1)) = (offK rows k).map V.int := by
  rw [filterMap_bind]
  unfold offK
  rw [List.map_filterMap]
  congr 1
  funext r
  split <;> rfl
theorem offK_mem {rows : List Row} {k q : Int} (t : Tr rows) (h : q ∈ offK rows k) : q ∈ keysOf rows ∧ ∃ ps, Up rows q ps ∧ k ∉ ps := by
  obtain ⟨r, hr, e⟩ := List.mem_filterMap.mp h
  by_cases z : k ∈ upF rows r.1
  · rw [if_pos z] at e; cases e
  · rw [if_neg z] at e
    have e' : r.1 = q := Option.some.inj e
    rw [← e']
    have := key_of hr
    exact ⟨this, _, upF_up t this, z⟩
theorem eqv_empty (xs : List Int) : PyData.eqv (.list (xs.map PyData.int)) (.list []) = decide (xs = []) := by
  cases xs with
  | nil => rfl
  | cons a r => rw [decide_eq_false (by simp)]; rfl
theorem pathTo_eq {ps a b : List Int} {k : Int} (e : ps = a ++ k :: b) (n : k ∉ a) : pathTo ps k = a ++ [k] := by
  subst e
  unfold pathTo
  have h : (a ++ k :: b).idxOf k = a.length := by
    rw [List.idxOf_append, if_neg n, List.idxOf_cons_self, Nat.zero_add]
  rw [h, List.take_append, List.take_of_length_le (by omega)]
  congr 1
  rw [Nat.add_sub_cancel_left]
  rfl
theorem atI_last2 {α : Type} (xs : List α) (v w : α) : atI (xs ++ [v, w]) (-2) = some v := by
  have hl : (xs ++ [v, w]).length = xs.length + 2 := by simp
  have e : ixN (xs ++ [v, w]).length (-2) = some xs.length := by
    unfold ixN
    rw [hl, if_neg (by decide), if_pos (by omega)]
    congr 1
    omega
  unfold atI
  rw [e]
  simp
theorem n_m1' : ¬ (("rows" : Str) = "move") := n_m1
/-- a move that is let, and its parent told -/
theorem chk_move (T : TxtL K mg A L) {σ : L2.St} {H : Hp} {t dx : Addr} {l : V} {rows : List Row} {key x : Int} {ps : List Int} {i j : Nat} {E : XK} {Qb : Bool → Hp → Prop} (e5 : σ[5]? = some (some (V.ref t))) (ek : σ[i]? = some (some (V.int key))) (ex : σ[j]? = some (some (V.int x)))
    (hT : TreeAt K A.c_Tree dx [("left", l)] H t rows) (htr : Tr rows) (hl : rows.length ≤ 50) (hk : hasK rows (.int key) = true) (hx : hasK rows (.int x) = true) (hup : Up rows x ps) (no : key ∉ ps)
    (q : ∀ H' rows', Fr1 t H H' → TreeAt K A.c_Tree dx [("left", l)] H' t rows' → Tr rows' → (keysOf rows').Perm (keysOf rows) → Qb false H') :
    tOr (tTest (tOp (fun x y H Q => y = V.non ∧ Q (V.bl !decide (x = V.non)) H) (tMeth A.c_Tree "move" (spMove K A A.c_Tree) [] E (tVar 5) (tCons (tVar i) (tCons (tVar j) tNil))) (tC V.non)))
      (tTest (tOp (rNeD K) (tProp A.c_Spot (spGet K A A.c_Tree) [] (fun _ _ _ => False) (tItem A.c_Tree (spItem K A A.c_Tree) E (tVar 5) (tVar i))) (tVar j))) σ H Qb := by
  have hkm := hasK_mem hk
  obtain ⟨hrest, aR, ht, hR⟩ := id hT
  refine Rd.or (Rd.test (Rd.op (Rd.meth (Rd.var e5 (Rd.methAt ht (hT.noM n_m1 n_m2 n_m3) (Rd.consA (Rd.var ek (Rd.consA (Rd.var ex (Rd.nilA ?_))))))))))
  refine ⟨t, .int key, .int x, dx, _, rows, .int key, .int x, rfl, hT, .int _, .int _, htr, by omega, fun k o H' ed eo hk' ho f' hT' => ?_, fun z => ?_, fun _ _ z => ?_, fun k' q' ps' e1 e2 _ _ u' hin' => ?_⟩
  · cases ed
    have eo2 : o = some x := opt_inj (o' := some x) eo.symm
    subst eo2
    have mvd := moveF_moved hkm (some x)
    obtain ⟨_, htr'⟩ := mvd.let_some htr hup no
    have hl' : (moveF rows key (some x)).length = rows.length := by
      have := mvd.keys.length_eq
      unfold keysOf at this
      rwa [List.length_map, List.length_map] at this
    have hk1 : hasK (moveF rows key (some x)) (.int key) = true := hasK_of hk (mvd.keys.mem_iff.mpr hkm)
    walk_at "rd"
    refine Rd.var e5 (Rd.var ek ?_)
    obtain ⟨hrest', aR', ht', hR'⟩ := id hT'
    refine ⟨t, dx, _, rfl, ht', t, .int key, dx, _, _, .int key, rfl, hT', .int _, by omega, fun _ H3 sp sx nsp s3 esp => ?_, fun z => by rw [hk1] at z; cases z⟩
    refine ⟨sp, sx, _, rfl, esp, sp, t, .int key, sx, dx, _, _, .int key, rfl, esp, hT'.mono s3, .int _, by omega, fun k o H4 ek' hk' eo s4 => ?_, fun z => by rw [hk1] at z; cases z⟩
    cases ek'
    have eo3 : o = some x := nd_row htr'.nd (List.mem_of_getElem? eo) mvd.own
    subst eo3
    refine Rd.var ex ?_
    refine Rd.neD (.int _) (.int _) (shaped_int _) (shaped_int _) ?_
    rw [eqv_int, decide_eq_true rfl]
    exact Rd.bl (q H4 _ (f'.trans (Same.fr1 (s3.trans s4))) (hT'.mono (s3.trans s4)) htr' mvd.keys)
  · rw [hk] at z; cases z
  · rw [hx] at z; cases z
  · cases e1
    cases e2
    exact absurd (by rw [hup.uniq htr.nd u']; exact hin') no
def spTurnC (K : PySem.W.Frag) (C : Addr) : TS := fun D σ H => ∃ (a0 a1 a3 a4 a6 a7 a8 a13 : Option V) (p t dx : Addr) (l : V) (j : Nat) (r dk due : Addr) (low key : Int) (us : List (Option V)) (rows : List Row) (ps : List Int),
  σ = a0 :: a1 :: some (.ref p) :: a3 :: a4 :: some (.ref t) :: a6 :: a7 :: a8 :: some (.int (j : Nat)) :: some (.ref r) :: some (.int low) :: some (.ref dk) :: a13 :: some (.int key) :: some (.ref due) :: us ∧ us.length = 5 ∧
  BagAt H p ∧ TreeAt K C dx [("left", l)] H t rows ∧ Tr rows ∧ rows.length ≤ 50 ∧ (∀ q, q ∈ keysOf rows → hasK rows (.int q) = true) ∧ r ≠ p ∧ RowsAt K H r rows ∧ H dk = some (.dK (dictOf rows)) ∧ Up rows low ps ∧ key ∈ ps ∧ H due = some (.lst ((pathTo ps key).map V.int)) ∧
  ∀ H' rows' us', Fr [p, t] H H' → BagAt H' p → TreeAt K C dx [("left", l)] H' t rows' → Tr rows' → (keysOf rows').Perm (keysOf rows) → rows'.length = rows.length → us'.length = 14 →
    D.nx (a0 :: a1 :: some (.ref p) :: a3 :: a4 :: some (.ref t) :: a6 :: us') H'

def spElif (K : PySem.W.Frag) (C : Addr) : TS := fun D σ H => ∃ (a0 a1 a2 a3 a4 a6 a7 a8 a9 a10 a12 a13 : Option V) (t dx : Addr) (l : V) (due : Addr) (low key : Int) (us : List (Option V)) (rows : List Row) (ps : List Int),
  σ = a0 :: a1 :: a2 :: a3 :: a4 :: some (.ref t) :: a6 :: a7 :: a8 :: a9 :: a10 :: some (.int low) :: a12 :: a13 :: some (.int key) :: some (.ref due) :: us ∧
  TreeAt K C dx [("left", l)] H t rows ∧ Tr rows ∧ rows.length ≤ 50 ∧ (∀ q, q ∈ keysOf rows → hasK rows (.int q) = true) ∧ Up rows low ps ∧ key ∈ ps ∧ H due = some (.lst ((pathTo ps key).map V.int)) ∧
  ∀ H' rows', Fr1 t H H' → TreeAt K C dx [("left", l)] H' t rows' → Tr rows' → (keysOf rows').Perm (keysOf rows) → D.nx σ H'
theorem blk_elif (T : TxtL K mg A L) {f : Addr} {cdv : Value} {Ar : Around} {outer : List Env} {s0 : Shared} {Hz : Hp} {E : XK} (hr : Room 13 (LX P w K mg base f cdv Ar outer s0 Hz E).A) :
    PSs (LX P w K mg base f cdv Ar outer s0 Hz E) (fE (nthS (fB (nthS (fB (nthS (defBody s_law) 0)) 4)) 10)) (spElif K A.c_Tree) := by
  have T0 : Txt K mg A := T.toTxt
  have G_T_move := (ok_T_move (P := P) (w := w) (base := base) T.toTxt).weakN
  have b_T_move := T.F_T_move.binds (ps := ["self", "key", "parent"]) fun _ _ _ _ _ _ us hl => match us, hl with | [_, _, _], _ => rfl
  have G_T_item := (ok_T_item (P := P) (w := w) (base := base) T.toTxt).weakN
  have b_T_item := T.F_T_item.binds (ps := ["self", "key"]) fun _ _ _ _ _ _ us hl => match us, hl with | [_, _], _ => rfl
  have G_S_get := (ok_S_get (P := P) (w := w) (base := base) T.toTxt).weakN
  have b_S_get := T.F_S_get.binds (ps := ["self"]) fun _ _ _ _ _ _ us hl => match us, hl with | [_], _ => rfl
  have hu1 := hu65 hr
  refine PSs.weak (pss_one (ps_if (pt_cmpR op_gt (pe_callB (Kx.call_len (K := K) rfl) (by rfl) T.n_len PySem.boot_len (pa_cons (pv 15) pa_nil)) pe_int (nomark _)) (pss_one (ps_if (PW.pt (pw_or (pt_cmpR op_notN (pe_meth (pv 5) T.k_Tree T.m_move G_T_move (hr.mono (by decide)) b_T_move .nil passX (pa_cons (pe_ix (Kx.ix_seq (K := K) rfl) (pv 15) (pe_un un_neg pe_int) (fun _ _ => rfl)) (pa_cons pe_non pa_nil))) pe_non (nomark _)) (pw_or (pt_cmpR op_notN (pe_meth (pv 5) T.k_Tree T.m_move G_T_move (hr.mono (by decide)) b_T_move .nil passX (pa_cons (pv 14) (pa_cons (pv 11) pa_nil))) pe_non (nomark _)) (pw_or1 (pt_cmpR (Kx.op_neD (K := K) rfl hu1) (pe_prop (pe_item (pv 5) (pv 14) T.i_item G_T_item (hr.mono (by decide)) b_T_item passX (fun _ _ => rfl)) T.k_Spot T.p_get G_S_get (hr.mono (by decide)) b_S_get .nil passF rfl) (pv 11) (nomark _)))))) (pss_one (ps_ret pe_bl)) pss_nil)) pss_nil)) (fun D σ H9 hh => ?_)
  obtain ⟨dn, dr, db, dc⟩ := D
  obtain ⟨a0, a1, a2, a3, a4, a6, a7, a8, a9, a10, a12, a13, t, dx, l, due, low, key, us, rows, ps, rfl, hT9, htr, hlen, hkin, hup, hin, hdue9, q⟩ := hh
  try dsimp only [cxOf]
  walk_at "rd"
  obtain ⟨pa, pb, ep, _, npa⟩ := hup.tail hin
  rw [pathTo_eq ep npa] at hdue9 ⊢
  have hkp : key ∈ keysOf rows := hup.sub _ hin
  have hkey := hkin _ hkp
  have hlow := hkin _ hup.key
  obtain ⟨hrest, aR, ht, hR⟩ := id hT9
  refine ite2 (fun h1 => ?_) (fun h1 => ?_)
  · have h1' := of_decide_eq_true h1
    obtain ⟨pa', c, rfl⟩ : ∃ pa' c, pa = pa' ++ [c] := by
      rcases List.eq_nil_or_concat pa with z | ⟨pa', c, z⟩
      · exfalso
        rw [z] at h1'
        simp at h1'
      · exact ⟨pa', c, by rw [z, List.concat_eq_append]⟩
    have hcin : c ∈ ps := by rw [ep]; simp
    have hc := hkin _ (hup.sub _ hcin)
    have hcm := hasK_mem hc
    walk_at "rd"
    refine Rd.methAt ht (hT9.noM n_m1 n_m2 n_m3) ?_
    walk_at "rd"
    have hd9 : H9 due = some (.lst (pa'.map V.int ++ [.int c, .int key])) := by rw [hdue9]; simp
    refine Rd.ixA (SqL.of hd9) (atI_last2 _ _ _) ?_
    refine Rd.consA (Rd.c (Rd.nilA ?_))
    refine ⟨t, .int c, .non, dx, _, rows, .int c, .none, rfl, hT9, .int _, .non, htr, by omega, fun k o H' ed eo hk' ho f' hT' => ?_, fun z => (by rw [hc] at z; cases z), fun _ ne _ => absurd rfl ne, fun _ _ _ _ e2 _ _ _ _ => by cases e2⟩
    cases ed
    have eo2 : o = none := opt_inj (o' := none) eo.symm
    subst eo2
    have mvd := moveF_moved hcm none
    obtain ⟨up1, tr1⟩ := mvd.let_none htr
    have nd := hup.nodup htr.nd
    have ep2 : ps = pa' ++ c :: (key :: pb) := by rw [ep]; simp
    rw [ep2] at nd
    have nd2 := List.nodup_append.mp nd
    have nc : c ∉ pa' := fun z => nd2.2.2 c z c List.mem_cons_self rfl
    have up2 := mvd.below hup up1 ep2 nc
    have nk : key ∉ pa' ++ c :: [] := npa
    have pm1 := mvd.keys
    have hl1 : (moveF rows c none).length = rows.length := by
      have := pm1.length_eq
      unfold keysOf at this
      rwa [List.length_map, List.length_map] at this
    refine ⟨rfl, Rd.bl (Rd.noNN ?_)⟩
    refine chk_move T (i := 14) (j := 11) rfl rfl rfl hT' tr1 (by omega) (hasK_of hkey (pm1.mem_iff.mpr hkp)) (hasK_of hlow (pm1.mem_iff.mpr hup.key)) up2 nk fun H2 rows' f2 hT2 tr2 pm2 => ?_
    walk_at "rd"
    exact q H2 rows' (f'.trans f2) hT2 tr2 (pm2.trans pm1)
  · walk_at "rd"
    exact q H9 rows Fr1.refl hT9 htr (List.Perm.refl _)
end
end PR
end

section
set_option maxHeartbeats 4000000
namespace PR
open PySem L2 PySem.Spec PyProof.Rows PySem.EX
local macro_rules | `(tactic| walk_at "st") => `(tactic| first | with_reducible exact setAt_z | with_reducible exact setAt_s (by walk_at "st"))
local macro_rules | `(tactic| walk_at "rd1") => `(tactic| first
  | walk_at "sq"
  | with_reducible refine Rd.nxE ?_
  | with_reducible refine Rd.rtE ?_
  | with_reducible refine Rd.ctE ?_
  | with_reducible refine Rd.bkE ?_
  | with_reducible refine Rd.asg ?_
  | ((with_reducible refine' Rd.gnameW ?h0 ?hs ?_); (case h0 => walk_at "wi"); (case hs => walk_at "st"))
  | ((with_reducible refine' Rd.gname ?hs ?_); (case hs => walk_at "st"))
  | with_reducible refine Rd.ifS ?_
  | with_reducible refine Rd.ret ?_
  | with_reducible refine Rd.retN ?_
  | with_reducible refine Rd.drop ?_
  | with_reducible refine Rd.next ?_
  | ((with_reducible refine' Rd.var ?hv ?_); (case hv => exact rfl))
  | with_reducible refine Rd.c ?_
  | with_reducible refine Rd.op ?_
  | with_reducible refine Rd.un ?_
  | with_reducible refine Rd.neg ?_
  | with_reducible refine Rd.i0 ?_
  | with_reducible refine Rd.test ?_
  | with_reducible refine Rd.chain ?_
  | with_reducible refine Rd.tB ?_
  | with_reducible refine Rd.bl ?_
  | with_reducible refine Rd.not ?_
  | with_reducible refine Rd.and ?_
  | with_reducible refine Rd.or ?_
  | with_reducible refine Rd.andV ?_
  | with_reducible refine Rd.orV ?_
  | with_reducible refine Rd.notV ?_
  | with_reducible refine Rd.nilA ?_
  | with_reducible refine Rd.consA ?_
  | with_reducible refine Rd.cb ?_
  | with_reducible refine Rd.int1 ?_
  | with_reducible refine Rd.abs1 ?_
  | with_reducible refine Rd.gsub ?_
  | with_reducible refine Rd.tpar ?_
  | ((with_reducible refine' Rd.par ?hs ?ht ?_); (case hs => walk_at "st"); (case ht => walk_at "st"))
  | with_reducible refine Rd.ttup ?_
  | with_reducible refine Rd.tlst ?_
  | with_reducible refine Rd.isN ?_
  | with_reducible refine Rd.call ?_
  | with_reducible refine Rd.sl ?_
  | with_reducible refine Rd.noPart ?_
  | with_reducible refine Rd.part ?_
  | with_reducible refine Rd.ex_int ?_
  | with_reducible refine Rd.bm ?_
  | with_reducible refine Rd.tfld ?_
  | with_reducible refine Rd.tforT fun TB hTB => ?_
  | with_reducible refine Rd.tlc ?_
  | with_reducible refine Rd.mk1 ?_
  | with_reducible refine Rd.tdc ?_
  | with_reducible refine Rd.sfld ?_
  | with_reducible refine Rd.methP ?_
  | with_reducible refine Rd.xf ?_

  | with_reducible refine Rd.itemP ?_
  | with_reducible refine Rd.ost ?_
  | with_reducible refine Rd.enumT ?_
  | ((with_reducible refine' Rd.enumTAt ?h1 ?_); (case h1 => walk_at "lk"))
  | with_reducible refine Rd.meth ?_
  | with_reducible refine Rd.make ?_
  | with_reducible refine Rd.prop ?_
  | with_reducible refine Rd.item ?_
  | with_reducible refine Rd.sprop ?_
  | with_reducible refine Rd.star ?_
  | ((with_reducible refine' Rd.starL ?h1 ?_); (case h1 => walk_at "lk"))
  | with_reducible refine Rd.tdget ?_
  | ((with_reducible refine' Rd.fld ?h1 ?h2 ?h3 ?h4 ?_); (case h1 => walk_at "lk"); (case h2 => walk_at "cl"); (case h3 => walk_at "na"); (case h4 => walk_at "fl"))
  | ((with_reducible refine' Rd.ty ?h1 ?_); (case h1 => walk_at "lk"))
  | with_reducible refine Rd.tyes ?_
  | with_reducible refine Rd.noN ?_
  | with_reducible refine Rd.noNr ?_
  | with_reducible refine Rd.yesN ?_
  | with_reducible refine Rd.yesI ?_
  | with_reducible refine Rd.yesR ?_
  | with_reducible refine Rd.noNN ?_
  | with_reducible refine Rd.yes rfl ?_
  | with_reducible refine Rd.no Bool.false_ne_true ?_
  | ((with_reducible refine' Rd.wp ?h1 ?_); (case h1 => exact rfl))
  | ((with_reducible refine' Rd.isi ?h1 ?h2 ?_); (case h1 => walk_at "lk"); (case h2 => first | exact kit_int (dp_nodict (by with_reducible assumption)) | exact kit_bool (dp_nodict (by with_reducible assumption))))
  | with_reducible refine Rd.enum ?_
  | ((with_reducible refine' Rd.enumAt ?h1 ?_); (case h1 => walk_at "lk"))
  | with_reducible refine Rd.rng1 ?_
  | with_reducible refine Rd.rng2 ?_
  | with_reducible refine Rd.ilist ?_
  | with_reducible refine Rd.itup ?_
  | ((with_reducible refine' Rd.ilistAt ?h1 ?_); (case h1 => walk_at "lk"))
  | ((with_reducible refine' Rd.itupAt ?h1 ?_); (case h1 => walk_at "lk"))
  | ((with_reducible refine' Rd.slL ?h1 (fun q H1 nq sq hq => ?_)); (case h1 => walk_at "lk"))
  | with_reducible refine Rd.gcons ?_
  | with_reducible refine Rd.gnil ?_
  | ((with_reducible refine' Rd.gtup ?h1 ?h2 ?_); (case h1 => walk_at "lk"); (case h2 => exact rfl))
  | ((with_reducible refine' Rd.lenL ?h1 ?_); (case h1 => walk_at "lk"))
  | ((with_reducible refine' Rd.lenT ?h1 ?_); (case h1 => walk_at "lk"))
  | ((with_reducible refine' Rd.ixA ?h1 ?h2 ?_); (case h1 => walk_at "lk"); (case h2 => exact rfl))
  | ((with_reducible refine' Rd.ixB ?h1 ?h2 ?_); (case h1 => walk_at "lk"); (case h2 => exact rfl))
  | ((with_reducible refine' Rd.ixL ?h1 ?h2 ?_); (case h1 => walk_at "lk"); (case h2 => exact rfl))
  | ((with_reducible refine' Rd.newAt ?h1 (fun p H1 np sp hp => ?_)); (case h1 => exact sz_small (Nat.le_of_ble_eq_true rfl)))
  | ((with_reducible refine' Rd.ic ?h1 ?_); (case h1 => walk_at "sd"))
  | ((with_reducible refine' Rd.setL ?h1 ?h2 ?h3 ?_); (case h1 => walk_at "lk"); (case h2 => exact rfl); (case h3 => walk_at "st")))
local macro_rules | `(tactic| walk_at "rd") => `(tactic| repeat walk_at "rd1")
local macro_rules | `(tactic| walk_at "lk") => `(tactic| first
  | with_reducible assumption
  | exact upd_same
  | exact SqL.of upd_same
  | exact SqT.of upd_same
  | exact SqL.of (by with_reducible assumption)
  | exact SqT.of (by with_reducible assumption)
  | ((with_reducible refine' same_get ?lks ?lkh); (case lks => with_reducible assumption); (case lkh => walk_at "lk"))
  | ((with_reducible refine' Same.seq ?lks ?lkh); (case lks => with_reducible assumption); (case lkh => walk_at "lk"))
  | ((with_reducible refine' sqT_mono ?lks ?lkh); (case lks => with_reducible assumption); (case lkh => walk_at "lk"))
  | ((with_reducible refine' dp_mono ?lks ?lkh); (case lks => with_reducible assumption); (case lkh => walk_at "lk")))
local macro_rules | `(tactic| walk_at "sd") => `(tactic| first
  | with_reducible assumption
  | decide
  | omega
  | exact Or.inl ⟨by decide, by decide⟩
  | exact ⟨by decide, by decide, by decide⟩
  | exact Or.inr ⟨by decide, by decide⟩
  | exact Or.inl ⟨by omega, by omega⟩
  | exact wide_div (by decide) (by decide : _ < 2 ^ 200) (by decide) (by decide)
  | exact wide_div (by with_reducible assumption) (by assumption : _ < 2 ^ 200) (by decide) (by decide))

local macro_rules | `(tactic| walk_at "cl") => `(tactic| first | exact cl_Tree (by with_reducible assumption) | exact cl_Spot (by with_reducible assumption) | exact cl_Edit (by with_reducible assumption))
local macro_rules | `(tactic| walk_at "na") => `(tactic| first | exact na_rows (by with_reducible assumption) | exact na_left (by with_reducible assumption) | exact na_tree (by with_reducible assumption) | exact na_key (by with_reducible assumption) | exact na_etree (by with_reducible assumption) | exact na_saved (by with_reducible assumption))
local macro_rules | `(tactic| walk_at "fl") => `(tactic| first | exact lk_head | exact lk_second (by decide +kernel))
local macro_rules | `(tactic| walk_at "wi") => `(tactic| first | (simp only [wipe, List.map_cons, List.map_nil, List.set_cons_succ, List.set_cons_zero]; done) | (simp only [wipe, List.map_cons, List.map_nil, List.set_cons_succ, List.set_cons_zero]; exact rfl))

set_option hygiene false in
local macro_rules | `(tactic| walk_at "sq") => `(tactic| with_reducible refine Rd.seqT fun S2 hS2 => ?_)
set_option hygiene false in
local macro_rules | `(tactic| walk_at "nx") => `(tactic| subst hS2)

section
variable {P : Program} {w : World} {K : PySem.W.Frag} {mg : Str → Option Value} {base : Heap} {A : Ad} {L : AdL}
open L2H HotX
theorem blk_turnC (T : TxtL K mg A L) {f : Addr} {cdv : Value} {Ar : Around} {outer : List Env} {s0 : Shared} {Hz : Hp} {E : XK} (hr : Room 13 (LX P w K mg base f cdv Ar outer s0 Hz E).A) :
    PSs (LX P w K mg base f cdv Ar outer s0 Hz E) (List.drop 9 (fB (nthS (fB (nthS (defBody s_law) 0)) 4))) (spTurnC K A.c_Tree) := by
  have T0 : Txt K mg A := T.toTxt
  have G__law_take := ok_take (P := P) (w := w) (base := base) T.b T.F__law_take
  have b__law_take := T.F__law_take.binds (ps := ["_law_bag_here", "_law_many"]) fun _ _ _ _ _ _ us hl => match us, hl with | [_, _], _ => rfl
  have G__law_way := (ok_way (P := P) (w := w) (base := base) T).weakN
  have b__law_way := T.F__law_way.binds (ps := ["_law_above", "_law_key"]) fun _ _ _ _ _ _ us hl => match us, hl with | [_, _], _ => rfl
  have G_T_move := (ok_T_move (P := P) (w := w) (base := base) T.toTxt).weakN
  have b_T_move := T.F_T_move.binds (ps := ["self", "key", "parent"]) fun _ _ _ _ _ _ us hl => match us, hl with | [_, _, _], _ => rfl
  have G_T_item := (ok_T_item (P := P) (w := w) (base := base) T.toTxt).weakN
  have b_T_item := T.F_T_item.binds (ps := ["self", "key"]) fun _ _ _ _ _ _ us hl => match us, hl with | [_, _], _ => rfl
  have G_S_get := (ok_S_get (P := P) (w := w) (base := base) T.toTxt).weakN
  have b_S_get := T.F_S_get.binds (ps := ["self"]) fun _ _ _ _ _ _ us hl => match us, hl with | [_], _ => rfl
  have hu1 := hu65 hr
  have hu0 : (LX P w K mg base f cdv Ar outer s0 Hz E).A.units + 1 < cLine := by omega
  have helse := blk_elif (P := P) (w := w) (base := base) (f := f) (cdv := cdv) (Ar := Ar) (outer := outer) (s0 := s0) (Hz := Hz) (E := E) T hr
  refine PSs.weak (pss_cons (ps_setLc (i := 17) (own := [("_law_own", 18), ("_law_parent", 19)]) (g := gTup K 2 (gCons (gName 18) (gCons (gName 19) (gNil)))) rfl sc_law.nd rfl rfl (sw_true rfl rfl rfl rfl) (Kx.pi_list (K := K) rfl (pv 10)) (blkOk_by (N := ["_law_script", "_law_at", "_law_bag_here", "_law_base", "_law_step", "_law_tree", "_law_many", "_law_k", "_law_far", "_law_turn", "_law_rows", "_law_low", "_law_above", "_law_path", "_law_key", "_law_due", "_law_way_here", "_law_others", "_law_own", "_law_parent", "_law_other"]) (sc := defScope s_law) (by decide +kernel)) (fun _ _ _ _ _ => (Kx.pg_tup (K := K) (n := 2) rfl rfl (pgs_cons (pg_name (i := 18) sc_law.nd rfl (by first | exact Or.inl rfl | exact Or.inr rfl)) (pgs_cons (pg_name (i := 19) sc_law.nd rfl (by first | exact Or.inl rfl | exact Or.inr rfl)) pgs_nil)))) (fun _ _ _ _ _ => pts_one (pt_cmpR (Kx.op_notInD (K := K) rfl hu1) (pv 14) (pe_call G__law_way (hr.mono (by decide)) rfl T.g__law_way T.F__law_way.kp b__law_way .nil passL (pa_cons (pv 12) (pa_cons (pv 18) pa_nil))) (by with_unfolding_all rfl))) (fun _ _ _ _ _ => (pv 18)))
    (pss_one (ps_if (PW.pt (pw_and (pt_cmpR (Kx.op_neD (K := K) rfl hu1) (pv 17) (pe_lst pa_nil) (nomark _)) (pw_and1 (pt_cmpR (Kx.op_eqD (K := K) rfl hu1) (pe_op op_mod (pv 9) pe_int) pe_int (nomark _))))) (pss_cons (ps_set (i := 20) sc_law.nd rfl (by first | exact Or.inl rfl | exact Or.inr rfl) (pe_ix (Kx.ix_seq (K := K) rfl) (pv 17) (pe_call G__law_take (hr.mono (by decide)) rfl T.g__law_take T.F__law_take.kp b__law_take .nil passX (pa_cons (pv 2) (pa_cons (pe_callB (Kx.call_len (K := K) rfl) (by rfl) T.n_len PySem.boot_len (pa_cons (pv 17) pa_nil)) pa_nil))) (fun _ _ => rfl)))
    (pss_one (ps_if (PW.pt (pw_or (pt_cmpR op_notN (pe_meth (pv 5) T.k_Tree T.m_move G_T_move (hr.mono (by decide)) b_T_move .nil passX (pa_cons (pv 14) (pa_cons (pv 20) pa_nil))) pe_non (nomark _)) (pw_or1 (pt_cmpR (Kx.op_neD (K := K) rfl hu1) (pe_prop (pe_item (pv 5) (pv 14) T.i_item G_T_item (hr.mono (by decide)) b_T_item passX (fun _ _ => rfl)) T.k_Spot T.p_get G_S_get (hr.mono (by decide)) b_S_get .nil passF rfl) (pv 20) (nomark _))))) (pss_one (ps_ret pe_bl)) pss_nil))) helse))) (fun D σ H9 hh => ?_)
  obtain ⟨dn, dr, db, dc⟩ := D
  obtain ⟨a0, a1, a3, a4, a6, a7, a8, a13, p, t, dx, l, j, r, dk, due, low, key, us, rows, ps, rfl, hus, bg9, hT9, htr, hlen, hkin, hrp, hR9, hdk9, hup, hin, hdue9, q⟩ := hh
  obtain ⟨u16, u17, u18, u19, u20, rfl⟩ := us5 hus
  try dsimp only [cxOf]
  walk_at "rd"
  obtain ⟨xs, hS, hX⟩ := id hR9
  have hxl : xs.length = rows.length := by rw [dpAll_len hX, List.length_map]
  refine ⟨r, rfl, ⟨xs, hS⟩, ?_⟩
  intro D hD
  refine lcV walk_list (fun i => rows[i]?.bind fun r => if key ∈ upF rows r.1 then none else some (V.int r.1)) hD (by rw [hxl]; exact Nat.lt_of_le_of_lt hlen (by decide)) (fun H2 s2 => s2.seq hS) ?_ ?_
  · rintro i x H1 H2 hi s1 ⟨rfl, ex⟩
    refine ⟨Same.refl _, fun yes no hy hn => ?_⟩
    have hi' : i < rows.length := by omega
    obtain ⟨b, eb, hb⟩ := rows_at hX (List.getElem?_eq_getElem hi')
    rw [ex] at eb
    cases eb
    have hb1 := sqT_mono s1 hb
    have hk := key_of (List.getElem_mem hi')
    walk_at "rd"
    refine ⟨dk, _, rows, upF rows rows[i].1, rfl, s1 _ _ hdk9, htr, upF_up htr hk, by omega, fun p' H3 np' s3 hp' => ?_⟩
    refine Rd.notInD (.int key) (.lst (SqL.of hp') (dpAll_ints _)) (shaped_int _) (shaped_ints _) ?_
    rw [any_ints]
    walk_at "rd"
    refine ite2 (fun h1 => ?_) (fun h1 => ?_)
    · have hn1 : key ∉ upF rows rows[i].1 := fun z => by rw [decide_eq_true z] at h1; cases h1
      walk_at "rd"
      exact hy _ _ (by rw [List.getElem?_eq_getElem hi', Option.bind_some, if_neg hn1]) s3
    · have hn1 : key ∈ upF rows rows[i].1 := by
        by_cases z : key ∈ upF rows rows[i].1
        · exact z
        · exact absurd (by rw [decide_eq_false z]; rfl) h1
      exact hn _ (by rw [List.getElem?_eq_getElem hi', Option.bind_some, if_pos hn1]) s3
  · intro H2 s2 hD2
    rw [hxl, offK_map] at hD2
    walk_at "rd"
    walk_at "nx"
    walk_at "rd"
    rename_i Z1 H3 n3 s3 hZ1
    refine Rd.neD (d := .list ((offK rows key).map PyData.int)) (e := .list []) (.lst (SqL.of (s3 _ _ hD2)) (dpAll_ints _)) (.lst (SqL.of hZ1) .nil) (shaped_ints _) (shaped_ints []) ?_
    rw [eqv_empty]
    have s93 : Same H9 H3 := s2.trans s3
    have bg3 := bag_same bg9 s93
    have hT3 := hT9.mono s93
    have hkp : key ∈ keysOf rows := hup.sub _ hin
    have hkey := hkin _ hkp
    have hlow := hkin _ hup.key
    obtain ⟨hrest3, aR3, ht3, hR3⟩ := id hT3
    have hD3 := s3 _ _ hD2
    have hdue3 := s93 _ _ hdue9
    walk_at "rd"
    have tB : ∀ {H4 : Hp} {rows' : List Row} {us' : List (Option V)} , Fr [p, t] H9 H4 → BagAt H4 p → TreeAt K A.c_Tree dx [("left", l)] H4 t rows' → Tr rows' → (keysOf rows').Perm (keysOf rows) → us'.length = 14 → dn (a0 :: a1 :: some (.ref p) :: a3 :: a4 :: some (.ref t) :: a6 :: us') H4 :=
      fun {H4 rows' us'} f4 b4 t4 tr4 pm hl => q H4 rows' us' f4 b4 t4 tr4 pm (by have := pm.length_eq; unfold keysOf at this; rwa [List.length_map, List.length_map] at this) hl
    have fin : ∀ {us' : List (Option V)}, us'.length = 14 → ∀ H4 rows', Fr1 t H3 H4 → TreeAt K A.c_Tree dx [("left", l)] H4 t rows' → Tr rows' → (keysOf rows').Perm (keysOf rows) → dn (a0 :: a1 :: some (.ref p) :: a3 :: a4 :: some (.ref t) :: a6 :: us') H4 :=
      fun {us'} hl H4 rows' f4 t4 tr4 pm => tB ((fr_same s93).trans (f4.fr (by simp))) (bag_fr1 bg3 f4 (bag_ne bg3 hT3)) t4 tr4 pm hl
    have els : ∀ {u' : Option V}, spElif K A.c_Tree ⟨dn, dr, db, dc⟩ [a0, a1, some (V.ref p), a3, a4, some (V.ref t), a6, a7, a8, some (V.int (j : Nat)), some (V.ref r), some (V.int low), some (V.ref dk), a13, some (V.int key), some (V.ref due), u16, some (V.ref D), u18, u19, u'] H3 := fun {u'} =>
      ⟨_, _, _, _, _, _, _, _, _, _, _, _, t, dx, l, due, low, key, _, rows, ps, rfl, hT3, htr, hlen, hkin, hup, hin, hdue3, fun H4 rows' f4 t4 tr4 pm => fin (by rfl) H4 rows' f4 t4 tr4 pm⟩
    refine ite2 (fun h1 => ?_) (fun h1 => ?_)
    · have hne : offK rows key ≠ [] := fun z => by rw [decide_eq_true z] at h1; cases h1
      have hpos : 0 < (offK rows key).length := List.length_pos_iff.mpr hne
      have hole : (offK rows key).length ≤ rows.length := List.length_filterMap_le _ _
      walk_at "rd"
      refine Rd.eqD (.int _) (.int _) (shaped_int _) (shaped_int _) ?_
      rw [eqv_int]
      walk_at "rd"
      refine ite2 (fun h2 => ?_) (fun h2 => ?_)
      · walk_at "rd"
        rw [List.length_map]
        refine take_at (k := ((offK rows key).length : Int)) bg3 (by omega) (by rw [Int.natAbs_natCast]; exact Nat.lt_of_le_of_lt (by omega : _ ≤ 50) (by decide)) fun dj H15 dj0 dj1 o15 bg15 => ?_
        have hDp : D ≠ p := fun z => by obtain ⟨_, _, _, _, _, hp⟩ := bg9; rw [z, hp] at hD; cases hD
        have hD15 : H15 D = some (.lst ((offK rows key).map V.int)) := (o15 D hDp).trans hD3
        have hlt : dj.toNat < (offK rows key).length := by omega
        obtain ⟨other, eoth⟩ : ∃ other, (offK rows key)[dj.toNat]? = some other := ⟨_, List.getElem?_eq_getElem hlt⟩
        obtain ⟨hom, ops, oup, ono⟩ := offK_mem htr (List.mem_of_getElem? eoth)
        refine Rd.ixA (SqL.of hD15) (atI_map dj0 eoth) ?_
        walk_at "rd"
        walk_at "nx"
        refine Rd.ifS ?_
        have hT15 := tree_bag o15 bg3 hT3
        refine chk_move T (i := 14) (j := 20) rfl rfl rfl hT15 htr hlen hkey (hkin _ hom) oup ono fun H4 rows' f4 t4 tr4 pm => ?_
        walk_at "rd"
        exact tB (((fr_same s93).trans (o15.fr (by simp))).trans (f4.fr (by simp))) (bag_fr1 bg15 f4 (bag_ne bg15 hT15)) t4 tr4 pm rfl
      · exact els
    · exact els
end
end PR
end

section
set_option maxHeartbeats 4000000
namespace PR
open PySem L2 PySem.Spec PyProof.Rows PySem.EX
local macro_rules | `(tactic| walk_at "st") => `(tactic| first | with_reducible exact setAt_z | with_reducible exact setAt_s (by walk_at "st"))
local macro_rules | `(tactic| walk_at "rd1") => `(tactic| first
  | walk_at "sq"
  | with_reducible refine Rd.nxE ?_
  | with_reducible refine Rd.rtE ?_
  | with_reducible refine Rd.ctE ?_
  | with_reducible refine Rd.bkE ?_
  | with_reducible refine Rd.asg ?_
  | ((with_reducible refine' Rd.gnameW ?h0 ?hs ?_); (case h0 => walk_at "wi"); (case hs => walk_at "st"))
  | ((with_reducible refine' Rd.gname ?hs ?_); (case hs => walk_at "st"))
  | with_reducible refine Rd.ifS ?_
  | with_reducible refine Rd.ret ?_
  | with_reducible refine Rd.retN ?_
  | with_reducible refine Rd.drop ?_
  | with_reducible refine Rd.next ?_
  | ((with_reducible refine' Rd.var ?hv ?_); (case hv => exact rfl))
  | with_reducible refine Rd.c ?_
  | with_reducible refine Rd.op ?_
  | with_reducible refine Rd.un ?_
  | with_reducible refine Rd.neg ?_
  | with_reducible refine Rd.i0 ?_
  | with_reducible refine Rd.test ?_
  | with_reducible refine Rd.chain ?_
  | with_reducible refine Rd.tB ?_
  | with_reducible refine Rd.bl ?_
  | with_reducible refine Rd.not ?_
  | with_reducible refine Rd.and ?_
  | with_reducible refine Rd.or ?_
  | with_reducible refine Rd.andV ?_
  | with_reducible refine Rd.orV ?_
  | with_reducible refine Rd.notV ?_
  | with_reducible refine Rd.nilA ?_
  | with_reducible refine Rd.consA ?_
  | with_reducible refine Rd.cb ?_
  | with_reducible refine Rd.int1 ?_
  | with_reducible refine Rd.abs1 ?_
  | with_reducible refine Rd.gsub ?_
  | with_reducible refine Rd.tpar ?_
  | ((with_reducible refine' Rd.par ?hs ?ht ?_); (case hs => walk_at "st"); (case ht => walk_at "st"))
  | with_reducible refine Rd.ttup ?_
  | with_reducible refine Rd.tlst ?_
  | with_reducible refine Rd.isN ?_
  | with_reducible refine Rd.call ?_
  | with_reducible refine Rd.sl ?_
  | with_reducible refine Rd.noPart ?_
  | with_reducible refine Rd.part ?_
  | with_reducible refine Rd.ex_int ?_
  | with_reducible refine Rd.bm ?_
  | with_reducible refine Rd.tfld ?_
  | with_reducible refine Rd.tforT fun TB hTB => ?_
  | with_reducible refine Rd.tlc ?_
  | with_reducible refine Rd.mk1 ?_
  | with_reducible refine Rd.tdc ?_
  | with_reducible refine Rd.sfld ?_
  | with_reducible refine Rd.methP ?_
  | with_reducible refine Rd.xf ?_

  | with_reducible refine Rd.itemP ?_
  | with_reducible refine Rd.ost ?_
  | with_reducible refine Rd.enumT ?_
  | ((with_reducible refine' Rd.enumTAt ?h1 ?_); (case h1 => walk_at "lk"))
  | with_reducible refine Rd.meth ?_
  | with_reducible refine Rd.make ?_
  | with_reducible refine Rd.prop ?_
  | with_reducible refine Rd.item ?_
  | with_reducible refine Rd.sprop ?_
  | with_reducible refine Rd.star ?_
  | ((with_reducible refine' Rd.starL ?h1 ?_); (case h1 => walk_at "lk"))
  | with_reducible refine Rd.tdget ?_
  | ((with_reducible refine' Rd.fld ?h1 ?h2 ?h3 ?h4 ?_); (case h1 => walk_at "lk"); (case h2 => walk_at "cl"); (case h3 => walk_at "na"); (case h4 => walk_at "fl"))
  | ((with_reducible refine' Rd.ty ?h1 ?_); (case h1 => walk_at "lk"))
  | with_reducible refine Rd.tyes ?_
  | with_reducible refine Rd.noN ?_
  | with_reducible refine Rd.noNr ?_
  | with_reducible refine Rd.yesN ?_
  | with_reducible refine Rd.yesI ?_
  | with_reducible refine Rd.yesR ?_
  | with_reducible refine Rd.noNN ?_
  | with_reducible refine Rd.yes rfl ?_
  | with_reducible refine Rd.no Bool.false_ne_true ?_
  | ((with_reducible refine' Rd.wp ?h1 ?_); (case h1 => exact rfl))
  | ((with_reducible refine' Rd.isi ?h1 ?h2 ?_); (case h1 => walk_at "lk"); (case h2 => first | exact kit_int (dp_nodict (by with_reducible assumption)) | exact kit_bool (dp_nodict (by with_reducible assumption))))
  | with_reducible refine Rd.enum ?_
  | ((with_reducible refine' Rd.enumAt ?h1 ?_); (case h1 => walk_at "lk"))
  | with_reducible refine Rd.rng1 ?_
  | with_reducible refine Rd.rng2 ?_
  | with_reducible refine Rd.ilist ?_
  | with_reducible refine Rd.itup ?_
  | ((with_reducible refine' Rd.ilistAt ?h1 ?_); (case h1 => walk_at "lk"))
  | ((with_reducible refine' Rd.itupAt ?h1 ?_); (case h1 => walk_at "lk"))
  | ((with_reducible refine' Rd.slL ?h1 (fun q H1 nq sq hq => ?_)); (case h1 => walk_at "lk"))
  | with_reducible refine Rd.gcons ?_
  | with_reducible refine Rd.gnil ?_
  | ((with_reducible refine' Rd.gtup ?h1 ?h2 ?_); (case h1 => walk_at "lk"); (case h2 => exact rfl))
  | ((with_reducible refine' Rd.lenL ?h1 ?_); (case h1 => walk_at "lk"))
  | ((with_reducible refine' Rd.lenT ?h1 ?_); (case h1 => walk_at "lk"))
  | ((with_reducible refine' Rd.ixA ?h1 ?h2 ?_); (case h1 => walk_at "lk"); (case h2 => exact rfl))
  | ((with_reducible refine' Rd.ixB ?h1 ?h2 ?_); (case h1 => walk_at "lk"); (case h2 => exact rfl))
  | ((with_reducible refine' Rd.ixL ?h1 ?h2 ?_); (case h1 => walk_at "lk"); (case h2 => exact rfl))
  | ((with_reducible refine' Rd.newAt ?h1 (fun p H1 np sp hp => ?_)); (case h1 => exact sz_small (Nat.le_of_ble_eq_true rfl)))
  | ((with_reducible refine' Rd.ic ?h1 ?_); (case h1 => walk_at "sd"))
  | ((with_reducible refine' Rd.setL ?h1 ?h2 ?h3 ?_); (case h1 => walk_at "lk"); (case h2 => exact rfl); (case h3 => walk_at "st")))
local macro_rules | `(tactic| walk_at "rd") => `(tactic| repeat walk_at "rd1")
local macro_rules | `(tactic| walk_at "lk") => `(tactic| first
  | with_reducible assumption
  | exact upd_same
  | exact SqL.of upd_same
  | exact SqT.of upd_same
  | exact SqL.of (by with_reducible assumption)
  | exact SqT.of (by with_reducible assumption)
  | ((with_reducible refine' same_get ?lks ?lkh); (case lks => with_reducible assumption); (case lkh => walk_at "lk"))
  | ((with_reducible refine' Same.seq ?lks ?lkh); (case lks => with_reducible assumption); (case lkh => walk_at "lk"))
  | ((with_reducible refine' sqT_mono ?lks ?lkh); (case lks => with_reducible assumption); (case lkh => walk_at "lk"))
  | ((with_reducible refine' dp_mono ?lks ?lkh); (case lks => with_reducible assumption); (case lkh => walk_at "lk")))
local macro_rules | `(tactic| walk_at "sd") => `(tactic| first
  | with_reducible assumption
  | decide
  | omega
  | exact Or.inl ⟨by decide, by decide⟩
  | exact ⟨by decide, by decide, by decide⟩
  | exact Or.inr ⟨by decide, by decide⟩
  | exact Or.inl ⟨by omega, by omega⟩
  | exact wide_div (by decide) (by decide : _ < 2 ^ 200) (by decide) (by decide)
  | exact wide_div (by with_reducible assumption) (by assumption : _ < 2 ^ 200) (by decide) (by decide))

local macro_rules | `(tactic| walk_at "cl") => `(tactic| first | exact cl_Tree (by with_reducible assumption) | exact cl_Spot (by with_reducible assumption) | exact cl_Edit (by with_reducible assumption))
local macro_rules | `(tactic| walk_at "na") => `(tactic| first | exact na_rows (by with_reducible assumption) | exact na_left (by with_reducible assumption) | exact na_tree (by with_reducible assumption) | exact na_key (by with_reducible assumption) | exact na_etree (by with_reducible assumption) | exact na_saved (by with_reducible assumption))
local macro_rules | `(tactic| walk_at "fl") => `(tactic| first | exact lk_head | exact lk_second (by decide +kernel))
local macro_rules | `(tactic| walk_at "wi") => `(tactic| first | (simp only [wipe, List.map_cons, List.map_nil, List.set_cons_succ, List.set_cons_zero]; done) | (simp only [wipe, List.map_cons, List.map_nil, List.set_cons_succ, List.set_cons_zero]; exact rfl))

set_option hygiene false in
local macro_rules | `(tactic| walk_at "sq") => `(tactic| with_reducible refine Rd.seqT fun S2 hS2 => ?_)
set_option hygiene false in
local macro_rules | `(tactic| walk_at "nx") => `(tactic| subst hS2)

section
variable {P : Program} {w : World} {K : PySem.W.Frag} {mg : Str → Option Value} {base : Heap} {A : Ad} {L : AdL}
open L2H HotX
/-- one turn of the law's loop -/
def spOuter (K : PySem.W.Frag) : TS := fun D σ H => ∃ (a : Addr) (ns : List Int) (i : Nat) (us : List (Option V)), σ = some (.ref a) :: some (.int (i : Nat)) :: us ∧ us.length = 19 ∧ SqL K H a (ns.map V.int) ∧ ns.length ≤ 63 ∧ i < 4 ∧
  ∀ H' us', Same H H' → us'.length = 19 → D.nx (some (.ref a) :: some (.int (i : Nat)) :: us') H'
theorem us19 {us : List (Option V)} (h : us.length = 19) : ∃ a b c d e f g i j k l m n o p q r s t, us = [a, b, c, d, e, f, g, i, j, k, l, m, n, o, p, q, r, s, t] := match us, h with | [a, b, c, d, e, f, g, i, j, k, l, m, n, o, p, q, r, s, t], _ => ⟨a, b, c, d, e, f, g, i, j, k, l, m, n, o, p, q, r, s, t, rfl⟩
theorem us14 {us : List (Option V)} (h : us.length = 14) : ∃ a b c d e f g i j k l m n o, us = [a, b, c, d, e, f, g, i, j, k, l, m, n, o] := match us, h with | [a, b, c, d, e, f, g, i, j, k, l, m, n, o], _ => ⟨a, b, c, d, e, f, g, i, j, k, l, m, n, o, rfl⟩
/-- behind the setting: the bag, the numbers, the empty tree -/
def spSetL (K : PySem.W.Frag) (C : Addr) : TS := fun D σ H => ∃ (a : Addr) (ns : List Int) (i : Nat) (us : List (Option V)), σ = some (.ref a) :: some (.int (i : Nat)) :: us ∧ us.length = 19 ∧ SqL K H a (ns.map V.int) ∧ ns.length ≤ 63 ∧ i < 4 ∧
  ∀ H' us' p bs st t dx l M, Same H H' → H p = none → H t = none → us'.length = 14 → (-(10 ^ 21) ≤ bs ∧ bs ≤ 10 ^ 21) → (1 ≤ st ∧ st ≤ 10 ^ 9) → 2 ≤ M → M ≤ 50 → BagAt H' p → TreeAt K C dx [("left", l)] H' t [] →
    D.nx (some (.ref a) :: some (.int (i : Nat)) :: some (.ref p) :: some (.int bs) :: some (.int st) :: some (.ref t) :: some (.int (M : Nat)) :: us') H'
theorem blk_set (T : TxtL K mg A L) {f : Addr} {cdv : Value} {Ar : Around} {outer : List Env} {s0 : Shared} {Hz : Hp} {E : XK} (hr : Room 13 (LX P w K mg base f cdv Ar outer s0 Hz E).A) {u : TS}
    (hu : PSs (LX P w K mg base f cdv Ar outer s0 Hz E) (List.drop 3 (fB (nthS (defBody s_law) 0))) u) :
    PSs (LX P w K mg base f cdv Ar outer s0 Hz E) (fB (nthS (defBody s_law) 0)) (tSeq (spSetL K A.c_Tree) u) := by
  have T0 : Txt K mg A := T.toTxt
  have G__law_bag := ok_bag (P := P) (w := w) (base := base) T.b T.F__law_bag
  have b__law_bag := T.F__law_bag.binds (ps := ["_law_script", "_law_at"]) fun _ _ _ _ _ _ us hl => match us, hl with | [_, _], _ => rfl
  have G__law_take := ok_take (P := P) (w := w) (base := base) T.b T.F__law_take
  have b__law_take := T.F__law_take.binds (ps := ["_law_bag_here", "_law_many"]) fun _ _ _ _ _ _ us hl => match us, hl with | [_, _], _ => rfl
  have G_T_init := (ok_T_init (P := P) (w := w) (base := base) T.toTxt).weakN
  have b_T_init := T.F_T_init.binds (ps := ["self"]) fun _ _ _ _ _ _ us hl => match us, hl with | [_], _ => rfl
  have hu1 := hu65 hr
  refine PSs.weak (pss_cons (ps_set (i := 2) sc_law.nd rfl (by first | exact Or.inl rfl | exact Or.inr rfl) (pe_call G__law_bag (hr.mono (by decide)) rfl T.g__law_bag T.F__law_bag.kp b__law_bag .nil passX (pa_cons (pv 0) (pa_cons (pv 1) pa_nil))))
    (pss_cons (ps_par (i := 3) (j := 4) rfl sc_law.nd rfl rfl (by decide) rfl rfl (pa_cons (pe_op op_sub (pe_call G__law_take (hr.mono (by decide)) rfl T.g__law_take T.F__law_take.kp b__law_take .nil passX (pa_cons (pv 2) (pa_cons (pe_op op_pow pe_int pe_int) pa_nil))) (pe_op op_pow pe_int pe_int)) (pa_cons (pe_op op_add pe_int (pe_call G__law_take (hr.mono (by decide)) rfl T.g__law_take T.F__law_take.kp b__law_take .nil passX (pa_cons (pv 2) (pa_cons (pe_op op_pow pe_int pe_int) pa_nil)))) pa_nil)) (by rfl))
    (pss_consM (ps_asg (pe_tup (pa_cons (pe_make0 T.m_Tree G_T_init (hr.mono (by decide)) rfl T.g_Tree b_T_init .nil passX) (pa_cons (pe_op op_add pe_int (pe_call G__law_take (hr.mono (by decide)) rfl T.g__law_take T.F__law_take.kp b__law_take .nil passX (pa_cons (pv 2) (pa_cons pe_int pa_nil)))) pa_nil))) (Kx.pg_tup (K := K) (n := 2) rfl rfl (pgs_cons (pg_name (i := 5) sc_law.nd rfl (by first | exact Or.inl rfl | exact Or.inr rfl)) (pgs_cons (pg_name (i := 6) sc_law.nd rfl (by first | exact Or.inl rfl | exact Or.inr rfl)) pgs_nil))))
    hu))) (fun D σ H hh => ?_)
  obtain ⟨dn, dr, db, dc⟩ := D
  obtain ⟨a, ns, i, us, rfl, hus, hS, hn, hi4, q⟩ := hh
  obtain ⟨u2, u3, u4, u5, u6, u7, u8, u9, u10, u11, u12, u13, u14, u15, u16, u17, u18, u19, u20, rfl⟩ := us19 hus
  try dsimp only [cxOf]
  walk_at "rd"
  refine ⟨a, ns, i, rfl, hS, by omega, hn, fun p H3 np s3 bg => ?_⟩
  walk_at "rd"
  walk_at "nx"
  walk_at "rd"
  refine take_at bg (by decide) (by decide) fun d1 H4 d10 d11 o4 bg4 => ?_
  have s04 := o4.same s3 np
  walk_at "rd"
  refine take_at bg4 (by decide) (by decide) fun d2 H5 d20 d21 o5 bg5 => ?_
  have s05 := o5.same s04 np
  walk_at "rd"
  walk_at "nx"
  generalize hbase : d1 - 10 ^ Int.toNat 19 = bs
  generalize hstep : 1 + d2 = st
  have hb1 : -(10 ^ 21) ≤ bs ∧ bs ≤ 10 ^ 21 := by
    have : (10 : Int) ^ Int.toNat 19 = 10 ^ 19 := by decide
    have : (10 : Int) ^ Int.toNat 20 = 10 ^ 20 := by decide
    omega
  have hs1 : 1 ≤ st ∧ st ≤ 10 ^ 9 := by
    have : (10 : Int) ^ Int.toNat 9 = 10 ^ 9 := by decide
    omega
  refine Rd.seqM (fun σ H2 => ∃ (t dx : Addr) (l : V) (M : Nat), ∃ us' : List (Option V), σ = some (V.ref a) :: some (V.int (i : Nat)) :: some (V.ref p) :: some (V.int bs) :: some (V.int st) :: some (V.ref t) :: some (V.int (M : Nat)) :: us' ∧ us'.length = 14 ∧ 2 ≤ M ∧ M ≤ 50 ∧ Same H H2 ∧ BagAt H2 p ∧ TreeAt K A.c_Tree dx [("left", l)] H2 t [] ∧ H t = none) (fun nx hnx => ?_) ?_
  · walk_at "rd"
    intro t dx nt ndx hne
    refine ⟨t, dx, rfl, upd_same, fun H6 l f6 hT6 => ⟨rfl, ?_⟩⟩
    have s56 := made_same nt ndx f6
    have bg6 := bag_same bg5 s56
    walk_at "rd"
    refine take_at bg6 (by decide) (by decide) fun d3 H7 d30 d31 o7 bg7 => ?_
    have hT7 := tree_bag o7 bg6 hT6
    have s07 := o7.same (s05.trans s56) np
    walk_at "rd"
    rename_i T8 H8 n8 s8 h8
    obtain ⟨M, hM, hM2, hM50⟩ : ∃ M : Nat, 2 + d3 = (M : Int) ∧ 2 ≤ M ∧ M ≤ 50 := ⟨(2 + d3).toNat, by omega, by omega, by omega⟩
    rw [hM]
    exact hnx _ _ ⟨t, dx, l, M, _, rfl, rfl, hM2, hM50, s07.trans s8, bag_same bg7 s8, hT7.mono s8, s05.free nt⟩
  rintro σ H8 ⟨t, dx, l, M, us', rfl, hus', hM2, hM50, s08, bg8, hT8, htn⟩
  exact q H8 us' p bs st t dx l M s08 np htn hus' hb1 hs1 hM2 hM50 bg8 hT8
theorem blk_outer (T : TxtL K mg A L) {f : Addr} {cdv : Value} {Ar : Around} {outer : List Env} {s0 : Shared} {Hz : Hp} {E : XK} (hr : Room 13 (LX P w K mg base f cdv Ar outer s0 Hz E).A) :
    PSs (LX P w K mg base f cdv Ar outer s0 Hz E) (fB (nthS (defBody s_law) 0)) (spOuter K) := by
  have T0 : Txt K mg A := T.toTxt
  have hu1 := hu65 hr
  have hput := blk_put (P := P) (w := w) (base := base) (f := f) (cdv := cdv) (Ar := Ar) (outer := outer) (s0 := s0) (Hz := Hz) (E := E) T hr
  have hturn := blk_turnA (P := P) (w := w) (base := base) (f := f) (cdv := cdv) (Ar := Ar) (outer := outer) (s0 := s0) (Hz := Hz) (E := E) T hr
    (blk_turnB (P := P) (w := w) (base := base) (f := f) (cdv := cdv) (Ar := Ar) (outer := outer) (s0 := s0) (Hz := Hz) (E := E) T hr
      (blk_turnC (P := P) (w := w) (base := base) (f := f) (cdv := cdv) (Ar := Ar) (outer := outer) (s0 := s0) (Hz := Hz) (E := E) T hr))
  refine PSs.weak (blk_set (P := P) (w := w) (base := base) (f := f) (cdv := cdv) (Ar := Ar) (outer := outer) (s0 := s0) (Hz := Hz) (E := E) T hr (pss_cons (ps_for (passes_of rfl) rfl (pi_range1 (by rfl) T.n_range (pa_cons (pv 6) pa_nil)) (pg_name (i := 7) sc_law.nd rfl (by first | exact Or.inl rfl | exact Or.inr rfl)) hput)
    (pss_one (ps_for (passes_of rfl) rfl (pi_range1 (by rfl) T.n_range (pa_cons pe_int pa_nil)) (pg_name (i := 9) sc_law.nd rfl (by first | exact Or.inl rfl | exact Or.inr rfl)) hturn)))) (fun D σ H hh => ?_)
  obtain ⟨dn, dr, db, dc⟩ := D
  obtain ⟨a, ns, i, us, rfl, hus, hS, hn, hi4, q⟩ := hh
  try dsimp only [cxOf]
  refine ⟨a, ns, i, us, rfl, hus, hS, hn, hi4, fun H1 us1 p bs st t dx l M s1 np nt hus1 hb hs hM2 hM50 bg1 hT1 => ?_⟩
  walk_at "rd"
  rename_i TB hTB
  subst hTB
  refine ⟨by omega, by omega, ?_⟩
  refine for_it walk_range (fun j σ H2 => ∃ us' : List (Option V), σ = some (V.ref a) :: some (V.int (i : Nat)) :: some (V.ref p) :: some (V.int bs) :: some (V.int st) :: some (V.ref t) :: some (V.int (M : Nat)) :: us' ∧ us'.length = 14 ∧ Same H H2 ∧ BagAt H2 p ∧ ∃ rows, TreeAt K A.c_Tree dx [("left", l)] H2 t rows ∧ KeysUp bs st j rows)
    ⟨us1, rfl, hus1, s1, bg1, [], hT1, tr_nil, rfl, fun k => ⟨fun z => (by cases z), fun ⟨m, z, _⟩ => (by omega)⟩⟩ (fun _ _ _ _ _ => trivial) ?_ ?_
  · rintro j x σ H2 H3 hj ⟨us', rfl, hus', s2, bg2, rows, hT2, hk2⟩ ⟨eH, ex⟩
    subst eH
    obtain rfl : x = V.int (j : Nat) := ex.trans (by show V.int (0 + (j : Nat)) = _; rw [Int.zero_add])
    obtain ⟨u7, u8, u9, u10, u11, u12, u13, u14, u15, u16, u17, u18, u19, u20, rfl⟩ := us14 hus'
    have hjM : j < M := by omega
    walk_at "rd"
    refine ⟨_, _, p, t, dx, l, bs, st, M, j, _, _, rows, rfl, hb, hs, by omega, bg2, hT2, hk2, fun H4 u8' rows' f4 bg4 hT4 hk4 => ?_⟩
    exact ⟨_, rfl, rfl, f4.same s2 (none2 np nt), bg4, rows', hT4, hk4⟩
  · rintro σ H2 ⟨us', rfl, hus', s2, bg2, rows, hT2, hk2⟩
    rw [show ((M : Int) ).toNat = M from rfl] at hk2
    walk_at "nx"
    walk_at "rd"
    rename_i TB hTB
    subst hTB
    refine ⟨by decide, by decide, ?_⟩
    refine for_it walk_range (fun j σ H2 => ∃ us' : List (Option V), σ = some (V.ref a) :: some (V.int (i : Nat)) :: some (V.ref p) :: some (V.int bs) :: some (V.int st) :: some (V.ref t) :: some (V.int (M : Nat)) :: us' ∧ us'.length = 14 ∧ Same H H2 ∧ BagAt H2 p ∧ ∃ rows, TreeAt K A.c_Tree dx [("left", l)] H2 t rows ∧ KeysUp bs st M rows)
      ⟨us', rfl, hus', s2, bg2, rows, hT2, hk2⟩ (fun _ _ _ _ _ => trivial) ?_ ?_
    · clear s2 bg2 hT2 hk2 rows
      rintro j x σ H2 H3 hj ⟨us', rfl, hus', s2, bg2, rows, hT2, hk2⟩ ⟨eH, ex⟩
      subst eH
      obtain rfl : x = V.int (j : Nat) := ex.trans (by show V.int (0 + (j : Nat)) = _; rw [Int.zero_add])
      obtain ⟨u7, u8, u9, u10, u11, u12, u13, u14, u15, u16, u17, u18, u19, u20, rfl⟩ := us14 hus'
      have hkin := hk2.keyIn hb hs hM50
      walk_at "rd"
      refine ⟨_, _, p, t, dx, l, bs, st, M, _, _, _, _, _, _, _, _, _, _, rows, rfl, hb, hs, hM2, hM50, bg2, hT2, hk2, fun H4 r dk pth due low key ps f4 bg4 hT4 hrp hR4 hdk4 hup hin hdue4 => ?_⟩
      walk_at "nx"
      walk_at "rd"
      refine ⟨_, _, _, _, _, _, _, _, _, p, t, dx, l, r, dk, due, low, key, _, rows, ps, rfl, rfl, bg4, hT4, hk2.1, by have := hk2.2.1; omega, hkin, hrp, hR4, hdk4, hup, hin, hdue4, fun H5 f5 bg5 hT5 hR5 hdk5 hdue5 => ?_⟩
      walk_at "nx"
      refine ⟨_, _, _, _, _, _, _, _, p, t, dx, l, j, r, dk, due, low, key, _, rows, ps, rfl, rfl, bg5, hT5, hk2.1, by have := hk2.2.1; omega, hkin, hrp, hR5, hdk5, hup, hin, hdue5, fun H6 rows' us' f6 bg6 hT6 htr6 pm6 hl6 hus6 => ?_⟩
      exact ⟨us', rfl, hus6, ((f4.trans (f5.fr (by simp))).trans f6).same s2 (none2 np nt), bg6, rows', hT6, htr6, by have := hk2.2.1; omega, fun k => by rw [pm6.mem_iff]; exact hk2.2.2 k⟩
    · rintro σ H2 ⟨us', rfl, hus', s2, bg2, _⟩
      exact q H2 _ s2 (by simp [hus'])
theorem ok_law (T : TxtL K mg A L) {f : Addr} {fd : FuncData} (F : Fun K "law" "law" s_law f fd) : FnOk P w K mg base (L2.CX P w) 14 f fd ["_law_script"] (spLaw K) := by
  have T0 : Txt K mg A := T.toTxt
  refine F.okX sc_law (fun vs H Q E h => ?_) (fun cdv Ar outer s H vs Q E hr h => ?_)
  · obtain ⟨a, ns, rfl, _⟩ := h
    rfl
  · obtain ⟨a, ns, rfl, hS, hn, q⟩ := h
    have hu1 := hu65 hr
    have hout := blk_outer (P := P) (w := w) (base := base) (f := f) (cdv := cdv) (Ar := Ar) (outer := outer) (s0 := s) (Hz := H) (E := E) T hr
    refine ⟨_, (pss_cons (ps_for (passes_of rfl) rfl (pi_range1 (by rfl) T.n_range (pa_cons (pe_callB (call_max2 rfl) (by rfl) T.n_max (by decide +kernel) (pa_cons pe_int (pa_cons (pe_callB (call_min2 rfl) (by rfl) T.n_min (by decide +kernel) (pa_cons pe_int (pa_cons (pe_callB (Kx.call_len (K := K) rfl) (by rfl) T.n_len PySem.boot_len (pa_cons (pv 0) pa_nil)) pa_nil))) pa_nil))) pa_nil)) (pg_name (i := 1) sc_law.nd rfl (by first | exact Or.inl rfl | exact Or.inr rfl)) hout)
    (pss_one (ps_ret pe_bl))), ?_⟩
    try dsimp only [cxOf]
    rw [show L2.start ["_law_script", "_law_at", "_law_bag_here", "_law_base", "_law_step", "_law_tree", "_law_many", "_law_k", "_law_far", "_law_turn", "_law_rows", "_law_low", "_law_above", "_law_path", "_law_key", "_law_due", "_law_way_here", "_law_others", "_law_own", "_law_parent", "_law_other"] [V.ref a] = [some (V.ref a), none, none, none, none, none, none, none, none, none, none, none, none, none, none, none, none, none, none, none, none] from rfl]
    walk_at "rd"
    refine ⟨_, _, rfl, ?_⟩
    walk_at "rd"
    refine ⟨_, _, rfl, ?_⟩
    walk_at "rd"
    rename_i TB hTB
    subst hTB
    generalize hN : (if (if ((ns.map V.int).length : Int) < 4 then ((ns.map V.int).length : Int) else 4) > 1 then (if ((ns.map V.int).length : Int) < 4 then ((ns.map V.int).length : Int) else 4) else 1) = N
    have hN4 : 0 ≤ N ∧ N ≤ 4 := by
      rw [← hN]
      split <;> split <;> omega
    refine ⟨by omega, by omega, ?_⟩
    refine for_it walk_range (fun i σ H2 => ∃ us : List (Option V), σ = some (V.ref a) :: us ∧ us.length = 20 ∧ Same H H2) ⟨_, rfl, rfl, Same.refl _⟩ (fun _ _ _ _ _ => trivial) ?_ ?_
    · rintro i x σ H1 H2 hi ⟨us, rfl, hus, s1⟩ ⟨eH, ex⟩
      subst eH
      obtain rfl : x = V.int (i : Nat) := ex.trans (by show V.int (0 + (i : Nat)) = _; rw [Int.zero_add])
      have hi4 : i < 4 := by omega
      obtain ⟨u1, ur, rfl⟩ : ∃ u1 ur, us = u1 :: ur := by
        cases us with
        | nil => cases hus
        | cons u1 ur => exact ⟨u1, ur, rfl⟩
      walk_at "rd"
      exact ⟨a, ns, i, ur, rfl, by simpa using hus, s1.seq hS, hn, hi4, fun H' us' s2 hl => ⟨_, rfl, by simp [hl], s1.trans s2⟩⟩
    · rintro σ H2 ⟨us, rfl, hus, s1⟩
      walk_at "nx"
      walk_at "rd"
      exact q H2
end
end PR
end

section
set_option maxHeartbeats 4000000
/-! the head's facts: each one a Bool of the written part -/
namespace PR
open PySem L2 PySem.Spec PyProof.Rows PySem.EX
abbrev FK := PySem.W.Frag → Bool
def obK (fa : List He.Fa) (fn : List He5.DefA) (ex : List FK) (K : PySem.W.Frag) : He.AlD × Bool := (He5.obsA fa fn K, ex.all fun f => f K)
/-- what the module's names reach: classes, their tables, defs, properties, code -/
def rfV : Value → List Addr
  | .ref a => [a]
  | _ => []
def rfO (o : Obj) : List Addr := match o.data with
  | .seq its _ => its.toList.flatMap rfV
  | .dict es _ => es.toList.flatMap fun z => rfV z.val
  | .func fd => rfV fd.code ++ (rfV fd.defaults ++ rfV fd.kwdefaults)
  | .cls cd => [cd.ns]
  | _ => []
/-- a property's own defs -/
def rfP (o : Obj) : List Addr := match o.data with
  | .fields vs => (vs.toList.take 3).flatMap rfV
  | .func fd => rfV fd.code ++ (rfV fd.defaults ++ rfV fd.kwdefaults)
  | _ => []
def stepR (g : Addr → Option Obj) (r : Obj → List Addr) (as : List Addr) : List Addr := as.flatMap fun a => match g a with
  | some o => r o
  | none => []
def reachK (g : Addr → Option Obj) : List Addr :=
  (fun l1 => (fun l2 => (fun l3 => (fun l4 => [mainGlobals] ++ (l1 ++ (l2 ++ (l3 ++ (l4 ++ (stepR g rfP l4 ++ [cStatics])))))) (stepR g rfP l3)) (stepR g rfO l2)) (stepR g rfO l1)) (stepR g rfO [mainGlobals])
def obKG (n : Nat) (fa : List He.Fa) (fn : List He5.DefA) (ex : List FK) (g : Addr → Option Obj) : He.AlD × Bool := obK fa fn ex (He.frG g (reachK g))
def hookK (n : Nat) (fa : List He.Fa) (fn : List He5.DefA) (ex : List FK) : PySem.W.Hook where
  α := He.AlD × Bool
  obs := fun z => obKG n fa fn ex z.heap.get?
  val := fun _ => (He5.valA fn, true)
  says := fun _ hp => ∃ K : PySem.W.Frag, K.In hp ∧ obK fa fn ex K = (He5.valA fn, true)
  of := fun _ _ z => ⟨_, He.frG_in, z⟩
  keeps := fun _ _ _ ⟨K, hK, c⟩ k => ⟨K, PySem.W.Frag.In.keeps hK k, c⟩
theorem obKG_eq {n : Nat} {fa : List He.Fa} {fn : List He5.DefA} {ex : List FK} {g : Addr → Option Obj} {s : Shared} (h : ∀ a, g a = s.heap.get? a) : obKG n fa fn ex g = (hookK n fa fn ex).obs s := by
  have z : g = s.heap.get? := funext h
  rw [z] <;> rfl
section
variable {fa : List He.Fa} {fn : List He5.DefA} {ex : List FK} {K : PySem.W.Frag}
theorem obK_a (c : obK fa fn ex K = (He5.valA fn, true)) : He5.SaysA fa fn K := congrArg (fun z : He.AlD × Bool => z.1) c
theorem obK_x (c : obK fa fn ex K = (He5.valA fn, true)) (i : Nat) {f : FK} (h : ex[i]? = some f := by rfl) : f K = true :=
  List.all_eq_true.mp (show (ex.all fun f => f K) = true from congrArg (fun z : He.AlD × Bool => z.2) c) f (List.mem_of_getElem? h)
end
theorem bb {a b : Bool} (h : (a && b) = true) : a = true ∧ b = true := Bool.and_eq_true_iff.mp h
/-! ### the structures of facts, each as a Bool -/
section
variable {K : PySem.W.Frag} {C p : Addr} {f : Str}
def itemCB (K : PySem.W.Frag) (C : Addr) : Bool := He.eqO (PySem.W.findIn K (.ref C) "__getitem__") (some (some (.ref (He.ma K C "__getitem__")))) && (PySem.W.fnIn K (He.ma K C "__getitem__") && PySem.W.isFn K (.ref (He.ma K C "__getitem__")))
theorem itemCB_ok (h : itemCB K C = true) : ItemC K C (He.ma K C "__getitem__") := by
  obtain ⟨h1, h⟩ := bb h
  obtain ⟨h2, h3⟩ := bb h
  exact ⟨He.eqO_ok h1, h2, h3⟩
def withCB (K : PySem.W.Frag) (C : Addr) : Bool := He.eqO (PySem.W.findIn K (.ref C) "__enter__") (some (some (.ref (He.ma K C "__enter__")))) && (PySem.W.isFn K (.ref (He.ma K C "__enter__")) &&
  (He.eqO (PySem.W.findIn K (.ref C) "__exit__") (some (some (.ref (He.ma K C "__exit__")))) && PySem.W.isFn K (.ref (He.ma K C "__exit__"))))
theorem withCB_ok (h : withCB K C = true) : WithC K C (He.ma K C "__enter__") (He.ma K C "__exit__") := by
  obtain ⟨h1, h⟩ := bb h
  obtain ⟨h2, h⟩ := bb h
  obtain ⟨h3, h4⟩ := bb h
  exact ⟨He.eqO_ok h1, h2, He.eqO_ok h3, h4⟩
/-- a property's setter -/
def setAd (K : PySem.W.Frag) (C : Addr) (f : Str) : Addr := match PySem.W.recIn K (He.ma K C f) "property" with
  | some (_ :: .ref g :: _) => g
  | _ => 0
def propB (K : PySem.W.Frag) (C : Addr) (f : Str) : Bool := He.eqO (PySem.W.findIn K (.ref C) f) (some (some (.ref (He.ma K C f)))) && (He.eqO (PySem.W.specialIn K (.ref (He.ma K C f)) "__get__") (some (some (.builtin "property.__get__"))) &&
  (decide (PySem.W.takesIn K (.ref (He.ma K C f)) = some true) && (match PySem.W.recIn K (He.ma K C f) "property" with
    | some (.ref _ :: _) => true
    | _ => false)))
theorem propB_ok (h : propB K C f = true) : PropOf K C f (He.ma K C f) (He5.wf K C "property" f) := by
  obtain ⟨h1, h⟩ := bb h
  obtain ⟨h2, h⟩ := bb h
  obtain ⟨h3, h4⟩ := bb h
  refine ⟨He.eqO_ok h1, He.eqO_ok h2, of_decide_eq_true h3, ?_⟩
  unfold He5.wf
  split at h4
  · rename_i g r z
    exact ⟨r, by rw [z]⟩
  · cases h4
def setB (K : PySem.W.Frag) (C : Addr) (f : Str) : Bool := He.eqO (PySem.W.takerIn K C f) (some (some (.ref (He.ma K C f)))) && (decide (PySem.W.typeIn K (.ref (He.ma K C f)) = some (.type "property")) && (match PySem.W.recIn K (He.ma K C f) "property" with
    | some (_ :: .ref _ :: _) => true
    | _ => false))
theorem setB_ok (h : setB K C f = true) : SetOf K C f (He.ma K C f) (setAd K C f) := by
  obtain ⟨h1, h⟩ := bb h
  obtain ⟨h2, h3⟩ := bb h
  refine ⟨He.eqO_ok h1, of_decide_eq_true h2, ?_⟩
  unfold setAd
  split at h3
  · rename_i a g r z
    exact ⟨a, r, by rw [z]⟩
  · cases h3
/-- a class of exceptions, its base's own maker -/
def xclB (K : PySem.W.Frag) (C : Addr) (t : List Value → Bool) (nw : String) : Bool := match K.lookup C with
  | some ⟨.type u, _, .cls cd, sl⟩ => u == "type" && (match cd.mro, sl.toList with
    | .ref D :: bm, [_, _, _, _, some (.builtin n), _] => (D == C && n == nw) && ((cd.hasDict && !cd.hasDel) && t bm)
    | _, _ => false)
  | _ => false
theorem xclB_ok {t : List Value → Bool} {nw : String} (h : xclB K C t nw = true) : ∃ n q N bs bm sn sub ab col dd k0 k1 k2 k3 k5, K.lookup C = some (excClassObj n q C N bs bm true sn sub ab col dd k0 k1 k2 k3 k5 nw) ∧ t bm = true := by
  unfold xclB at h
  split at h
  · rename_i u dd cd sl ho
    obtain ⟨hu, h⟩ := bb h
    split at h
    · rename_i D bm k0 k1 k2 k3 n k5 hm hs
      obtain ⟨h1, h⟩ := bb h
      obtain ⟨h2, h3⟩ := bb h1
      obtain ⟨h4, h5⟩ := bb h
      obtain ⟨h6, h7⟩ := bb h4
      have e1 := eq_of_beq hu
      have e2 := eq_of_beq h2
      have e3 := eq_of_beq h3
      subst e1 e2 e3
      obtain ⟨x1, x2, x3, x4, x5, x6, x7, x8, x9, x10, x11⟩ := cd
      have e4 : x11 = false := by
        have : (!x11) = true := h7
        cases x11 <;> simp at this ⊢
      have e5 : x6 = true := h6
      have e6 : x3 = .ref D :: bm := hm
      subst e4 e5 e6
      have e7 : sl = #[k0, k1, k2, k3, some (.builtin n), k5] := by
        obtain ⟨l⟩ := sl
        have : l = _ := hs
        rw [this]
      subst e7
      exact ⟨x1, x5, x4, x2, bm, x7, x8, x9, x10, dd, k0, k1, k2, k3, k5, ho, h5⟩
    · cases h
  · cases h
/-- the def at f has no keyword defaults -/
def noKwB (K : PySem.W.Frag) (f : Addr) : Bool := match K.lookup f with
  | some ⟨_, _, .func fd, _⟩ => (match fd.kwdefaults with
    | .none => true
    | _ => false)
  | _ => false
def nmB (fl : Str) : Bool := !(fl == ("self" : Str)) && !(fl == ("__debug__" : Str))
def e1B (fl : Str) (bmB : List Value) (nw : String) (x : Str) : FK := fun K => nmB fl && (He.eqO (PySem.W.nsIn K mainGlobals x) (some (some (.ref (He.ga K x)))) && (xclB K (He.ga K x) (PySem.W.excTail bmB) nw && (PySem.W.excOver K (He.ga K x) bmB &&
  (He.eqO (PySem.W.findIn K (.ref (He.ga K x)) "__setattr__") (some (some (.builtin "object.__setattr__"))) && (xfB K (He.ga K x) && (He.eqO (PySem.W.findIn K (.ref (He.ga K x)) fl) (some none) &&
  (He.eqO (PySem.W.findIn K (.ref (He.ga K x)) "__init__") (some (some (.ref (He.ma K (He.ga K x) "__init__")))) && (decide (PySem.W.typeIn K (.ref (He.ma K (He.ga K x) "__init__")) = some (.type "function")) &&
  (PySem.W.keepIn K (.ref (He.ga K x)) && (decide (PySem.W.typeIn K (.ref (He.ga K x)) = some (.type "type")) && noKwB K (He.ma K (He.ga K x) "__init__")))))))))))
theorem e1B_ok {hp : Heap} {mg : Str → Option Value} {fl qual x : Str} {bmB : List Value} {nw : String} (X : K.In hp) (G : hp.Ns mainGlobals mg) (h : e1B fl bmB nw x K = true) {fd : FuncData} {p1 p2 q1 q2 q3 q4 : Pos}
    (bd : ∀ (p1 p2 q1 q2 q3 q4 : Pos) (doc pm : Value) (an : Option Addr) (cdv ct a v : Value), bindArgs (PySem.W.fnOf "__init__" qual (iA fl p1 p2) (iB fl q1 q2 q3 q4) (iS fl) .none .none doc pm an cdv ct) ⟨[a, v], []⟩ = pure [(("self" : Str), a), (fl, v)])
    (F : FunD K "__init__" qual (iA fl p1 p2) (iB fl q1 q2 q3 q4) (iS fl) [] [] (He.ma K (He.ga K x) "__init__") fd) : E1 K mg x fl qual bmB nw (He.ga K x) (He.ma K (He.ga K x) "__init__") := by
  obtain ⟨h0, h⟩ := bb h
  obtain ⟨h1, h⟩ := bb h
  obtain ⟨h2, h⟩ := bb h
  obtain ⟨h3, h⟩ := bb h
  obtain ⟨h4, h⟩ := bb h
  obtain ⟨h5, h⟩ := bb h
  obtain ⟨h6, h⟩ := bb h
  obtain ⟨h7, h⟩ := bb h
  obtain ⟨h8, h⟩ := bb h
  obtain ⟨h9, h⟩ := bb h
  obtain ⟨h10, h11⟩ := bb h
  obtain ⟨n1, n2⟩ := bb h0
  have xf := xfB_ok h5
  refine ⟨⟨by simpa using n1, by simpa using n2⟩, bd, PySem.W.mg_of X G (He.eqO_ok h1), xclB_ok h2, h3, He.eqO_ok h4, xf.ga, xf.gg, He.eqO_ok h6, He.eqO_ok h7, of_decide_eq_true h8, h9, xf.exC, of_decide_eq_true h10, xf.hdC, ?_⟩
  obtain ⟨oc, od, dV, kV, doc, pm, an, cdv, ct, osl, z, l, c, hd, _⟩ := F.ex
  have hd0 : dV = .none := by
    rcases hd with ⟨_, z⟩ | ⟨z, _⟩
    · exact z
    · exact absurd rfl z
  subst z hd0
  unfold noKwB at h11
  rw [l] at h11
  cases kV with
  | none => exact ⟨oc, od, doc, pm, an, cdv, ct, osl, p1, p2, q1, q2, q3, q4, l, c⟩
  | _ => cases h11
def oexB (x : Str) : FK := fun K => xclB K (He.ga K x) PySem.HandSPX.refsVE "ValueError.__new__" && (He.eqO (PySem.W.findIn K (.ref (He.ga K x)) "__setattr__") (some (some (.builtin "object.__setattr__"))) &&
  (decide (PySem.W.subIn K (.ref (He.ga K x)) (.type "BaseException") = some true) && (decide (PySem.W.typeIn K (.ref (He.ga K x)) = some (.type "type")) && PySem.W.keepIn K (.ref (He.ga K x)))))
theorem oexB_ok {x : Str} (h : oexB x K = true) : OexC K (He.ga K x) := by
  obtain ⟨h1, h⟩ := bb h
  obtain ⟨h2, h⟩ := bb h
  obtain ⟨h3, h⟩ := bb h
  obtain ⟨h4, h5⟩ := bb h
  exact ⟨xclB_ok h1, He.eqO_ok h2, of_decide_eq_true h3, of_decide_eq_true h4, h5⟩
def excB (x : Str) : FK := fun K => xfB K (He.ga K x) && (He.eqO (PySem.W.findIn K (.ref (He.ga K x)) "__class__") (some (some (.builtin "object.__class__"))) && (He.eqO (PySem.W.specialIn K (.builtin "object.__class__") "__get__") (some (some (.builtin "getset_descriptor.__get__"))) &&
  (decide (PySem.W.takesIn K (.builtin "object.__class__") = some true) && decide (PySem.W.mroIn K (He.ga K x) (.type "object") = some true))))
theorem excB_ok {x : Str} (h : excB x K = true) : ExcC K (He.ga K x) ∧ XfC K (He.ga K x) := by
  obtain ⟨h1, h⟩ := bb h
  obtain ⟨h2, h⟩ := bb h
  obtain ⟨h3, h⟩ := bb h
  obtain ⟨h4, h5⟩ := bb h
  have xf := xfB_ok h1
  exact ⟨⟨xf.ga, xf.gg, xf.exC, xf.hdC, He.eqO_ok h2, He.eqO_ok h3, of_decide_eq_true h4, of_decide_eq_true h5⟩, xf⟩
def fnB (x m : Str) : FK := fun K => He.eqO (PySem.W.findIn K (.ref (He.ga K x)) m) (some (some (.ref (He.ma K (He.ga K x) m)))) && decide (PySem.W.typeIn K (.ref (He.ma K (He.ga K x) m)) = some (.type "function"))
theorem fnB_ok {x m : Str} (h : fnB x m K = true) : PySem.W.findIn K (.ref (He.ga K x)) m = some (some (.ref (He.ma K (He.ga K x) m))) ∧ PySem.W.typeIn K (.ref (He.ma K (He.ga K x) m)) = some (.type "function") := by
  obtain ⟨h1, h2⟩ := bb h
  exact ⟨He.eqO_ok h1, of_decide_eq_true h2⟩
/-- isinstance by classes of the module -/
def kitGB (x y : Str) (b : Bool) : FK := fun K => decide (PySem.W.kitOne K (.ref (He.ga K x)) (.ref (He.ga K y)) = some b)
def kitTB (x : Str) (y : String) (b : Bool) : FK := fun K => decide (PySem.W.kitOne K (.ref (He.ga K x)) (.type y) = some b)
theorem kitGB_ok {x y : Str} {b : Bool} (h : kitGB x y b K = true) : PySem.W.kitOne K (.ref (He.ga K x)) (.ref (He.ga K y)) = some b := of_decide_eq_true h
theorem kitTB_ok {x : Str} {y : String} {b : Bool} (h : kitTB x y b K = true) : PySem.W.kitOne K (.ref (He.ga K x)) (.type y) = some b := of_decide_eq_true h
end
/-- the end: the law by such a promise, its errors told of the world -/
theorem walkE {l : PySem.W.OpenLaw} {n k : Nat} {q : Program} {lo : List Str} {XP : (Str → Option Value) → Heap → Prop} {YP : World → Heap → Prop} {d : DefRec} {CX : World → CXT} {x : Str} (hn : l.most = some n) (hn2 : n ≤ sizeLine) (hdf : d.params.defaults = []) (hr : Room k callerA)
    (F : ∀ (w : World) (mg : Str → Option Value) (fa : Addr) (h : Heap), YP w h → h.Ns mainGlobals mg → mg d.name = some (.ref fa) → ∃ (K : PySem.W.Frag) (fd : FuncData) (sp : Sp), K.In h ∧ (∀ (s : Shared) (u : Value), BindsTo s fd ⟨[u], []⟩ [(x, u)]) ∧
        (∀ (H : Hp) (a : Addr) (ns : List Int), ns.length ≤ n → Only H → SqL K H a (ns.map V.int) → sp [.ref a] H (fun v _ => v = .bl true) fun _ _ _ => False) ∧ ∀ bs : Heap, K.In bs → bs.Ns mainGlobals mg → FnOk l.prog w K mg bs (CX w) k fa fd [x] sp)
    (hCX : ∀ (w : World) (H : Hp) (s : Shared) (e : Value) (s' : Shared), CX w [] H s (fun _ _ _ => False) e s' → False) : PySem.W.WalkO q lo XP YP l.row.toRowW d [] (fun f vs => PySem.call f vs) := by
  refine Att.attach_call hn hdf fun w s0 s1 mg mb fa o pm cd doc a vs ns G Y ho hd hcd hmg hob hin hle hg => ?_
  obtain ⟨K, fd, sp, KX, hb, hs, hF⟩ := F w mg fa _ Y G.T.g hmg
  exact law_call KX G.T.g G.T.b G.T.builtins G.T.nolimit hg hob hin (Nat.le_trans hle hn2) hr hF hb (fun H hO hS => hs H a ns hle hO hS) fun H z u => hCX w H s1 z u
end PR
end

set_option maxHeartbeats 0
namespace PR
open PySem L2 PySem.Spec PyProof.Rows PySem.EX
abbrev s_BadKey___init__ : Stmt := inClass (top 7) 0
abbrev s_KeyThere___init__ : Stmt := inClass (top 8) 0
abbrev s_Ring___init__ : Stmt := inClass (top 10) 0
abbrev s_NoKey___init__ : Stmt := inClass (top 9) 0
abbrev df (at_ : PySem.W.Frag → Addr) (x q : Str) (st : Stmt) (dfl : List He.Dv) : He5.DefA := ⟨at_, x, q, defArgs st, defBody st, defScope st, dfl, []⟩
def hFn : List He5.DefA := [df (fun K => He.ga K "is_key") "is_key" "is_key" s_is_key [],
  df (fun K => He.ga K "has_key") "has_key" "has_key" s_has_key [],
  df (fun K => He.ga K "place_of") "place_of" "place_of" s_place_of [],
  df (fun K => He.ga K "end_of") "end_of" "end_of" s_end_of [],
  df (fun K => He.ga K "landing") "landing" "landing" s_landing [],
  df (fun K => He.ga K "path_up") "path_up" "path_up" s_path_up [],
  df (fun K => He.ga K "_law_way") "_law_way" "_law_way" s__law_way [],
  df (fun K => He.ga K "_law_raised") "_law_raised" "_law_raised" s__law_raised [],
  df (fun K => He.ga K "_law_bag") "_law_bag" "_law_bag" s__law_bag [],
  df (fun K => He.ga K "_law_take") "_law_take" "_law_take" s__law_take [],
  df (fun K => He.ma K (He.ga K "Spot") "__init__") "__init__" "Spot.__init__" s_Spot___init__ [],
  df (fun K => He.ma K (He.ga K "Spot") "under") "under" "Spot.under" s_Spot_under [],
  df (fun K => He.ma K (He.ga K "Edit") "__init__") "__init__" "Edit.__init__" s_Edit___init__ [],
  df (fun K => He.ma K (He.ga K "Edit") "__enter__") "__enter__" "Edit.__enter__" s_Edit___enter__ [],
  df (fun K => He.ma K (He.ga K "Edit") "__exit__") "__exit__" "Edit.__exit__" s_Edit___exit__ [],
  df (fun K => He.ma K (He.ga K "Tree") "__init__") "__init__" "Tree.__init__" s_Tree___init__ [],
  df (fun K => He.ma K (He.ga K "Tree") "__getitem__") "__getitem__" "Tree.__getitem__" s_Tree___getitem__ [],
  df (fun K => He.ma K (He.ga K "Tree") "put") "put" "Tree.put" s_Tree_put [.non],
  df (fun K => He.ma K (He.ga K "Tree") "move") "move" "Tree.move" s_Tree_move [],
  df (fun K => He.ma K (He.ga K "Tree") "move_all") "move_all" "Tree.move_all" s_Tree_move_all [],
  df (fun K => He.ma K (He.ga K "Tree") "edit") "edit" "Tree.edit" s_Tree_edit [],
  df (fun K => He.ma K (He.ga K "Undone") "__init__") "__init__" "Undone.__init__" s_Undone___init__ [],
  df (fun K => He5.wf K (He.ga K "Spot") "property" "parent") "parent" "Spot.parent" s_Spot_parent [],
  df (fun K => setAd K (He.ga K "Spot") "parent") "parent" "Spot.parent" s_Spot_parent_1 [],
  df (fun K => He.ma K (He.ga K "BadKey") "__init__") "__init__" "BadKey.__init__" s_BadKey___init__ [],
  df (fun K => He.ma K (He.ga K "KeyThere") "__init__") "__init__" "KeyThere.__init__" s_KeyThere___init__ [],
  df (fun K => He.ma K (He.ga K "Ring") "__init__") "__init__" "Ring.__init__" s_Ring___init__ [],
  df (fun K => He.ma K (He.ga K "NoKey") "__init__") "__init__" "NoKey.__init__" s_NoKey___init__ [],
  df (fun K => He.ga K "law") "law" "law" s_law []]
def hFa : List He.Fa := [.free "len", .free "int", .free "bool", .free "isinstance", .free "list", .free "tuple", .free "enumerate", .free "range", .free "abs", .free "max", .free "min", .free "dict", .free "ValueError", .free "LookupError", .int "BIG" (10 ^ 30), .glo "is_key", .glo "has_key", .glo "place_of", .glo "end_of", .glo "landing", .glo "path_up", .glo "_law_way", .glo "_law_raised", .glo "_law_bag", .glo "_law_take", .cls "Spot", .glo "Spot", .mkr "Spot", .cls "Edit", .glo "Edit", .mkr "Edit", .cls "Tree", .glo "Tree", .mkr "Tree", .noat "Spot" "tree", .noat "Spot" "key", .noat "Edit" "tree", .noat "Edit" "saved", .noat "Tree" "rows", .noat "Tree" "left", .noat "Undone" "place", .noat "Undone" "why", .noat "Ring" "path", .meth "Spot" "under", .meth "Tree" "put", .meth "Tree" "move", .meth "Tree" "move_all", .meth "Tree" "edit", .glo "Undone", .glo "Ring", .glo "NoKey", .exm "Ring" "Ring" true, .exm "NoKey" "Ring" false, .exm "NoKey" "NoKey" true, .exm "Undone" "Ring" false, .exm "Undone" "Undone" true, .glo "RowsError", .glo "law"]
def hEx : List FK := [fun K => itemCB K (He.ga K "Tree"),
  fun K => withCB K (He.ga K "Edit"),
  fun K => propB K (He.ga K "Spot") "parent",
  fun K => setB K (He.ga K "Spot") "parent",
  e1B "key" veB "ValueError.__new__" "BadKey",
  e1B "key" veB "ValueError.__new__" "KeyThere",
  e1B "path" veB "ValueError.__new__" "Ring",
  e1B "key" leB "LookupError.__new__" "NoKey",
  oexB "Undone",
  fnB "Undone" "__init__",
  excB "Ring",
  excB "Undone",
  excB "NoKey",
  kitGB "Ring" "RowsError" true,
  kitGB "Ring" "Undone" false,
  kitGB "Undone" "RowsError" true,
  kitTB "Ring" "ValueError" true,
  kitTB "Ring" "LookupError" false,
  kitTB "Undone" "ValueError" true]
abbrev R : PySem.W.OpenRow := PySem.W.OpenLaw.row PySem.Challenge.rw_parentrows_k79_moves_into_rings
abbrev hk : PySem.W.Hook := hookK 6 hFa hFn hEx
def ob (s : PySem.W.SharedT) : He.AlD × Bool := obKG 6 hFa hFn hEx (HandSHeadRun.getT s)
theorem ob_eq (s : PySem.W.SharedT) : ob s = hk.obs s.abs := obKG_eq (HandSHeadRun.getT_eq s)
def ls0 : List Str := ["_wall", "RowsError", "BadRows", "BadText", "BadWish", "Refused", "BadKey", "KeyThere", "NoKey", "Ring", "Undone", "BIG", "is_key", "is_row", "look_rows", "Telling", "Wish", "standing", "end_word", "settle"]
def ls1 : List Str := ["kinds", "refusing", "preorder", "due", "has_key", "place_of", "end_of", "block_of", "landing", "path_up", "Spot", "Edit", "Tree", "_law_bag", "_law_take", "_law_way", "_law_raised"]
def lsAll : List Str := ls0 ++ ls1
theorem run (w : World) : HandSHeadRun.RunEq R (PySem.W.view R.prog [43]) hk ob 8000 lsAll w := by
  intro os
  kernel_rfl
theorem facts {P : Program} {w : World} {K : PySem.W.Frag} {h : Heap} {mg : Str → Option Value} {f : Addr} (X : K.In h) (G : h.Ns mainGlobals mg) (hfa : mg ("law" : Str) = some (.ref f)) (c0 : obK hFa hFn hEx K = (He5.valA hFn, true)) :
    ∃ fd : FuncData, (∀ (s : Shared) (v : Value), BindsTo s fd ⟨[v], []⟩ [("_law_script", v)]) ∧ ∀ bs : Heap, K.In bs → bs.Ns mainGlobals mg → FnOk P w K mg bs (L2.CX P w) 14 f fd ["_law_script"] (spLaw K) := by
  have c := obK_a c0
  obtain ⟨fd0, F0⟩ := c.def_ 0 rfl
  obtain ⟨fd1, F1⟩ := c.def_ 1 rfl
  obtain ⟨fd2, F2⟩ := c.def_ 2 rfl
  obtain ⟨fd3, F3⟩ := c.def_ 3 rfl
  obtain ⟨fd4, F4⟩ := c.def_ 4 rfl
  obtain ⟨fd5, F5⟩ := c.def_ 5 rfl
  obtain ⟨fd6, F6⟩ := c.def_ 6 rfl
  obtain ⟨fd7, F7⟩ := c.def_ 7 rfl
  obtain ⟨fd8, F8⟩ := c.def_ 8 rfl
  obtain ⟨fd9, F9⟩ := c.def_ 9 rfl
  obtain ⟨fd10, F10⟩ := c.def_ 10 rfl
  obtain ⟨fd11, F11⟩ := c.def_ 11 rfl
  obtain ⟨fd12, F12⟩ := c.def_ 12 rfl
  obtain ⟨fd13, F13⟩ := c.def_ 13 rfl
  obtain ⟨fd14, F14⟩ := c.def_ 14 rfl
  obtain ⟨fd15, F15⟩ := c.def_ 15 rfl
  obtain ⟨fd16, F16⟩ := c.def_ 16 rfl
  obtain ⟨fd17, F17⟩ := c.def_ 17 rfl
  obtain ⟨fd18, F18⟩ := c.def_ 18 rfl
  obtain ⟨fd19, F19⟩ := c.def_ 19 rfl
  obtain ⟨fd20, F20⟩ := c.def_ 20 rfl
  obtain ⟨fd21, F21⟩ := c.def_ 21 rfl
  obtain ⟨fd22, F22⟩ := c.def_ 22 rfl
  obtain ⟨fd23, F23⟩ := c.def_ 23 rfl
  obtain ⟨fd24, F24⟩ := c.def_ 24 rfl
  obtain ⟨fd25, F25⟩ := c.def_ 25 rfl
  obtain ⟨fd26, F26⟩ := c.def_ 26 rfl
  obtain ⟨fd27, F27⟩ := c.def_ 27 rfl
  obtain ⟨fd28, F28⟩ := c.def_ 28 rfl
  have e := hfa.symm.trans (He.glo_ok X G (x := "law") (c.fact 57 rfl))
  cases e
  let A : Ad := { is_key := He.ga K "is_key", d_is_key := fd0, has_key := He.ga K "has_key", d_has_key := fd1, place_of := He.ga K "place_of", d_place_of := fd2, end_of := He.ga K "end_of", d_end_of := fd3, landing := He.ga K "landing", d_landing := fd4, path_up := He.ga K "path_up", d_path_up := fd5, f_S_init := He.ma K (He.ga K "Spot") "__init__", d_S_init := fd10, f_S_under := He.ma K (He.ga K "Spot") "under", d_S_under := fd11, f_E_init := He.ma K (He.ga K "Edit") "__init__", d_E_init := fd12, f_E_enter := He.ma K (He.ga K "Edit") "__enter__", d_E_enter := fd13, f_E_exit := He.ma K (He.ga K "Edit") "__exit__", d_E_exit := fd14, f_T_init := He.ma K (He.ga K "Tree") "__init__", d_T_init := fd15, f_T_item := He.ma K (He.ga K "Tree") "__getitem__", d_T_item := fd16, f_T_put := He.ma K (He.ga K "Tree") "put", d_T_put := fd17, f_T_move := He.ma K (He.ga K "Tree") "move", d_T_move := fd18, f_T_all := He.ma K (He.ga K "Tree") "move_all", d_T_all := fd19, f_T_edit := He.ma K (He.ga K "Tree") "edit", d_T_edit := fd20, f_U_init := He.ma K (He.ga K "Undone") "__init__", d_U_init := fd21, f_S_get := He5.wf K (He.ga K "Spot") "property" "parent", d_S_get := fd22, f_S_set := setAd K (He.ga K "Spot") "parent", d_S_set := fd23, p_parent := He.ma K (He.ga K "Spot") "parent", c_Spot := He.ga K "Spot", c_Edit := He.ga K "Edit", c_Tree := He.ga K "Tree", c_BadKey := He.ga K "BadKey", i_BadKey := He.ma K (He.ga K "BadKey") "__init__", c_KeyThere := He.ga K "KeyThere", i_KeyThere := He.ma K (He.ga K "KeyThere") "__init__", c_Ring := He.ga K "Ring", i_Ring := He.ma K (He.ga K "Ring") "__init__", c_NoKey := He.ga K "NoKey", i_NoKey := He.ma K (He.ga K "NoKey") "__init__", c_Undone := He.ga K "Undone" }
  let L : AdL := { way := He.ga K "_law_way", d_way := fd6, raised := He.ga K "_law_raised", d_raised := fd7, bag := He.ga K "_law_bag", d_bag := fd8, take := He.ga K "_law_take", d_take := fd9, c_RowsError := He.ga K "RowsError" }
  have T : TxtL K mg A L := {
    n_len := He.free_ok X G (x := "len") (c.fact 0 rfl)
    n_int := He.free_ok X G (x := "int") (c.fact 1 rfl)
    n_bool := He.free_ok X G (x := "bool") (c.fact 2 rfl)
    n_isinstance := He.free_ok X G (x := "isinstance") (c.fact 3 rfl)
    n_list := He.free_ok X G (x := "list") (c.fact 4 rfl)
    n_tuple := He.free_ok X G (x := "tuple") (c.fact 5 rfl)
    n_enumerate := He.free_ok X G (x := "enumerate") (c.fact 6 rfl)
    n_range := He.free_ok X G (x := "range") (c.fact 7 rfl)
    n_abs := He.free_ok X G (x := "abs") (c.fact 8 rfl)
    n_max := He.free_ok X G (x := "max") (c.fact 9 rfl)
    n_min := He.free_ok X G (x := "min") (c.fact 10 rfl)
    n_dict := He.free_ok X G (x := "dict") (c.fact 11 rfl)
    n_ValueError := He.free_ok X G (x := "ValueError") (c.fact 12 rfl)
    n_LookupError := He.free_ok X G (x := "LookupError") (c.fact 13 rfl)
    g_BIG := He.int_ok X G (x := "BIG") (c.fact 14 rfl)
    g_is_key := He.glo_ok X G (x := "is_key") (c.fact 15 rfl)
    F_is_key := He5.fun_of F0
    g_has_key := He.glo_ok X G (x := "has_key") (c.fact 16 rfl)
    F_has_key := He5.fun_of F1
    g_place_of := He.glo_ok X G (x := "place_of") (c.fact 17 rfl)
    F_place_of := He5.fun_of F2
    g_end_of := He.glo_ok X G (x := "end_of") (c.fact 18 rfl)
    F_end_of := He5.fun_of F3
    g_landing := He.glo_ok X G (x := "landing") (c.fact 19 rfl)
    F_landing := He5.fun_of F4
    g_path_up := He.glo_ok X G (x := "path_up") (c.fact 20 rfl)
    F_path_up := He5.fun_of F5
    g__law_way := He.glo_ok X G (x := "_law_way") (c.fact 21 rfl)
    F__law_way := He5.fun_of F6
    g__law_raised := He.glo_ok X G (x := "_law_raised") (c.fact 22 rfl)
    F__law_raised := He5.fun_of F7
    g__law_bag := He.glo_ok X G (x := "_law_bag") (c.fact 23 rfl)
    F__law_bag := He5.fun_of F8
    g__law_take := He.glo_ok X G (x := "_law_take") (c.fact 24 rfl)
    F__law_take := He5.fun_of F9
    F_S_init := He5.fun_of F10
    F_S_under := He5.fun_of F11
    F_E_init := He5.fun_of F12
    F_E_enter := He5.fun_of F13
    F_E_exit := He5.fun_of F14
    F_T_init := He5.fun_of F15
    F_T_item := He5.fun_of F16
    F_T_put := F17
    F_T_move := He5.fun_of F18
    F_T_all := He5.fun_of F19
    F_T_edit := He5.fun_of F20
    F_U_init := He5.fun_of F21
    F_S_get := He5.fun_of F22
    F_S_set := He5.fun_of F23
    k_Spot := He.cls_ok (x := "Spot") (c.fact 25 rfl)
    g_Spot := He.glo_ok X G (x := "Spot") (c.fact 26 rfl)
    m_Spot := He.mkr_ok (x := "Spot") (c.fact 27 rfl)
    k_Edit := He.cls_ok (x := "Edit") (c.fact 28 rfl)
    g_Edit := He.glo_ok X G (x := "Edit") (c.fact 29 rfl)
    m_Edit := He.mkr_ok (x := "Edit") (c.fact 30 rfl)
    k_Tree := He.cls_ok (x := "Tree") (c.fact 31 rfl)
    g_Tree := He.glo_ok X G (x := "Tree") (c.fact 32 rfl)
    m_Tree := He.mkr_ok (x := "Tree") (c.fact 33 rfl)
    a_tree := He.noat_ok (x := "Spot") (f := "tree") (c.fact 34 rfl)
    a_key := He.noat_ok (x := "Spot") (f := "key") (c.fact 35 rfl)
    a_etree := He.noat_ok (x := "Edit") (f := "tree") (c.fact 36 rfl)
    a_saved := He.noat_ok (x := "Edit") (f := "saved") (c.fact 37 rfl)
    a_rows := He.noat_ok (x := "Tree") (f := "rows") (c.fact 38 rfl)
    a_left := He.noat_ok (x := "Tree") (f := "left") (c.fact 39 rfl)
    u_place := He.noat_ok (x := "Undone") (f := "place") (c.fact 40 rfl)
    u_why := He.noat_ok (x := "Undone") (f := "why") (c.fact 41 rfl)
    p_Ring := He.noat_ok (x := "Ring") (f := "path") (c.fact 42 rfl)
    m_under := He.meth_ok (x := "Spot") (m := "under") (c.fact 43 rfl)
    m_put := He.meth_ok (x := "Tree") (m := "put") (c.fact 44 rfl)
    m_move := He.meth_ok (x := "Tree") (m := "move") (c.fact 45 rfl)
    m_all := He.meth_ok (x := "Tree") (m := "move_all") (c.fact 46 rfl)
    m_edit := He.meth_ok (x := "Tree") (m := "edit") (c.fact 47 rfl)
    i_item := itemCB_ok (obK_x c0 0 rfl)
    w_Edit := withCB_ok (obK_x c0 1 rfl)
    p_get := propB_ok (obK_x c0 2 rfl)
    p_set := setB_ok (obK_x c0 3 rfl)
    X_BadKey := e1B_ok (x := "BadKey") X G (obK_x c0 4 rfl) (fun _ _ _ _ _ _ _ _ _ _ _ _ _ => rfl) F24
    X_KeyThere := e1B_ok (x := "KeyThere") X G (obK_x c0 5 rfl) (fun _ _ _ _ _ _ _ _ _ _ _ _ _ => rfl) F25
    X_Ring := e1B_ok (x := "Ring") X G (obK_x c0 6 rfl) (fun _ _ _ _ _ _ _ _ _ _ _ _ _ => rfl) F26
    X_NoKey := e1B_ok (x := "NoKey") X G (obK_x c0 7 rfl) (fun _ _ _ _ _ _ _ _ _ _ _ _ _ => rfl) F27
    g_Undone := He.glo_ok X G (x := "Undone") (c.fact 48 rfl)
    o_Undone := oexB_ok (obK_x c0 8 rfl)
    u_init := (fnB_ok (obK_x c0 9 rfl)).1
    u_fn := (fnB_ok (obK_x c0 9 rfl)).2
    h_Ring := He.glo_ok X G (x := "Ring") (c.fact 49 rfl)
    h_NoKey := He.glo_ok X G (x := "NoKey") (c.fact 50 rfl)
    x_RR := He.exm_ok (x := "Ring") (y := "Ring") (c.fact 51 rfl)
    x_NR := He.exm_ok (x := "NoKey") (y := "Ring") (c.fact 52 rfl)
    x_NN := He.exm_ok (x := "NoKey") (y := "NoKey") (c.fact 53 rfl)
    x_UR := He.exm_ok (x := "Undone") (y := "Ring") (c.fact 54 rfl)
    x_UU := He.exm_ok (x := "Undone") (y := "Undone") (c.fact 55 rfl)
    g_RowsError := He.glo_ok X G (x := "RowsError") (c.fact 56 rfl)
    e_Ring := (excB_ok (obK_x c0 10 rfl)).1
    f_Ring := (excB_ok (obK_x c0 10 rfl)).2
    e_Undone := (excB_ok (obK_x c0 11 rfl)).1
    f_Undone := (excB_ok (obK_x c0 11 rfl)).2
    f_NoKey := (excB_ok (obK_x c0 12 rfl)).2
    z_RR := kitGB_ok (x := "Ring") (y := "RowsError") (obK_x c0 13 rfl)
    z_RU := kitGB_ok (x := "Ring") (y := "Undone") (obK_x c0 14 rfl)
    z_UR := kitGB_ok (x := "Undone") (y := "RowsError") (obK_x c0 15 rfl)
    z_RV := kitTB_ok (x := "Ring") (y := "ValueError") (obK_x c0 16 rfl)
    z_RL := kitTB_ok (x := "Ring") (y := "LookupError") (obK_x c0 17 rfl)
    z_UV := kitTB_ok (x := "Undone") (y := "ValueError") (obK_x c0 18 rfl)
  }
  have b := FunD.bindsA (ps := ["_law_script"]) F28 fun _ _ _ _ _ _ us hl => match us, hl with | [_], _ => rfl
  exact ⟨fd28, fun s v => b s [v] rfl, fun bs _ _ => ok_law T (He5.fun_of F28)⟩
end PR
open PySem PySem.W PySem.Calls PyProof.Rows
theorem PySem.Challenge.cw_parentrows_k79_moves_into_rings_holds : PySem.Challenge.rw_parentrows_k79_moves_into_rings.Holds := by
  w_on; o_law
  refine HandSHeadRun.head_any (r := PR.R) (q := view PR.R.prog [43]) (H := PR.hk) (ob := PR.ob) (M := 8000) (loose := PR.lsAll) (d := HandSHeadRun.topDef PR.R.prog 43) (kwd := []) PR.ob_eq
    (by kernel_rfl) (fun s => by kernel_rfl) PR.run (by kernel_rfl) (by kernel_rfl) (by kernel_rfl) (by rfl) (by first | assumption | decide +kernel) (by decide +kernel) ⟨rfl, rfl, rfl, rfl, rfl, by decide +kernel⟩ ?hw ?hc
  case hw => w_witness2
  case hc =>
    refine PR.walkE (l := PySem.Challenge.rw_parentrows_k79_moves_into_rings) (n := 63) (k := 14) (x := "_law_script") (CX := fun w => L2.CX PR.R.prog w) rfl (by decide) (by kernel_rfl) ⟨rfl, by decide, by decide⟩ ?F (fun _ _ _ _ _ z => by obtain ⟨_, _, _, _, _, _, _, _, _, _, _, _, z⟩ := z; exact z)
    intro w mg fa h Y G hmg0
    obtain ⟨K, KX, c⟩ := Y
    have hmg : mg ("law" : PySem.Str) = some (.ref fa) := by
      have e : (HandSHeadRun.topDef PR.R.prog 43).name = ("law" : PySem.Str) := by kernel_rfl
      rw [← e]
      exact hmg0
    obtain ⟨fd, hb, hF⟩ := PR.facts (P := PR.R.prog) (w := w) KX G hmg c
    exact ⟨K, fd, PR.spLaw K, KX, hb, fun H a ns hl _ hS => ⟨a, ns, rfl, hS, hl, fun _ => rfl⟩, hF⟩
