import PyProof.Rows.All
import Wide.All
import OpenK.AllK
import Wide.FinOn
import HandS.ForMost
import HandS.Deep
import HandS.Walk
import HandS.Wide
import HandS.IsInst
import HandS.DictComp
import HandS.Style
import HandS.Star
import HandS.Property
import HandS.ForExc
import HandS.ExcInit
import KE.KExcInit
import HandS.ExcCtx
import HandS.Defaults
import HandS.WordsExc
import HandS.SuiteRaise
import HandS.RaiseFrom
import HandS.Finally
import HandS.ExcInitHot
import KE.KWithOwn
import HandS.MethStar
import KE.GoesMore
import HandS.Iter
import KE.KExcIs
import HandS.ExcIs
import HandS.ExcField
import HandS.WordsDict
import PyProof.P3Eq
import KE.KSuper
import HandS.Nested
import HandS.ClsMeth
import HandS.OwnEq
import HandS.OwnIter
import HandS.IterVal
import HandS.Head0
import HandS.Head1
import HandS.Head2
import HandS.HeadEnd
import HandS.HeadHook1
import HandS.HeadHook2
import HandS.HeadNt
import KE.KExcRaise
import PySem.Challenge.RW_parentrows_k81_several_moves_all_or_none
set_option Elab.async false
set_option linter.all false
set_option maxRecDepth 100000
section
set_option maxHeartbeats 4000000
namespace PR
open PySem L2 PySem.Spec

/-! ### heaps with some places hidden -/
def hid (S : List Addr) (H : Hp) : Hp := fun b => if b ∈ S then none else H b
def OkS (S : List Addr) (H : Hp) : Prop := ∀ a, a ∈ S → ∃ o, H a = some o
def Fr1 (t : Addr) (H H' : Hp) : Prop := ∀ b o, b ≠ t → H b = some o → H' b = some o
section
variable {S : List Addr} {H H1 H2 : Hp} {a b p t : Addr} {o u : HO} {K : PySem.W.Frag} {v : V} {d : PyData}
theorem hid_in (h : b ∈ S) : hid S H b = none := by unfold hid; rw [if_pos h]
theorem hid_out (h : b ∉ S) : hid S H b = H b := by unfold hid; rw [if_neg h]
theorem hid_some (h : hid S H b = some o) : H b = some o ∧ b ∉ S := by
  unfold hid at h
  by_cases q : b ∈ S
  · rw [if_pos q] at h; cases h
  · rw [if_neg q] at h; exact ⟨h, q⟩
theorem hid_same : Same (hid S H) H := fun b o h => (hid_some h).1
theorem Same.hid (s : Same H H1) : Same (hid S H) (hid S H1) := fun b o h => by
  obtain ⟨h1, h2⟩ := hid_some h
  rw [hid_out h2]; exact s b o h1
theorem OkS.nil : OkS [] H := fun a h => absurd h (by simp)
theorem OkS.same (k : OkS S H) (s : Same H H1) : OkS S H1 := fun a h => by
  obtain ⟨o, e⟩ := k a h
  exact ⟨o, s a o e⟩
theorem OkS.new (k : OkS S H) (h : H p = none) : p ∉ S := fun q => by
  obtain ⟨o, e⟩ := k p q
  rw [h] at e; cases e
theorem OkS.cons (k : OkS S H) (h : H p = some o) : OkS (p :: S) H := fun a q => by
  rcases List.mem_cons.mp q with e | e
  · subst e; exact ⟨o, h⟩
  · exact k a e
theorem OkS.upd (k : OkS S H) : OkS S (upd H p o) := fun a q => by
  by_cases e : a = p
  · subst e; exact ⟨o, upd_same⟩
  · obtain ⟨u, h⟩ := k a q
    exact ⟨u, by rw [upd_ne e]; exact h⟩
theorem OkS.fr1 (k : OkS S H) (f : Fr1 t H H1) (h : ∃ o, H1 t = some o) : OkS S H1 := fun a q => by
  by_cases e : a = t
  · subst e; exact h
  · obtain ⟨u, z⟩ := k a q
    exact ⟨u, f a u e z⟩
/-- a new place is hidden: the rest is as it was -/
theorem hid_new (n : hid S H p = none) : hid (p :: S) (upd H p o) = hid S H := by
  funext b
  by_cases e : b = p
  · subst e; rw [hid_in List.mem_cons_self, n]
  · by_cases q : b ∈ S
    · rw [hid_in (List.mem_cons_of_mem _ q), hid_in q]
    · rw [hid_out (by intro z; rcases List.mem_cons.mp z with z | z; exact e z; exact q z), hid_out q, upd_ne e]
theorem hid_mut (h : p ∈ S) : hid S (upd H p o) = hid S H := by
  funext b
  by_cases q : b ∈ S
  · rw [hid_in q, hid_in q]
  · rw [hid_out q, hid_out q, upd_ne (fun e => q (by rw [e]; exact h))]
theorem hid_none (h : H p = none) : hid S H p = none := by
  unfold hid
  split
  · rfl
  · exact h
theorem hid_alloc (h : p ∉ S) : hid S (upd H p o) = upd (hid S H) p o := by
  funext b
  by_cases e : b = p
  · subst e; rw [hid_out h, upd_same, upd_same]
  · by_cases q : b ∈ S
    · rw [hid_in q, upd_ne e, hid_in q]
    · rw [hid_out q, upd_ne e, upd_ne e, hid_out q]
theorem same_upd (h : H p = none) : Same H (upd H p o) := fun b u e => by rw [upd_ne (ne_of_none e h)]; exact e
theorem hid_sub {S' : List Addr} (h : ∀ a, a ∈ S → a ∈ S') : Same (hid S' H) (hid S H) := fun b o e => by
  obtain ⟨h1, h2⟩ := hid_some e
  rw [hid_out (fun q => h2 (h b q))]; exact h1
theorem Fr1.refl : Fr1 t H H := fun _ _ _ e => e
theorem Fr1.trans (f : Fr1 t H H1) (g : Fr1 t H1 H2) : Fr1 t H H2 := fun b o n e => g b o n (f b o n e)
theorem Same.fr1 (s : Same H H1) : Fr1 t H H1 := fun b o _ e => s b o e
theorem fr1_upd : Fr1 t H (upd H t o) := fun b u n e => by rw [upd_ne n]; exact e
theorem Fr1.hid (f : Fr1 t H H1) : Fr1 t (hid S H) (hid S H1) := fun b o n e => by
  obtain ⟨h1, h2⟩ := hid_some e
  rw [hid_out h2]; exact f b o n h1

/-! ### data -/
theorem sqT_mono {xs : List V} (e : Same H H1) (h : SqT K H a xs) : SqT K H1 a xs := by
  rcases h with (h | ⟨o, h⟩) | h
  · exact .inl (.inl (e _ _ h))
  · exact .inl (.inr ⟨o, e _ _ h⟩)
  · exact .inr h
mutual
theorem dp_mono (e : Same H H1) : ∀ {v : V} {d : PyData}, Dp K H v d → Dp K H1 v d
  | _, _, .non => .non
  | _, _, .bl b => .bl b
  | _, _, .int i => .int i
  | _, _, .str x => .str x
  | _, _, .lst h t => .lst (e.seq h) (dpAll_mono e t)
  | _, _, .tup h t => .tup (sqT_mono e h) (dpAll_mono e t)
theorem dpAll_mono (e : Same H H1) : ∀ {vs : List V} {ds : List PyData}, DpAll K H vs ds → DpAll K H1 vs ds
  | _, _, .nil => .nil
  | _, _, .cons h t => .cons (dp_mono e h) (dpAll_mono e t)
end
/-- what is no list and no tuple -/
def NoSeq : HO → Prop
  | .lst _ => False
  | .tup _ => False
  | .frz _ _ => False
  | _ => True
theorem sqL_fr1 {xs : List V} (f : Fr1 t H H1) (ht : H t = some u) (n : NoSeq u) (h : SqL K H a xs) : SqL K H1 a xs := by
  rcases h with (h | ⟨o, h⟩) | h
  · refine .inl (.inl (f _ _ (fun e => ?_) h))
    rw [e, ht] at h; cases h; exact n
  · refine .inl (.inr ⟨o, f _ _ (fun e => ?_) h⟩)
    rw [e, ht] at h; cases h; exact n
  · exact .inr h
theorem sqT_fr1 {xs : List V} (f : Fr1 t H H1) (ht : H t = some u) (n : NoSeq u) (h : SqT K H a xs) : SqT K H1 a xs := by
  rcases h with (h | ⟨o, h⟩) | h
  · refine .inl (.inl (f _ _ (fun e => ?_) h))
    rw [e, ht] at h; cases h; exact n
  · refine .inl (.inr ⟨o, f _ _ (fun e => ?_) h⟩)
    rw [e, ht] at h; cases h; exact n
  · exact .inr h
mutual
theorem dp_fr1 (f : Fr1 t H H1) (ht : H t = some u) (n : NoSeq u) : ∀ {v : V} {d : PyData}, Dp K H v d → Dp K H1 v d
  | _, _, .non => .non
  | _, _, .bl b => .bl b
  | _, _, .int i => .int i
  | _, _, .str x => .str x
  | _, _, .lst h q => .lst (sqL_fr1 f ht n h) (dpAll_fr1 f ht n q)
  | _, _, .tup h q => .tup (sqT_fr1 f ht n h) (dpAll_fr1 f ht n q)
theorem dpAll_fr1 (f : Fr1 t H H1) (ht : H t = some u) (n : NoSeq u) : ∀ {vs : List V} {ds : List PyData}, DpAll K H vs ds → DpAll K H1 vs ds
  | _, _, .nil => .nil
  | _, _, .cons h q => .cons (dp_fr1 f ht n h) (dpAll_fr1 f ht n q)
end
theorem dpAll_len : ∀ {vs : List V} {ds : List PyData}, DpAll K H vs ds → vs.length = ds.length
  | _, _, .nil => rfl
  | _, _, .cons _ t => by rw [List.length_cons, List.length_cons, dpAll_len t]
theorem dpAll_get : ∀ {vs : List V} {ds : List PyData} {i : Nat} {d : PyData}, DpAll K H vs ds → ds[i]? = some d → ∃ v, vs[i]? = some v ∧ Dp K H v d
  | _, _, _, _, .nil, e => by simp at e
  | _, _, 0, _, .cons h _, e => by simp at e; subst e; exact ⟨_, rfl, h⟩
  | _, _, i + 1, _, .cons _ t, e => by
    obtain ⟨v, h1, h2⟩ := dpAll_get (i := i) t (by simpa using e)
    exact ⟨v, by simpa using h1, h2⟩
theorem dpAll_app : ∀ {vs ws : List V} {ds es : List PyData}, DpAll K H vs ds → DpAll K H ws es → DpAll K H (vs ++ ws) (ds ++ es)
  | _, _, _, _, .nil, h => h
  | _, _, _, _, .cons h t, q => .cons h (dpAll_app t q)
theorem dpAll_snoc {vs : List V} {ds : List PyData} (h : DpAll K H vs ds) (q : Dp K H v d) : DpAll K H (vs ++ [v]) (ds ++ [d]) := dpAll_app h (.cons q .nil)
theorem dpAll_ints : ∀ (ns : List Int), DpAll K H (ns.map V.int) (ns.map PyData.int)
  | [] => .nil
  | n :: ns => .cons (.int n) (dpAll_ints ns)
theorem dpAll_ints_of : ∀ {ns : List Int} {vs : List V}, DpAll K H vs (ns.map PyData.int) → vs = ns.map V.int
  | [], _, h => by cases h; rfl
  | n :: ns, _, h => by
    cases h with
    | cons h t => cases h; rw [dpAll_ints_of t]; rfl
theorem dp_int {n : Int} (h : Dp K H v (.int n)) : v = .int n := by cases h; rfl
theorem dp_lst {ds : List PyData} (h : Dp K H v (.list ds)) : ∃ a xs, v = .ref a ∧ SqL K H a xs ∧ DpAll K H xs ds := by cases h with | lst h t => exact ⟨_, _, rfl, h, t⟩
theorem dp_tup {ds : List PyData} (h : Dp K H v (.tuple ds)) : ∃ a xs, v = .ref a ∧ SqT K H a xs ∧ DpAll K H xs ds := by cases h with | tup h t => exact ⟨_, _, rfl, h, t⟩
end

/-! ### the bag -/
def BagAt (H : Hp) (p : Addr) : Prop := ∃ c m : Int, 0 ≤ c ∧ 0 ≤ m ∧ m < 2147483648 ∧ H p = some (.lst [.int c, .int m])
def spBag (K : PySem.W.Frag) : Sp := fun vs H Q _ => ∃ (a : Addr) (ns : List Int) (z : Nat), vs = [.ref a, .int z] ∧ SqL K H a (ns.map V.int) ∧ z ≤ 10 ∧ ns.length ≤ 63 ∧
  ∀ p H', H p = none → Same H H' → BagAt H' p → Q (.ref p) H'
def spTake : Sp := fun vs H Q _ => ∃ (p : Addr) (k : Int), vs = [.ref p, .int k] ∧ BagAt H p ∧ 0 < k ∧ k.natAbs < 2 ^ 200 ∧
  ∀ (d : Int) (c m : Int), 0 ≤ d → d < k → 0 ≤ c → 0 ≤ m → m < 2147483648 → Q (.int d) (upd H p (.lst [.int c, .int m]))

/-! ### readings, step by step -/
def SetAt {α : Type} (l : List α) (n : Nat) (x : α) (l' : List α) : Prop := l.set n x = l'
theorem setAt_z {α : Type} {a x : α} {l : List α} : SetAt (a :: l) 0 x (x :: l) := rfl
theorem setAt_s {α : Type} {a x : α} {l l' : List α} {n : Nat} (h : SetAt l n x l') : SetAt (a :: l) (n + 1) x (a :: l') := by
  have h' : l.set n x = l' := h
  show (a :: l).set (n + 1) x = a :: l'
  rw [List.set_cons_succ, h']
theorem sz_small {n : Nat} (h : n ≤ 1000) : n ≤ sizeLine := Nat.le_trans h (by decide)
namespace Rd
variable {σ σ' : L2.St} {H H1 : Hp} {Q : VK} {D : Ends} {ta tb te : TE} {tt t1 t2 : TT} {tar : TA} {r : R2} {x y v : V} {i j : Int} {n : Nat} {K : PySem.W.Frag} {p : Addr} {xs : List V} {s1 s2 : TS} {g : TG} {b : Bool}
theorem nxE {f : L2.St → Hp → Prop} {r : VK} {bk ct : L2.St → Hp → Prop} (h : f σ H) : (Ends.mk f r bk ct).nx σ H := h
theorem rtE {f : L2.St → Hp → Prop} {r : VK} {bk ct : L2.St → Hp → Prop} (h : r v H) : (Ends.mk f r bk ct).rt v H := h
theorem ctE {f : L2.St → Hp → Prop} {r : VK} {bk ct : L2.St → Hp → Prop} (h : ct σ H) : (Ends.mk f r bk ct).ct σ H := h
theorem bkE {f : L2.St → Hp → Prop} {r : VK} {bk ct : L2.St → Hp → Prop} (h : bk σ H) : (Ends.mk f r bk ct).bk σ H := h
theorem seq (h : s1 { D with nx := s2 D } σ H) : tSeq s1 s2 D σ H := h
theorem asg (h : te σ H fun x H1 => g x σ H1 D.nx) : tAsg te g D σ H := h
theorem gname {Qg : L2.St → Hp → Prop} (e : SetAt σ n (some v) σ') (h : Qg σ' H) : gName n v σ H Qg := by
  have e' : σ.set n (some v) = σ' := e
  subst e'; exact h
theorem ifS (h : tt σ H fun b H1 => if b = true then s1 D σ H1 else s2 D σ H1) : tIfS tt s1 s2 D σ H := h
theorem ret (h : te σ H D.rt) : tRet te D σ H := h
theorem retN (h : D.rt .non H) : tRetN D σ H := h
theorem drop (h : te σ H fun _ H1 => D.nx σ H1) : tDrop te D σ H := h
theorem next (h : D.nx σ H) : tNext D σ H := h
theorem var (e : σ[n]? = some (some v)) (h : Q v H) : tVar n σ H Q := ⟨v, e, h⟩
theorem c (h : Q v H) : tC v σ H Q := h
theorem op (h : ta σ H fun x H1 => tb σ H1 fun y H2 => r x y H2 Q) : tOp r ta tb σ H Q := h
theorem un {r : V → Hp → VK → Prop} (h : ta σ H fun x H1 => r x H1 Q) : tUn r ta σ H Q := h
theorem neg (h : Q (.int (-i)) H) : rU (fun i => .int (-i)) (.int i) H Q := ⟨i, rfl, h⟩
theorem i0 {g : Int → Int → V} (h : Q (g i j) H) : rI0 g (.int i) (.int j) H Q := ⟨i, j, rfl, rfl, h⟩
theorem ic {C : Int → Int → Prop} {g : Int → Int → V} (hc : C i j) (h : Q (g i j) H) : rI C g (.int i) (.int j) H Q := ⟨i, j, rfl, rfl, hc, h⟩
theorem yes {c A B : Prop} [Decidable c] (h : c) (k : A) : if c then A else B := by rw [if_pos h]; exact k
theorem no {c A B : Prop} [Decidable c] (h : ¬ c) (k : B) : if c then A else B := by rw [if_neg h]; exact k
theorem chain {r' : R2} {tc : TE} (h : ta σ H fun x H1 => tb σ H1 fun y H2 => r x y H2 fun z H3 => ∃ k, z = .bl k ∧ (if k = true then tc σ H3 fun w' H4 => r' y w' H4 Q else Q (.bl false) H3)) : tChain r r' ta tb tc σ H Q := h
theorem test {Qb : Bool → Hp → Prop} (h : te σ H fun x H' => ∃ k, x = .bl k ∧ Qb k H') : tTest te σ H Qb := h
theorem tB {Qb : Bool → Hp → Prop} (h : te σ H fun x H' => ∃ k, x = .bl k ∧ Qb k H') : L2.tB te σ H Qb := h
theorem bl {P : Bool → Prop} (h : P b) : ∃ k, V.bl b = .bl k ∧ P k := ⟨b, rfl, h⟩
theorem not {Qb : Bool → Hp → Prop} (h : tt σ H fun c H1 => Qb (!c) H1) : tNot tt σ H Qb := h
theorem and {Qb : Bool → Hp → Prop} (h : t1 σ H fun c H1 => if c = true then t2 σ H1 Qb else Qb false H1) : tAnd t1 t2 σ H Qb := h
theorem or {Qb : Bool → Hp → Prop} (h : t1 σ H fun c H1 => if c = true then Qb true H1 else t2 σ H1 Qb) : tOr t1 t2 σ H Qb := h
theorem andV (h : ta σ H fun x H1 => ∃ c, x = .bl c ∧ if c = true then tb σ H1 Q else Q (.bl false) H1) : tAndV ta tb σ H Q := h
theorem orV (h : ta σ H fun x H1 => ∃ c, x = .bl c ∧ if c = true then Q (.bl true) H1 else tb σ H1 Q) : tOrV ta tb σ H Q := h
theorem notV (h : ta σ H fun x H1 => ∃ c, x = .bl c ∧ Q (.bl (!c)) H1) : tNotV ta σ H Q := h
theorem ifE (h : tt σ H fun c H1 => if c = true then ta σ H1 Q else tb σ H1 Q) : tIf tt ta tb σ H Q := h
/-- what an expression gives, told by P alone -/
theorem cutE {P : V → Prop} (h1 : ∀ Q' : VK, (∀ v, P v → Q' v H) → te σ H Q') (h2 : ∀ v, P v → Q v H) : te σ H Q := h1 Q h2
theorem cutH {P : V → Hp → Prop} (h1 : ∀ Q' : VK, (∀ v H1, P v H1 → Q' v H1) → te σ H Q') (h2 : ∀ v H1, P v H1 → Q v H1) : te σ H Q := h1 Q h2
theorem nilA {Qa : List V → Hp → Prop} (h : Qa [] H) : tNil σ H Qa := h
theorem consA {Qa : List V → Hp → Prop} (h : ta σ H fun x H1 => tar σ H1 fun xs H2 => Qa (x :: xs) H2) : tCons ta tar σ H Qa := h
theorem cb {r : List V → Hp → VK → Prop} (h : tar σ H fun vs H1 => r vs H1 Q) : tCB r tar σ H Q := h
theorem int1 {P : Int → Prop} {P2 : Bool → Prop} (h : P i) : (∃ z, [V.int i] = [V.int z] ∧ P z) ∨ ∃ k, [V.int i] = [V.bl k] ∧ P2 k := .inl ⟨i, rfl, h⟩
theorem abs1 {P : Int → Prop} (h : P i) : ∃ z, [V.int i] = [V.int z] ∧ P z := ⟨i, rfl, h⟩
theorem ixL (h1 : SqL K H p xs) (h2 : atI xs i = some v) (h : Q v H) : rIxL K (.ref p) (.int i) H Q := ⟨p, xs, i, v, rfl, rfl, h1, h2, h⟩
theorem ixT (h1 : SqT K H p xs) (h2 : atI xs i = some v) (h : Q v H) : rIxT K (.ref p) (.int i) H Q := ⟨p, xs, i, v, rfl, rfl, h1, h2, h⟩
theorem ixA (h1 : SqL K H p xs) (h2 : atI xs i = some v) (h : Q v H) : rIx K (.ref p) (.int i) H Q := .inl (ixL h1 h2 h)
theorem ixB (h1 : SqT K H p xs) (h2 : atI xs i = some v) (h : Q v H) : rIx K (.ref p) (.int i) H Q := .inr (.inl (ixT h1 h2 h))
theorem gsub {to ti : TE} {t : TSet} {Qg : L2.St → Hp → Prop} (h : to σ H fun o H1 => ti σ H1 fun i H2 => t o i v H2 fun H3 => Qg σ H3) : gSub to ti t v σ H Qg := h
theorem setL {k : Nat} {ys : List V} {Qh : Hp → Prop} (h1 : H p = some (.lst xs)) (h2 : ixN xs.length i = some k) (h3 : SetAt xs k v ys) (h : Qh (upd H p (.lst ys))) : rSetL (.ref p) (.int i) v H Qh := ⟨p, xs, i, k, rfl, rfl, h1, h2, by rw [show xs.set k v = ys from h3]; exact h⟩
theorem par {a b : Nat} {v w : V} {σ1 : L2.St} {Qn : L2.St → Hp → Prop} (e1 : SetAt σ a (some v) σ1) (e : SetAt σ1 b (some w) σ') (h : Qn σ' H) : ∃ v' w', [v, w] = [v', w'] ∧ Qn ((σ.set a (some v')).set b (some w')) H :=
  ⟨v, w, rfl, by rw [show σ.set a (some v) = σ1 from e1, show σ1.set b (some w) = σ' from e]; exact h⟩
theorem tpar {a b : Nat} (h : tar σ H fun vs H1 => ∃ v w, vs = [v, w] ∧ D.nx ((σ.set a (some v)).set b (some w)) H1) : tPar a b tar D σ H := h
/-- a new object: at a free place, told by what stands there and by what is kept -/
def NewAt (H : Hp) (o : HO) (n : Nat) (k : Addr → Hp → Prop) : Prop := n ≤ sizeLine ∧ ∀ p, H p = none → k p (upd H p o)
theorem newAt {o : HO} {n : Nat} {k : Addr → Hp → Prop} (hz : n ≤ sizeLine) (h : ∀ p H2, H p = none → Same H H2 → H2 p = some o → k p H2) : NewAt H o n k := ⟨hz, fun p np => h p _ np (same_upd np) upd_same⟩
theorem ttup (h : tar σ H fun xs H1 => NewAt H1 (.tup xs) xs.length fun p H2 => Q (.ref p) H2) : tTup tar σ H Q := h
theorem tlst (h : tar σ H fun xs H1 => NewAt H1 (.lst xs) xs.length fun p H2 => Q (.ref p) H2) : tLst tar σ H Q := h
theorem eqD {d e : PyData} (h1 : Dp K H x d) (h2 : Dp K H y e) (s1 : SeqAt.shaped d = true) (s2 : SeqAt.shaped e = true) (h : Q (.bl (PyData.eqv d e)) H) : rEqD K x y H Q := ⟨d, e, h1, h2, s1, s2, h⟩
theorem neD {d e : PyData} (h1 : Dp K H x d) (h2 : Dp K H y e) (s1 : SeqAt.shaped d = true) (s2 : SeqAt.shaped e = true) (h : Q (.bl (!PyData.eqv d e)) H) : rNeD K x y H Q := ⟨d, e, h1, h2, s1, s2, h⟩
theorem inD {d : PyData} {ds : List PyData} (h1 : Dp K H x d) (h2 : Dp K H y (.list ds)) (s1 : SeqAt.shaped d = true) (s2 : SeqAt.shaped (.list ds) = true) (h : Q (.bl (ds.any fun z => PyData.eqv z d)) H) : rInD K x y H Q := ⟨d, ds, h1, h2, s1, s2, h⟩
theorem notInD {d : PyData} {ds : List PyData} (h1 : Dp K H x d) (h2 : Dp K H y (.list ds)) (s1 : SeqAt.shaped d = true) (s2 : SeqAt.shaped (.list ds) = true) (h : Q (.bl (!ds.any fun z => PyData.eqv z d)) H) : rNotInD K x y H Q := ⟨d, ds, h1, h2, s1, s2, h⟩
theorem tyes {Qb : Bool → Hp → Prop} (h : Qb true H) : tYes σ H Qb := h
theorem wp {vs : List Nat} {P : Prop} (e : wipe σ vs = wipe σ' vs) (h : P) : wipe σ vs = wipe σ' vs ∧ P := ⟨e, h⟩
theorem isN {P : Prop} (h : P) : (V.non = V.non ∧ P) := ⟨rfl, h⟩
theorem noN {k : Int} {A B : Prop} (h : B) : if decide (V.int k = V.non) = true then A else B := no (fun z => by cases of_decide_eq_true z) h
theorem noNr {k : Addr} {A B : Prop} (h : B) : if decide (V.ref k = V.non) = true then A else B := no (fun z => by cases of_decide_eq_true z) h
theorem yesN {A B : Prop} (h : A) : if decide (V.non = V.non) = true then A else B := yes (decide_eq_true rfl) h
theorem yesI {k : Int} {A B : Prop} (h : A) : if (!decide (V.int k = V.non)) = true then A else B := yes (by rw [decide_eq_false (fun z => by cases z)]; rfl) h
theorem yesR {k : Addr} {A B : Prop} (h : A) : if (!decide (V.ref k = V.non)) = true then A else B := yes (by rw [decide_eq_false (fun z => by cases z)]; rfl) h
theorem noNN {A B : Prop} (h : B) : if (!decide (V.non = V.non)) = true then A else B := no (by rw [decide_eq_true rfl]; exact Bool.false_ne_true) h
theorem call {sp : Sp} {dvs : List V} {E : XK} (h : tar σ H fun vs H1 => sp (vs ++ dvs) H1 Q E) : tCall sp dvs E tar σ H Q := h
theorem sl {r : V → Option Int → Option Int → Hp → VK → Prop} {tl th : TO} (h : te σ H fun x H1 => tl σ H1 fun l H2 => th σ H2 fun u H3 => r x l u H3 Q) : tSl r te tl th σ H Q := h
theorem noPart {Qo : Option Int → Hp → Prop} (h : Qo none H) : tNoPart σ H Qo := h
theorem part {Qo : Option Int → Hp → Prop} (h : te σ H fun x H1 => ∃ i, x = .int i ∧ Qo (some i) H1) : tPart te σ H Qo := h
theorem ex_int {Qo : Int → Prop} (h : Qo i) : ∃ z, V.int i = .int z ∧ Qo z := ⟨i, rfl, h⟩
theorem slL {lo hi : Option Int} (h1 : SqL K H p xs) (h : ∀ q H1, H q = none → Same H H1 → H1 q = some (.lst (cutV xs lo hi)) → Q (.ref q) H1) : rSlL K (.ref p) lo hi H Q :=
  ⟨p, xs, rfl, h1, fun q n => h q _ n (same_upd n) upd_same⟩
theorem bm {T : String} {r : V → List V → Hp → VK → Prop} (h : te σ H fun x H1 => tyV K T x H1 ∧ tar σ H1 fun xs H2 => r x xs H2 Q) : tBM K T r te tar σ H Q := h
theorem tyL (h : H p = some (.lst xs)) : tyV K "list" (.ref p) H := Or.inl ⟨rfl, _, Or.inl (Or.inl h)⟩
theorem tyLs (h : SqL K H p xs) : tyV K "list" (.ref p) H := Or.inl ⟨rfl, _, h⟩
theorem app (h1 : H p = some (.lst xs)) (h2 : xs.length < sizeLine) (h : Q .non (upd H p (.lst (xs ++ [v])))) : rAppend (.ref p) [v] H Q := ⟨p, xs, v, rfl, rfl, h1, h2, h⟩
theorem lenL {P : Nat → Prop} (h1 : SqL K H p xs) (h : P xs.length) : ∃ x n, [V.ref p] = [x] ∧ LenV K x H n ∧ P n := ⟨_, _, rfl, .inl ⟨xs, h1, rfl⟩, h⟩
theorem lenT {P : Nat → Prop} (h1 : SqT K H p xs) (h : P xs.length) : ∃ x n, [V.ref p] = [x] ∧ LenV K x H n ∧ P n := ⟨_, _, rfl, .inr ⟨xs, h1, rfl⟩, h⟩
theorem tfor {wi : TI} {g : TG} {tb : TS} (h : wi σ H fun J H1 => ∃ W : Nat → Nat → L2.St → Hp → Prop, (∃ m, W 0 m σ H1) ∧ ∀ i m σ H, W i m σ H →
  (J.stop i H ∧ D.nx σ H) ∨ (J.go i H ∧ ∃ N : L2.St → Hp → Prop, (∀ σ' H', N σ' H' → ∃ m', m' < m ∧ W (i + 1) m' σ' H') ∧ ∀ x H', J.yld i H x H' → g x σ H' fun σ2 H2 => tb { D with nx := N, ct := N, bk := D.nx } σ2 H2)) : tFor wi g tb D σ H := h
theorem enum {ta : TA} {R : It → Hp → Prop} (h : ta σ H fun vs H1 => ∃ a xs, vs = [.ref a] ∧ SqL K H1 a xs ∧ R (Ite K a) H1) : iEnum K ta σ H R := h
theorem enumAt {P : Addr → Prop} (h1 : SqL K H p xs) (h : P p) : ∃ a ys, [V.ref p] = [.ref a] ∧ SqL K H a ys ∧ P a := ⟨p, xs, rfl, h1, h⟩
theorem rng1 {ta : TA} {R : It → Hp → Prop} (h : ta σ H fun vs H1 => ∃ j : Int, vs = [.int j] ∧ -(2 ^ 62) ≤ j ∧ j < 2 ^ 62 ∧ R (Itr 0 j.toNat) H1) : iRng1 ta σ H R := h
theorem rng1At {P : Int → Prop} (h1 : -(2 ^ 62) ≤ i) (h2 : i < 2 ^ 62) (h : P i) : ∃ j : Int, [V.int i] = [.int j] ∧ -(2 ^ 62) ≤ j ∧ j < 2 ^ 62 ∧ P j := ⟨i, rfl, h1, h2, h⟩
theorem rng2 {ta : TA} {R : It → Hp → Prop} (h : ta σ H fun vs H1 => ∃ i j : Int, vs = [.int i, .int j] ∧ (-(2 ^ 62) ≤ i ∧ i < 2 ^ 62 ∧ -(2 ^ 62) ≤ j ∧ j < 2 ^ 62) ∧ R (Itr i (j - i).toNat) H1) : iRng2 ta σ H R := h
theorem ilist {R : It → Hp → Prop} (h : te σ H fun x H1 => ∃ a, x = .ref a ∧ (∃ xs, SqL K H1 a xs) ∧ R (Itl K a) H1) : iList K te σ H R := h
theorem itup {R : It → Hp → Prop} (h : te σ H fun x H1 => ∃ a, x = .ref a ∧ (∃ xs, SqT K H1 a xs) ∧ R (Itt K a) H1) : iTup K te σ H R := h
theorem ilistAt {P : Addr → Prop} (h1 : SqL K H p xs) (h : P p) : ∃ a, V.ref p = .ref a ∧ (∃ ys, SqL K H a ys) ∧ P a := ⟨p, rfl, ⟨xs, h1⟩, h⟩
theorem itupAt {P : Addr → Prop} (h1 : SqT K H p xs) (h : P p) : ∃ a, V.ref p = .ref a ∧ (∃ ys, SqT K H a ys) ∧ P a := ⟨p, rfl, ⟨xs, h1⟩, h⟩
theorem gtup {t : TGs} {Qg : L2.St → Hp → Prop} (h1 : SqT K H p xs) (h2 : xs.length = n) (h : t xs σ H Qg) : gTup K n t (.ref p) σ H Qg := ⟨p, xs, rfl, h1, h2, h⟩
theorem gcons {t : TG} {u : TGs} {Qg : L2.St → Hp → Prop} (h : t v σ H fun σ' H' => u xs σ' H' Qg) : gCons t u (v :: xs) σ H Qg := ⟨v, xs, rfl, h⟩
theorem gnil {Qg : L2.St → Hp → Prop} (h : Qg σ H) : gNil [] σ H Qg := ⟨rfl, h⟩
theorem fld {a C dx : Addr} {fs : List (Str × V)} {f : Str} {P : V → Prop} (e : H a = some (.ins C dx fs)) (c : Cls K C) (n : NoAttr K C f) (l : fs.lookup f = some v) (h : P v) :
    ∃ a' C dx fs v', V.ref a = .ref a' ∧ H a' = some (.ins C dx fs) ∧ Cls K C ∧ NoAttr K C f ∧ fs.lookup f = some v' ∧ P v' := ⟨a, C, dx, fs, v, rfl, e, c, n, l, h⟩
theorem tfld {f : Str} (h : te σ H fun x H1 => ∃ a C dx fs v, x = .ref a ∧ H1 a = some (.ins C dx fs) ∧ Cls K C ∧ NoAttr K C f ∧ fs.lookup f = some v ∧ Q v H1) : tFld K te f σ H Q := h
end Rd

/-! ### comprehensions -/
section
variable {J : It} {n : Nat} {G : Hp → Prop} {Y : Nat → Hp → V → Hp → Prop} {g : TG} {tt : TT} {te : TE} {vs : List Nat} {σ : L2.St} {H : Hp} {D : Addr} {Qd : Hp → Prop} {K : PySem.W.Frag}
/-- what a comprehension's loop asks, its new list at D -/
def LcAt (J : It) (H : Hp) (D : Addr) (g : TG) (tt : TT) (te : TE) (vs : List Nat) (σ : L2.St) (Qd : Hp → Prop) : Prop :=
  ∃ W : Nat → Nat → Hp → Prop, (∃ m, W 0 m (upd H D (.lst []))) ∧ ∀ i m H, W i m H →
      (J.stop i H ∧ Qd H) ∨ (J.go i H ∧ ∃ Nx : Hp → Prop, (∀ H', Nx H' → ∃ m', m' < m ∧ W (i + 1) m' H') ∧ ∀ x H', J.yld i H x H' → g x (wipe σ vs) H' fun σ2 H2 => wipe σ2 vs = wipe σ vs ∧ tt σ2 H2 fun b H3 =>
        if b = true then te σ2 H3 fun y H4 => ∃ acc, H4 D = some (.lst acc) ∧ acc.length < sizeLine ∧ Nx (upd H4 D (.lst (acc ++ [y]))) else Nx H3)
theorem Rd.tlc {wi : TI} {Q : VK} (h : wi σ H fun J H1 => ∀ D, H1 D = none → LcAt J H1 D g tt te vs σ fun H' => Q (.ref D) H') : tLc wi g tt te vs σ H Q := h
/-- elements that are values known ahead -/
theorem lcV (w : Walk J n G Y) (out : Nat → Option V) (hD : H D = none) (hn : n < sizeLine) (hG : ∀ H2, Same H H2 → G H2)
    (step : ∀ i x H1 H2, i < n → Same H H1 → Y i H1 x H2 → Same H1 H2 ∧ ∀ (yes : V → Hp → Prop) (no : Hp → Prop), (∀ y H3, out i = some y → Same H2 H3 → yes y H3) → (∀ H3, out i = none → Same H2 H3 → no H3) →
      g x (wipe σ vs) H2 fun σ2 H3 => wipe σ2 vs = wipe σ vs ∧ tt σ2 H3 fun b H4 => if b = true then te σ2 H4 yes else no H4)
    (hQ : ∀ H', Same H H' → H' D = some (.lst ((List.range n).filterMap out)) → Qd H') :
    LcAt J H D g tt te vs σ Qd := by
  refine lc_it w (fun i H2 => Same H H2 ∧ H2 D = some (.lst ((List.range i).filterMap out))) ⟨same_upd hD, upd_same⟩ (fun i H2 _ p => hG H2 p.1) ?_ (fun H2 p => hQ H2 p.1 p.2)
  rintro i x H1 H2 hi ⟨s1, e1⟩ y
  obtain ⟨s2, st⟩ := step i x H1 H2 hi s1 y
  have e2 := s2 _ _ e1
  have fr : ∀ {H3 : Hp} {o : HO}, Same H2 H3 → Same H (upd H3 D o) := fun {H3 o} s3 b u e => by
    rw [upd_ne (ne_of_none e hD)]
    exact s3 b u (s2 b u (s1 b u e))
  refine st _ _ (fun z H3 ez s3 => ⟨_, s3 _ _ e2, ?_, fr s3, ?_⟩) (fun H3 ez s3 => ⟨(s1.trans s2).trans s3, ?_⟩)
  · refine Nat.lt_of_le_of_lt (List.length_filterMap_le _ _) ?_
    rw [List.length_range]; omega
  · rw [upd_same, List.range_succ, List.filterMap_append]
    simp [ez]
  · rw [s3 _ _ e2, List.range_succ, List.filterMap_append]
    simp [ez]
/-- elements that are data -/
theorem lcD (w : Walk J n G Y) (out : Nat → Option PyData) (hD : H D = none) (hn : n < sizeLine) (hG : ∀ H2, Same H H2 → G H2)
    (step : ∀ i x H1 H2, i < n → Same H H1 → D ∉ ([] : List Addr) → Y i H1 x H2 → Same H1 H2 ∧ ∀ (yes : V → Hp → Prop) (no : Hp → Prop), (∀ y d H3, out i = some d → Same H2 H3 → Dp K (hid [D] H3) y d → yes y H3) → (∀ H3, out i = none → Same H2 H3 → no H3) → OkS [D] H2 →
      g x (wipe σ vs) H2 fun σ2 H3 => wipe σ2 vs = wipe σ vs ∧ tt σ2 H3 fun b H4 => if b = true then te σ2 H4 yes else no H4)
    (hQ : ∀ H' ys, Same H H' → H' D = some (.lst ys) → DpAll K (hid [D] H') ys ((List.range n).filterMap out) → Qd H') :
    LcAt J H D g tt te vs σ Qd := by
  refine lc_it w (fun i H2 => Same H H2 ∧ ∃ ys, H2 D = some (.lst ys) ∧ DpAll K (hid [D] H2) ys ((List.range i).filterMap out)) ⟨same_upd hD, [], upd_same, .nil⟩ (fun i H2 _ p => hG H2 p.1) ?_
    (fun H2 ⟨p1, ys, p2, p3⟩ => hQ H2 ys p1 p2 p3)
  rintro i x H1 H2 hi ⟨s1, ys, e1, dy⟩ y
  obtain ⟨s2, st⟩ := step i x H1 H2 hi s1 (by simp) y
  have e2 := s2 _ _ e1
  have ok2 : OkS [D] H2 := OkS.nil.cons e2
  have fr : ∀ {H3 : Hp} {o : HO}, Same H2 H3 → Same H (upd H3 D o) := fun {H3 o} s3 b u e => by
    rw [upd_ne (ne_of_none e hD)]
    exact s3 b u (s2 b u (s1 b u e))
  have kp : ∀ {H3 : Hp}, Same H2 H3 → DpAll K (hid [D] H3) ys ((List.range i).filterMap out) := fun {H3} s3 => dpAll_mono (Same.hid (s2.trans s3)) dy
  refine st _ _ (fun z d H3 ez s3 dz => ⟨_, s3 _ _ e2, ?_, fr s3, _, upd_same, ?_⟩) (fun H3 ez s3 => ⟨(s1.trans s2).trans s3, ys, s3 _ _ e2, ?_⟩) ok2
  · have h1 := dpAll_len dy
    rw [h1]
    refine Nat.lt_of_le_of_lt (List.length_filterMap_le _ _) ?_
    rw [List.length_range]; omega
  · rw [hid_mut List.mem_cons_self, List.range_succ, List.filterMap_append]
    have q := dpAll_snoc (kp s3) dz
    simpa [ez] using q
  · have q := kp s3
    rw [List.range_succ, List.filterMap_append]
    simpa [ez] using q
end
theorem wipe_ne {σ : L2.St} : wipe σ [] = σ := rfl

/-! ### rows -/
abbrev Row := Int × Option Int
def optD : Option Int → PyData
  | none => .none
  | some q => .int q
def optV : Option Int → V
  | none => .non
  | some q => .int q
def rowD (r : Row) : PyData := .tuple [.int r.1, optD r.2]
def keysOf (rows : List Row) : List Int := rows.map Prod.fst
def bigK : Int := 10 ^ 30
def keyD : PyData → Bool
  | .int k => decide (-bigK < k) && decide (k < bigK)
  | _ => false
def hasK (rows : List Row) : PyData → Bool
  | .int k => (decide (-bigK < k) && decide (k < bigK)) && decide (k ∈ keysOf rows)
  | _ => false
section
variable {K : PySem.W.Frag} {H H1 : Hp} {a t : Addr} {v : V} {rows : List Row}
def RowsAt (K : PySem.W.Frag) (H : Hp) (a : Addr) (rows : List Row) : Prop := ∃ xs, SqL K H a xs ∧ DpAll K H xs (rows.map rowD)
theorem dp_opt {o : Option Int} (h : Dp K H v (optD o)) : v = optV o := by
  cases o with
  | none => cases h; rfl
  | some q => cases h; rfl
theorem optV_dp (o : Option Int) : Dp K H (optV o) (optD o) := by
  cases o with
  | none => exact .non
  | some q => exact .int q
theorem dp_row {r : Row} (h : Dp K H v (rowD r)) : ∃ b, v = .ref b ∧ SqT K H b [.int r.1, optV r.2] := by
  obtain ⟨b, xs, rfl, hs, hd⟩ := dp_tup h
  cases hd with
  | cons h1 t1 =>
    cases t1 with
    | cons h2 t2 =>
      cases t2
      have e1 := dp_int h1
      have e2 := dp_opt h2
      subst e1 e2
      exact ⟨b, rfl, hs⟩
theorem row_dp {r : Row} {b : Addr} (h : SqT K H b [.int r.1, optV r.2]) : Dp K H (.ref b) (rowD r) := .tup h (.cons (.int _) (.cons (optV_dp _) .nil))
theorem rows_mono (e : Same H H1) (h : RowsAt K H a rows) : RowsAt K H1 a rows := let ⟨xs, h1, h2⟩ := h; ⟨xs, e.seq h1, dpAll_mono e h2⟩
theorem rows_fr1 {u : HO} (f : Fr1 t H H1) (ht : H t = some u) (n : NoSeq u) (h : RowsAt K H a rows) : RowsAt K H1 a rows := let ⟨xs, h1, h2⟩ := h; ⟨xs, sqL_fr1 f ht n h1, dpAll_fr1 f ht n h2⟩
theorem rows_dp (h : RowsAt K H a rows) : Dp K H (.ref a) (.list (rows.map rowD)) := let ⟨_, h1, h2⟩ := h; .lst h1 h2
theorem dp_rows (h : Dp K H (.ref a) (.list (rows.map rowD))) : RowsAt K H a rows := by
  cases h with
  | lst h1 h2 => exact ⟨_, h1, h2⟩
theorem rows_len (h : RowsAt K H a rows) : ∃ xs, SqL K H a xs ∧ xs.length = rows.length := by
  obtain ⟨xs, h1, h2⟩ := h
  exact ⟨xs, h1, by rw [dpAll_len h2, List.length_map]⟩
theorem rows_at {i : Nat} {r : Row} {xs : List V} (h : DpAll K H xs (rows.map rowD)) (e : rows[i]? = some r) : ∃ b, xs[i]? = some (.ref b) ∧ SqT K H b [.int r.1, optV r.2] := by
  obtain ⟨x, h1, h2⟩ := dpAll_get (i := i) (d := rowD r) h (by rw [List.getElem?_map, e]; rfl)
  obtain ⟨b, rfl, h3⟩ := dp_row h2
  exact ⟨b, h1, h3⟩
end
/-! ### lists of ints -/
theorem eqv_int (i j : Int) : PyData.eqv (.int i) (.int j) = decide (i = j) := by
  show (i == j) = _
  rw [Bool.beq_eq_decide_eq]
theorem any_ints (ks : List Int) (k : Int) : ((ks.map PyData.int).any fun z => PyData.eqv z (.int k)) = decide (k ∈ ks) := by
  induction ks with
  | nil => rfl
  | cons a r ih =>
    rw [List.map_cons, List.any_cons, ih, eqv_int, Bool.eq_iff_iff, Bool.or_eq_true, decide_eq_true_iff, decide_eq_true_iff, decide_eq_true_iff, List.mem_cons]
    exact ⟨fun z => z.imp Eq.symm id, fun z => z.imp Eq.symm id⟩
theorem any_ints_none (ks : List Int) : ((ks.map PyData.int).any fun z => PyData.eqv z .none) = false := by
  induction ks with
  | nil => rfl
  | cons a r ih =>
    rw [List.map_cons, List.any_cons, ih, Bool.or_false]
    rfl
theorem shaped_int (i : Int) : SeqAt.shaped (.int i) = true := by simp [SeqAt.shaped, PyData.canLay0, PyData.depth]
theorem shaped_none : SeqAt.shaped .none = true := by simp [SeqAt.shaped, PyData.canLay0, PyData.depth]
theorem shaped_bool (b : Bool) : SeqAt.shaped (.bool b) = true := by simp [SeqAt.shaped, PyData.canLay0, PyData.depth]
theorem shaped_str {x : Str} (h : PyData.strOk x = true) : SeqAt.shaped (.str x) = true := by simp [SeqAt.shaped, PyData.canLay0, PyData.depth, h]
/-- data whose nesting is at most n, that can be laid -/
def ShN (n : Nat) (d : PyData) : Prop := d.canLay0 = true ∧ d.depth ≤ n
theorem shN_ints (ks : List Int) : ∀ d ∈ ks.map PyData.int, ShN 0 d := fun d h => by
  obtain ⟨i, _, rfl⟩ := List.mem_map.mp h
  exact ⟨by simp [PyData.canLay0], by simp [PyData.depth]⟩
theorem all_sh {n : Nat} : ∀ {ds : List PyData}, (∀ d ∈ ds, ShN n d) → PyData.canLayAll0 ds = true ∧ PyData.depthAll ds ≤ n
  | [], _ => ⟨by simp [PyData.canLayAll0], by simp [PyData.depthAll]⟩
  | d :: ds, h => by
    obtain ⟨h1, h2⟩ := h d List.mem_cons_self
    obtain ⟨h3, h4⟩ := all_sh (ds := ds) fun z hz => h z (List.mem_cons_of_mem _ hz)
    exact ⟨by simp [PyData.canLayAll0, h1, h3], by simp only [PyData.depthAll]; omega⟩
theorem shN_list {n : Nat} {ds : List PyData} (h : ∀ d ∈ ds, ShN n d) : ShN (n + 1) (.list ds) := by
  obtain ⟨h1, h2⟩ := all_sh h
  exact ⟨by simpa [PyData.canLay0] using h1, by simp only [PyData.depth]; omega⟩
theorem shN_tuple {n : Nat} {ds : List PyData} (h : ∀ d ∈ ds, ShN n d) : ShN (n + 1) (.tuple ds) := by
  obtain ⟨h1, h2⟩ := all_sh h
  exact ⟨by simpa [PyData.canLay0] using h1, by simp only [PyData.depth]; omega⟩
theorem shN_le {n m : Nat} {d : PyData} (h : ShN n d) (q : n ≤ m) : ShN m d := ⟨h.1, Nat.le_trans h.2 q⟩
theorem shaped_of {n : Nat} {d : PyData} (h : ShN n d) (q : n ≤ 64) : SeqAt.shaped d = true := by
  show (d.canLay0 && decide (d.depth ≤ 64)) = true
  rw [h.1, Bool.true_and]
  exact decide_eq_true (Nat.le_trans h.2 q)
theorem shaped_ints (ks : List Int) : SeqAt.shaped (.list (ks.map PyData.int)) = true := shaped_of (shN_list (shN_ints ks)) (by decide)
theorem filterMap_range {α β : Type} (l : List α) (f : α → β) : (List.range l.length).filterMap (fun i => l[i]?.map f) = l.map f := by
  have e : ∀ n, n ≤ l.length → (List.range n).filterMap (fun i => l[i]?.map f) = (l.take n).map f := by
    intro n
    induction n with
    | zero => intro _; rfl
    | succ n ih =>
      intro hn
      have hlt : n < l.length := by omega
      rw [List.range_succ, List.filterMap_append, ih (by omega), List.take_add_one, List.map_append, List.getElem?_eq_getElem hlt]
      simp [hlt]
  rw [e l.length (Nat.le_refl _), List.take_length]
theorem vals_keys (rows : List Row) : rows.map (fun r => V.int r.1) = (keysOf rows).map V.int := by
  unfold keysOf
  rw [List.map_map]; rfl
theorem idxOf_le (ks : List Int) (k : Int) : ∀ m, ks[m]? = some k → ks.idxOf k ≤ m := by
  induction ks with
  | nil => intro m h; cases h
  | cons a t ih =>
    intro m h
    rw [List.idxOf_cons]
    by_cases e : a = k
    · rw [show (a == k) = true from by rw [e]; exact beq_self_eq_true k]
      exact Nat.zero_le _
    · rw [show (a == k) = false from by simpa using e]
      cases m with
      | zero => exact absurd (Option.some.inj h) e
      | succ m => exact Nat.succ_le_succ (ih m h)
/-- the place of a key -/
def idxK (rows : List Row) (k : Int) : Nat := (keysOf rows).idxOf k
theorem idxK_lt {rows : List Row} {k : Int} (h : k ∈ keysOf rows) : idxK rows k < rows.length := by
  have := List.idxOf_lt_length_of_mem h
  unfold idxK
  unfold keysOf at this ⊢
  rwa [List.length_map] at this
namespace Rd
theorem ty {K : PySem.W.Frag} {H : Hp} {p : Addr} {xs : List V} {P : Prop} (h1 : SqL K H p xs) (h : P) : tyV K "list" (.ref p) H ∧ P := ⟨tyLs h1, h⟩
theorem indexI {K : PySem.W.Frag} {H : Hp} {p : Addr} {ks : List Int} {k : Int} {Q : VK} (h1 : SqL K H p (ks.map V.int)) (hk : k ∈ ks) (h : Q (.int (ks.idxOf k : Nat)) H) : rIndexD K (.ref p) [.int k] H Q := by
  have hlt := List.idxOf_lt_length_of_mem hk
  refine ⟨p, .int k, .int k, ks.map PyData.int, ks.idxOf k, .int k, rfl, rfl, .lst h1 (dpAll_ints _), .int k, shaped_ints _, shaped_int _, ?_, ?_, ?_, h⟩
  · rw [List.getElem?_map, List.getElem?_eq_getElem hlt, List.getElem_idxOf]
    rfl
  · rw [eqv_int, decide_eq_true rfl]
  · intro m z' hm hz
    rw [List.getElem?_map] at hz
    have hml : m < ks.length := by omega
    rw [List.getElem?_eq_getElem hml] at hz
    have e : PyData.int ks[m] = z' := Option.some.inj hz
    rw [← e, eqv_int]
    refine decide_eq_false fun q => ?_
    have : ks.idxOf k ≤ m := by
      have := idxOf_le ks k m (by rw [List.getElem?_eq_getElem hml, q])
      exact this
    omega
end Rd
theorem dpAll_take {K : PySem.W.Frag} {H : Hp} : ∀ {vs : List V} {ds : List PyData} (n : Nat), DpAll K H vs ds → DpAll K H (vs.take n) (ds.take n)
  | _, _, 0, _ => by rw [List.take_zero, List.take_zero]; exact .nil
  | _, _, _ + 1, .nil => .nil
  | _, _, n + 1, .cons h t => .cons h (dpAll_take n t)
theorem dpAll_drop {K : PySem.W.Frag} {H : Hp} : ∀ {vs : List V} {ds : List PyData} (n : Nat), DpAll K H vs ds → DpAll K H (vs.drop n) (ds.drop n)
  | _, _, 0, h => by rw [List.drop_zero, List.drop_zero]; exact h
  | _, _, _ + 1, .nil => .nil
  | _, _, n + 1, .cons _ t => dpAll_drop n t
theorem cut_to {xs : List V} {n : Nat} : cutV xs none (some (n : Int)) = xs.take n := by
  unfold cutV
  rw [HT.sIx_none, HT.sIx_nat, List.drop_zero, Nat.sub_zero]
  by_cases h : n ≤ xs.length
  · rw [Nat.min_eq_left h]
  · rw [Nat.min_eq_right (by omega), List.take_length, List.take_of_length_le (by omega)]
theorem cut_from {xs : List V} {n : Nat} (h : n ≤ xs.length) : cutV xs (some (n : Int)) none = xs.drop n := by
  unfold cutV
  rw [HT.sIx_none, HT.sIx_nat, Nat.min_eq_left h]
  exact List.take_of_length_le (by rw [List.length_drop]; omega)
theorem cut_mid {xs : List V} {a b : Nat} (h : a ≤ b) (hb : b ≤ xs.length) : cutV xs (some (a : Int)) (some (b : Int)) = (xs.drop a).take (b - a) := by
  unfold cutV
  rw [HT.sIx_nat, HT.sIx_nat, Nat.min_eq_left hb, Nat.min_eq_left (by omega)]
theorem same_get {H H1 : Hp} {a : Addr} {o : HO} (s : Same H H1) (h : H a = some o) : H1 a = some o := s _ _ h
theorem dp_non {K : PySem.W.Frag} {H : Hp} {v : V} {d : PyData} (h : Dp K H v d) : v = .non ↔ d = .none := by
  cases h <;> (refine ⟨fun z => ?_, fun z => ?_⟩ <;> first | rfl | cases z)
namespace Rd
variable {K : PySem.W.Frag} {H H1 : Hp} {Q : VK} {σ : L2.St} {p l b a C dx : Addr} {xs zs : List V} {D : Ends}
theorem cat (h1 : H l = some (.lst xs)) (h2 : H b = some (.lst zs)) (hz : xs.length + zs.length ≤ sizeLine) (h : ∀ p H1, H p = none → Same H H1 → H1 p = some (.lst (xs ++ zs)) → Q (.ref p) H1) : rCat (.ref l) (.ref b) H Q :=
  ⟨l, b, xs, zs, rfl, rfl, h1, h2, hz, fun p n => h p _ n (same_upd n) upd_same⟩
theorem sfld {ta tv : TE} {f : Str} (h : tv σ H fun y H1 => ta σ H1 fun x H2 => ∃ a C dx fs, x = .ref a ∧ H2 a = some (.ins C dx fs) ∧ Cls K C ∧ NoAttr K C f ∧ fs.length < 1000 ∧ D.nx σ (upd H2 a (.ins C dx (putF f y fs)))) : sFld K ta tv f D σ H := h
theorem sput {f : Str} {fs fs' : List (Str × V)} {y : V} {P : Hp → Prop} (e : H a = some (.ins C dx fs)) (c : Cls K C) (n : NoAttr K C f) (hl : fs.length < 1000) (hp : putF f y fs = fs') (h : ∀ H1, Fr1 a H H1 → H1 a = some (.ins C dx fs') → P H1) :
    ∃ a' C dx fs, V.ref a = .ref a' ∧ H a' = some (.ins C dx fs) ∧ Cls K C ∧ NoAttr K C f ∧ fs.length < 1000 ∧ P (upd H a' (.ins C dx (putF f y fs))) :=
  ⟨a, C, dx, fs, rfl, e, c, n, hl, by rw [hp]; exact h _ fr1_upd upd_same⟩
theorem meth {m : Str} {sp : Sp} {dvs : List V} {E : XK} {ta : TE} {t : TA} (h : ta σ H fun x H1 => ∃ a dx fs, x = .ref a ∧ H1 a = some (.ins C dx fs) ∧ fs.lookup m = none ∧ t σ H1 fun vs H2 => sp (x :: (vs ++ dvs)) H2 Q E) : tMeth C m sp dvs E ta t σ H Q := h
theorem methAt {m : Str} {fs : List (Str × V)} {P : Prop} (e : H a = some (.ins C dx fs)) (l : fs.lookup m = none) (h : P) : ∃ a' dx fs, V.ref a = .ref a' ∧ H a' = some (.ins C dx fs) ∧ fs.lookup m = none ∧ P := ⟨a, dx, fs, rfl, e, l, h⟩
theorem make {sp : Sp} {dvs : List V} {E : XK} {t : TA} (h : t σ H fun vs H1 => ∀ x dx, H1 x = none → H1 dx = none → dx ≠ x → sp (.ref x :: (vs ++ dvs)) (upd (upd H1 dx (.own x)) x (.ins C dx [])) (fun v H2 => v = .non ∧ Q (.ref x) H2) E) : tMake C sp dvs E t σ H Q := h
theorem propAt {fs : List (Str × V)} {P : Addr → Prop} (e : H a = some (.ins C dx fs)) (h : P a) : ∃ a' dx fs, V.ref a = .ref a' ∧ H a' = some (.ins C dx fs) ∧ P a' := ⟨a, dx, fs, rfl, e, h⟩
theorem tup1 {P : Prop} (h : P) : P := h
end Rd
/-- the type's name of data -/
def tyD : PyData → String
  | .none => "NoneType"
  | .bool _ => "bool"
  | .int _ => "int"
  | .str _ => "str"
  | .list _ => "list"
  | .tuple _ => "tuple"
  | .dict _ => "dict"
theorem ty_dp {K : PySem.W.Frag} {H : Hp} {v : V} {d : PyData} (h : Dp K H v d) : TyX K H v (.type (tyD d)) := by
  cases h with
  | non => exact .base .non
  | bl b => exact .base (.bl b)
  | int i => exact .base (.int i)
  | str x => exact .base (.str x)
  | lst hs _ =>
    rcases hs with (h | ⟨o, h⟩) | ⟨o, its, n, h, hc, _⟩
    · exact .base (.lst h)
    · exact .base (.frz h)
    · exact .kList h hc
  | tup hs _ =>
    rcases hs with (h | ⟨o, h⟩) | ⟨o, its, n, h, hc, _⟩
    · exact .base (.tup h)
    · exact .fTuple h
    · exact .kTuple h hc
def isIntD : PyData → Bool
  | .int _ => true
  | .bool _ => true
  | _ => false
def isBoolD : PyData → Bool
  | .bool _ => true
  | _ => false
theorem kit_int {K : PySem.W.Frag} {d : PyData} (h : ∀ l, d ≠ .dict l) : PySem.W.kitOne K (.type (tyD d)) (.type "int") = some (isIntD d) := by
  cases d with
  | none => exact kit_ty (a := "NoneType") (b := "int") (r := false) (by decide +kernel)
  | bool _ => exact kit_ty (a := "bool") (b := "int") (r := true) (by decide +kernel)
  | int _ => exact kit_ty (a := "int") (b := "int") (r := true) (by decide +kernel)
  | str _ => exact kit_ty (a := "str") (b := "int") (r := false) (by decide +kernel)
  | list _ => exact kit_ty (a := "list") (b := "int") (r := false) (by decide +kernel)
  | tuple _ => exact kit_ty (a := "tuple") (b := "int") (r := false) (by decide +kernel)
  | dict l => exact absurd rfl (h l)
theorem kit_bool {K : PySem.W.Frag} {d : PyData} (h : ∀ l, d ≠ .dict l) : PySem.W.kitOne K (.type (tyD d)) (.type "bool") = some (isBoolD d) := by
  cases d with
  | none => exact kit_ty (a := "NoneType") (b := "bool") (r := false) (by decide +kernel)
  | bool _ => exact kit_ty (a := "bool") (b := "bool") (r := true) (by decide +kernel)
  | int _ => exact kit_ty (a := "int") (b := "bool") (r := false) (by decide +kernel)
  | str _ => exact kit_ty (a := "str") (b := "bool") (r := false) (by decide +kernel)
  | list _ => exact kit_ty (a := "list") (b := "bool") (r := false) (by decide +kernel)
  | tuple _ => exact kit_ty (a := "tuple") (b := "bool") (r := false) (by decide +kernel)
  | dict l => exact absurd rfl (h l)
theorem dp_nodict {K : PySem.W.Frag} {H : Hp} {v : V} {d : PyData} (h : Dp K H v d) : ∀ l, d ≠ .dict l := fun l e => by subst e; cases h
namespace Rd
theorem isi {K : PySem.W.Frag} {H : Hp} {v : V} {d : PyData} {n : String} {b : Bool} {Q : VK} (h : Dp K H v d) (k : PySem.W.kitOne K (.type (tyD d)) (.type n) = some b) (q : Q (.bl b) H) : rIsi K [v, .ty n] H Q :=
  ⟨v, .ty n, _, _, b, rfl, .ty n, ty_dp h, k, q⟩
end Rd

/-! ### the layer's rules, the written part a letter (in a comprehension's block it must not be the block's) -/
/-- a statement behind which a fact is kept -/
def tSeqM (s1 s2 : TS) : TS := fun D σ H => s1 { D with nx := s2 D } σ H
theorem pss_consM {X : Cx} {s : Stmt} {r : List Stmt} {t u : TS} (h : PS X s t) (k : PSs X r u) : PSs X (s :: r) (tSeqM t u) := pss_cons h k
theorem Rd.seqT {s1 s2 : TS} {D : Ends} {σ : L2.St} {H : Hp} (h : ∀ S2 : TS, S2 = s2 → s1 { D with nx := S2 D } σ H) : tSeq s1 s2 D σ H := h s2 rfl
theorem Rd.seqM {s1 s2 : TS} {D : Ends} {σ : L2.St} {H : Hp} (P : L2.St → Hp → Prop) (h1 : ∀ nx : L2.St → Hp → Prop, (∀ σ H, P σ H → nx σ H) → s1 { D with nx := nx } σ H) (h2 : ∀ σ H, P σ H → s2 D σ H) : tSeqM s1 s2 D σ H := h1 _ h2
namespace Kx
variable {X : Cx} {K : PySem.W.Frag} {a b e : Expr} {es : List Expr} {ta tb te : TE} {t : TA} {pos p : Pos} {tg : Expr}
theorem ix_seq (h : X.K = K) : IxR X (rIx K) := by subst h; exact L2.ix_seq
theorem ix_list (h : X.K = K) : IxR X (rIxL K) := by subst h; exact L2.ix_list
theorem ix_tup (h : X.K = K) : IxR X (rIxT K) := by subst h; exact L2.ix_tup
theorem op_eqD (h : X.K = K) (hu : X.A.units + 65 < cLine) : OpR X (compareOp .Eq) (rEqD K) := by subst h; exact L2.op_eqD (by omega)
theorem op_neD (h : X.K = K) (hu : X.A.units + 65 < cLine) : OpR X (compareOp .NotEq) (rNeD K) := by subst h; exact L2.op_neD (by omega)
theorem op_inD (h : X.K = K) (hu : X.A.units + 65 < cLine) : OpR X (compareOp .In) (rInD K) := by subst h; exact L2.op_inD hu
theorem op_notInD (h : X.K = K) (hu : X.A.units + 65 < cLine) : OpR X (compareOp .NotIn) (rNotInD K) := by subst h; exact L2.op_notInD hu
theorem call_isi (h : X.K = K) : CallR X (.builtin "isinstance") (rIsi K) := by subst h; exact L2.call_isi
theorem call_len (h : X.K = K) : CallR X (.builtin "len") (fun xs H Q => ∃ x n, xs = [x] ∧ LenV K x H n ∧ Q (.int n) H) := by subst h; exact L2.call_len
theorem call_list_of (h : X.K = K) : CallR X (.type "list") (fun xs H Q => ∃ p ys, xs = [.ref p] ∧ (SqL K H p ys ∨ SqT K H p ys) ∧ ∀ l, H l = none → Q (.ref l) (upd H l (.lst ys))) := by subst h; exact L2.call_list_of
theorem call_tuple_of (h : X.K = K) : CallR X (.type "tuple") (fun xs H Q => ∃ p ys, xs = [.ref p] ∧ ((SqL K H p ys ∧ ∀ l, H l = none → Q (.ref l) (upd H l (.tup ys))) ∨ (SqT K H p ys ∧ Q (.ref p) H))) := by subst h; exact L2.call_tuple_of
theorem sl_list (h : X.K = K) : SlR X (rSlL K) := by subst h; exact L2.sl_list
theorem mt_indexD (h : X.K = K) (hu : X.A.units + 65 < cLine) : MtR X "list.index" (rIndexD K) := by subst h; exact L2.mt_indexD hu
theorem pi_list (h : X.K = K) (ha : PE X a ta) : PI X tg a (iList K ta) := by subst h; exact L2.pi_list ha
theorem pi_tup (h : X.K = K) (ha : PE X a ta) : PI X tg a (iTup K ta) := by subst h; exact L2.pi_tup ha
theorem pg_tup {es : List Expr} {k : Nat} {t : TGs} {n : Nat} (h : X.K = K) (hc : X.calm = true) (ht : PGs X es t) (hn : (assignEach es X.env).length = n := by rfl) (hst : (assignEach es X.env).findIdx? (·.1) = none := by rfl) : PG X (.Tuple es k pos) (gTup K n t) := by
  subst h; exact L2.pg_tup hc ht hn hst
theorem pe_fld {f : Str} (h : X.K = K) (he : PE X e ta) (hb : attributeBase e f X.env (eval e X.env) = eval e X.env) : PE X (.Attribute e f pos) (tFld K ta f) := by subst h; exact L2.pe_fld he hb
theorem ps_fld {o value : Expr} {f : Str} {pos' : Pos} {tv : TE} (h : X.K = K) (ha : PE X o ta) (hv : PE X value tv) (hs : swapsWith value (some (.Attribute o f pos')) pos.line X.env = pure false) : PS X (.Assign [.Attribute o f pos'] value pos) (sFld K ta tv f) := by
  subst h; exact L2.ps_fld ha hv hs
theorem pe_revL {k : Nat} {p1 p2 p3 : Pos} (h : X.K = K) (he : PE X e te) : PE X (.Subscript e (.Slice none none (some (.UnaryOp .USub (.Constant (.int 1) k p1) p2)) p3) pos) (tRevL K te) := by subst h; exact L2.pe_revL he
end Kx
end PR
end

section
/-! trees as lists of rows: paths up, spans, moves (no program in sight) -/
namespace PR
theorem nodup_len {α : Type} [BEq α] [LawfulBEq α] : ∀ {xs ys : List α}, xs.Nodup → (∀ x, x ∈ xs → x ∈ ys) → xs.length ≤ ys.length
  | [], _, _, _ => Nat.zero_le _
  | x :: xs, ys, nd, h => by
    obtain ⟨n1, n2⟩ := List.nodup_cons.mp nd
    have hx := h x List.mem_cons_self
    have := nodup_len (xs := xs) (ys := ys.erase x) n2 fun y hy => by
      refine (List.mem_erase_of_ne (fun e => n1 (by rw [← e]; exact hy))).mpr (h y (List.mem_cons_of_mem _ hy))
    rw [List.length_erase_of_mem hx] at this
    have := List.length_pos_of_mem hx
    rw [List.length_cons]
    omega
inductive Up (rows : List Row) : Int → List Int → Prop
  | root {k : Int} : (k, none) ∈ rows → Up rows k [k]
  | step {k q : Int} {ps : List Int} : (k, some q) ∈ rows → Up rows q ps → Up rows k (k :: ps)
/-- a tree: unlike keys, each with a way up to a root -/
structure Tr (rows : List Row) : Prop where
  nd : (keysOf rows).Nodup
  up : ∀ k, k ∈ keysOf rows → ∃ ps, Up rows k ps
theorem key_of {rows : List Row} {r : Row} (h : r ∈ rows) : r.1 ∈ keysOf rows := List.mem_map.mpr ⟨r, h, rfl⟩
theorem nd_row : ∀ {rows : List Row}, (keysOf rows).Nodup → ∀ {k : Int} {a b : Option Int}, (k, a) ∈ rows → (k, b) ∈ rows → a = b
  | [], _, _, _, _, h, _ => by cases h
  | r :: rows, nd, k, a, b, h1, h2 => by
    have nd' : (r.1 :: keysOf rows).Nodup := nd
    obtain ⟨n1, n2⟩ := List.nodup_cons.mp nd'
    rcases List.mem_cons.mp h1 with e1 | m1
    · rcases List.mem_cons.mp h2 with e2 | m2
      · rw [← e2] at e1
        exact congrArg Prod.snd e1
      · exact absurd (by rw [← e1]; exact (show k ∈ keysOf rows from key_of m2)) n1
    · rcases List.mem_cons.mp h2 with e2 | m2
      · exact absurd (by rw [← e2]; exact (show k ∈ keysOf rows from key_of m1)) n1
      · exact nd_row n2 m1 m2
section
variable {rows : List Row} {k : Int} {ps qs : List Int}
theorem Up.key (h : Up rows k ps) : k ∈ keysOf rows := by
  cases h with
  | root h => exact key_of h
  | step h _ => exact key_of h
theorem Up.ne (h : Up rows k ps) : ps ≠ [] := by cases h <;> simp
theorem Up.head (h : Up rows k ps) : ∃ t, ps = k :: t := by cases h <;> exact ⟨_, rfl⟩
theorem Up.sub (h : Up rows k ps) : ∀ j, j ∈ ps → j ∈ keysOf rows := by
  induction h with
  | root h => intro j hj; rw [List.mem_singleton.mp hj]; exact key_of h
  | step h _ ih =>
    intro j hj
    rcases List.mem_cons.mp hj with e | m
    · rw [e]; exact key_of h
    · exact ih j m
theorem Up.uniq (nd : (keysOf rows).Nodup) (h : Up rows k ps) : ∀ {qs}, Up rows k qs → ps = qs := by
  induction h with
  | root h =>
    intro qs g
    cases g with
    | root _ => rfl
    | step g _ => cases nd_row nd h g
  | step h _ ih =>
    intro qs g
    cases g with
    | root g => cases nd_row nd h g
    | step g u =>
      cases nd_row nd h g
      rw [ih u]
/-- from each key on a way up, the rest is its way up -/
theorem Up.tail {j : Int} (h : Up rows k ps) : j ∈ ps → ∃ a b, ps = a ++ j :: b ∧ Up rows j (j :: b) ∧ j ∉ a := by
  induction h with
  | @root k h =>
    intro hj
    cases List.mem_singleton.mp hj
    exact ⟨[], [], rfl, .root h, by simp⟩
  | @step k q ps h u ih =>
    intro hj
    by_cases e : j = k
    · subst e
      exact ⟨[], ps, rfl, .step h u, by simp⟩
    · rcases List.mem_cons.mp hj with e' | m
      · exact absurd e' e
      · obtain ⟨a, b, e1, u1, n1⟩ := ih m
        refine ⟨k :: a, b, by rw [e1]; rfl, u1, fun z => ?_⟩
        rcases List.mem_cons.mp z with z | z
        · exact e z
        · exact n1 z
theorem Up.nodup (nd : (keysOf rows).Nodup) (h : Up rows k ps) : ps.Nodup := by
  induction h with
  | root h => exact List.nodup_cons.mpr ⟨by simp, List.nodup_nil⟩
  | @step k q ps h u ih =>
    refine List.nodup_cons.mpr ⟨fun hk => ?_, ih⟩
    obtain ⟨a, b, e1, u1, _⟩ := u.tail hk
    have := Up.uniq nd (.step h u) u1
    have e2 : ps = b := by injection this
    rw [e2] at e1
    have := congrArg List.length e1
    simp at this
    omega
theorem Up.len (nd : (keysOf rows).Nodup) (h : Up rows k ps) : ps.length ≤ rows.length := by
  have : ps.length ≤ (keysOf rows).length := by
    exact nodup_len (h.nodup nd) h.sub
  rwa [keysOf, List.length_map] at this
end
theorem Tr.len_path {rows : List Row} {k : Int} {ps : List Int} (t : Tr rows) (h : Up rows k ps) : ps.length ≤ rows.length := h.len t.nd
/-- the keys whose way up goes by k -/
def Desc (rows : List Row) (k j : Int) : Prop := ∃ ps, Up rows j ps ∧ k ∈ ps
/-! spans -/
def spanL : List Row → List Int → Nat
  | [], _ => 0
  | r :: rest, ins => match r.2 with
    | none => 0
    | some q => if q ∈ ins then 1 + spanL rest (ins ++ [r.1]) else 0
theorem spanL_le : ∀ (rest : List Row) (ins : List Int), spanL rest ins ≤ rest.length
  | [], _ => Nat.le_refl _
  | (a, none) :: rest, ins => Nat.zero_le _
  | (a, some q) :: rest, ins => by
    show (if q ∈ ins then 1 + spanL rest (ins ++ [a]) else 0) ≤ _
    split
    · have := spanL_le rest (ins ++ [a])
      rw [List.length_cons]; omega
    · exact Nat.zero_le _
theorem span_desc {rows : List Row} {k : Int} : ∀ (rest : List Row) (ins : List Int), (∀ r, r ∈ rest → r ∈ rows) → (∀ j, j ∈ ins → Desc rows k j) → ∀ r, r ∈ rest.take (spanL rest ins) → Desc rows k r.1
  | [], _, _, _, r, h => by simp at h
  | (a, none) :: rest, ins, _, _, r, h => by
    have : r ∈ List.take 0 ((a, none) :: rest) := h
    simp at this
  | (a, some q) :: rest, ins, hs, hi, r, h => by
    have h' : r ∈ List.take (if q ∈ ins then 1 + spanL rest (ins ++ [a]) else 0) ((a, some q) :: rest) := h
    by_cases c : q ∈ ins
    · rw [if_pos c, Nat.add_comm, List.take_succ_cons] at h'
      obtain ⟨ps, u, hk⟩ := hi q c
      have da : Desc rows k a := ⟨a :: ps, .step (hs _ List.mem_cons_self) u, List.mem_cons_of_mem _ hk⟩
      rcases List.mem_cons.mp h' with e | m
      · rw [e]; exact da
      · refine span_desc rest (ins ++ [a]) (fun r hr => hs r (List.mem_cons_of_mem _ hr)) (fun j hj => ?_) r m
        rcases List.mem_append.mp hj with z | z
        · exact hi j z
        · rw [List.mem_singleton.mp z]; exact da
    · rw [if_neg c] at h'
      simp at h'
def keyAt (rows : List Row) (p : Nat) : Int := ((keysOf rows)[p]?).getD 0
def endF (rows : List Row) (p : Nat) : Nat := p + 1 + spanL (rows.drop (p + 1)) [keyAt rows p]
theorem endF_le {rows : List Row} {p : Nat} (h : p < rows.length) : endF rows p ≤ rows.length := by
  have := spanL_le (rows.drop (p + 1)) [keyAt rows p]
  rw [List.length_drop] at this
  unfold endF
  omega
theorem endF_gt {rows : List Row} {p : Nat} : p + 1 ≤ endF rows p := by unfold endF; omega
theorem idxK_get {rows : List Row} {k : Int} (h : k ∈ keysOf rows) : ∃ o, rows[idxK rows k]? = some (k, o) := by
  have hlt := idxK_lt h
  have h2 := List.idxOf_lt_length_of_mem h
  have e : (keysOf rows)[(keysOf rows).idxOf k]'h2 = k := List.getElem_idxOf h2
  refine ⟨(rows[idxK rows k]'hlt).2, ?_⟩
  rw [List.getElem?_eq_getElem hlt]
  refine congrArg some (Prod.ext ?_ rfl)
  have e2 : (keysOf rows)[(keysOf rows).idxOf k]'h2 = (rows[idxK rows k]'hlt).1 := List.getElem_map _
  exact e2.symm.trans e
theorem keyAt_idx {rows : List Row} {k : Int} (h : k ∈ keysOf rows) : keyAt rows (idxK rows k) = k := by
  unfold keyAt idxK
  rw [List.getElem?_eq_getElem (List.idxOf_lt_length_of_mem h), List.getElem_idxOf]
  rfl
def landF (rows : List Row) : Option Int → Nat
  | none => rows.length
  | some q => endF rows (idxK rows q)
theorem landF_le {rows : List Row} {o : Option Int} (h : ∀ q, o = some q → q ∈ keysOf rows) : landF rows o ≤ rows.length := by
  cases o with
  | none => exact Nat.le_refl _
  | some q => exact endF_le (idxK_lt (h q rfl))
def putR (rows : List Row) (k : Int) (o : Option Int) : List Row := rows.take (landF rows o) ++ (k, o) :: rows.drop (landF rows o)
def othersF (rows : List Row) (k : Int) : List Row := rows.take (idxK rows k) ++ rows.drop (endF rows (idxK rows k))
def blockF (rows : List Row) (k : Int) (o : Option Int) : List Row := (k, o) :: (rows.drop (idxK rows k + 1)).take (endF rows (idxK rows k) - (idxK rows k + 1))
def moveF (rows : List Row) (k : Int) (o : Option Int) : List Row := (othersF rows k).take (landF (othersF rows k) o) ++ blockF rows k o ++ (othersF rows k).drop (landF (othersF rows k) o)
theorem putR_perm (rows : List Row) (k : Int) (o : Option Int) : (putR rows k o).Perm ((k, o) :: rows) := by
  unfold putR
  refine List.perm_middle.trans ?_
  rw [List.take_append_drop]
theorem split3 {rows : List Row} {k : Int} (h : k ∈ keysOf rows) : ∃ o, rows = rows.take (idxK rows k) ++ (k, o) :: ((rows.drop (idxK rows k + 1)).take (endF rows (idxK rows k) - (idxK rows k + 1)) ++ rows.drop (endF rows (idxK rows k))) := by
  obtain ⟨o, e⟩ := idxK_get h
  have hlt := idxK_lt h
  have e2 : rows.drop (idxK rows k) = (k, o) :: rows.drop (idxK rows k + 1) := by
    rw [List.drop_eq_getElem_cons hlt]
    rw [List.getElem?_eq_getElem hlt] at e
    rw [Option.some.inj e]
  have e3 : rows.drop (endF rows (idxK rows k)) = (rows.drop (idxK rows k + 1)).drop (endF rows (idxK rows k) - (idxK rows k + 1)) := by
    rw [List.drop_drop]
    congr 1
    have := endF_gt (rows := rows) (p := idxK rows k)
    omega
  refine ⟨o, ?_⟩
  rw [e3, List.take_append_drop, ← e2, List.take_append_drop]
/-- a row of the key k, elsewhere: what a move makes -/
structure Moved (rows : List Row) (k : Int) (o : Option Int) (rows' : List Row) : Prop where
  own : (k, o) ∈ rows'
  old : ∀ r, r ∈ rows → r.1 ≠ k → r ∈ rows'
  keys : (keysOf rows').Perm (keysOf rows)
theorem moveF_moved {rows : List Row} {k : Int} (h : k ∈ keysOf rows) (o : Option Int) : Moved rows k o (moveF rows k o) := by
  obtain ⟨o0, e⟩ := split3 h
  have pm : (moveF rows k o).Perm (blockF rows k o ++ othersF rows k) := by
    unfold moveF
    rw [List.append_assoc]
    refine (List.perm_append_comm_assoc _ _ _).trans ?_
    rw [List.take_append_drop]
  generalize hX : (rows.drop (idxK rows k + 1)).take (endF rows (idxK rows k) - (idxK rows k + 1)) = X at e
  have hB : blockF rows k o = (k, o) :: X := by rw [← hX]; rfl
  have hO : othersF rows k = rows.take (idxK rows k) ++ rows.drop (endF rows (idxK rows k)) := rfl
  have pm2 : rows.Perm ((k, o0) :: (X ++ othersF rows k)) := by
    rw [hO]
    conv => lhs; rw [e]
    refine List.perm_middle.trans (List.Perm.cons _ ?_)
    exact List.perm_append_comm_assoc _ _ _
  rw [hB] at pm
  have pm' : (moveF rows k o).Perm ((k, o) :: (X ++ othersF rows k)) := pm
  refine ⟨pm'.mem_iff.mpr List.mem_cons_self, fun r hr hn => ?_, ?_⟩
  · rcases List.mem_cons.mp (pm2.mem_iff.mp hr) with q | q
    · exact absurd (by rw [q]) hn
    · exact pm'.mem_iff.mpr (List.mem_cons_of_mem _ q)
  · have a := pm'.map Prod.fst
    have b := pm2.map Prod.fst
    exact a.trans b.symm
theorem Moved.row {rows rows' : List Row} {k : Int} {o : Option Int} (h : Moved rows k o rows') {r : Row} (hr : r ∈ rows') (nd : (keysOf rows).Nodup) : r = (k, o) ∨ (r.1 ≠ k ∧ r ∈ rows) := by
  have nd' : (keysOf rows').Nodup := h.keys.nodup_iff.mpr nd
  obtain ⟨a, b⟩ := r
  by_cases e : a = k
  · subst e
    exact .inl (by rw [nd_row nd' hr h.own])
  · refine .inr ⟨e, ?_⟩
    have : a ∈ keysOf rows := h.keys.mem_iff.mp (key_of hr)
    obtain ⟨⟨a', b'⟩, hm, ea⟩ := List.mem_map.mp this
    have ea' : a' = a := ea
    subst ea'
    rw [nd_row nd' hr (h.old _ hm e)]
    exact hm
/-- a way up that does not meet the moved key stays -/
theorem Moved.keep {rows rows' : List Row} {k : Int} {o : Option Int} (h : Moved rows k o rows') {j : Int} {ps : List Int} (u : Up rows j ps) : k ∉ ps → Up rows' j ps := by
  induction u with
  | root hr => intro n; exact .root (h.old _ hr fun e => n (by rw [← e]; exact List.mem_cons_self))
  | step hr _ ih => intro n; exact .step (h.old _ hr fun e => n (by rw [← e]; exact List.mem_cons_self)) (ih fun z => n (List.mem_cons_of_mem _ z))
/-- from below the moved key: up to it as before, then its new way -/
theorem Moved.below {rows rows' : List Row} {k : Int} {o : Option Int} (h : Moved rows k o rows') {j : Int} {ps a b c : List Int} (u : Up rows j ps) (hc : Up rows' k (k :: c)) : ps = a ++ k :: b → k ∉ a → Up rows' j (a ++ k :: c) := by
  intro e n
  induction u generalizing a with
  | @root j hr =>
    cases a with
    | nil =>
      have : j = k := by injection e
      rw [this]; exact hc
    | cons x a =>
      have : ([] : List Int) = a ++ k :: b := by injection e
      cases a <;> cases this
  | @step j q ps hr u ih =>
    cases a with
    | nil =>
      have : j = k := by injection e
      rw [this]; exact hc
    | cons x a =>
      have e1 : j = x := by injection e
      have e2 : ps = a ++ k :: b := by injection e
      subst e1
      exact .step (h.old _ hr fun z => n (by rw [← z]; exact List.mem_cons_self)) (ih e2 fun z => n (List.mem_cons_of_mem _ z))
theorem Moved.tr {rows rows' : List Row} {k : Int} {o : Option Int} (h : Moved rows k o rows') (t : Tr rows) (hk : ∃ c, Up rows' k (k :: c)) : Tr rows' := by
  refine ⟨h.keys.nodup_iff.mpr t.nd, fun j hj => ?_⟩
  obtain ⟨ps, u⟩ := t.up j (h.keys.mem_iff.mp hj)
  by_cases c : k ∈ ps
  · obtain ⟨a, b, e, _, n⟩ := u.tail c
    obtain ⟨c', hc⟩ := hk
    exact ⟨_, h.below u hc e n⟩
  · exact ⟨ps, h.keep u c⟩
/-- a move that is let makes a tree -/
theorem Moved.let_none {rows rows' : List Row} {k : Int} (h : Moved rows k none rows') (t : Tr rows) : Up rows' k [k] ∧ Tr rows' := ⟨.root h.own, h.tr t ⟨[], .root h.own⟩⟩
theorem Moved.let_some {rows rows' : List Row} {k q : Int} {ps : List Int} (h : Moved rows k (some q) rows') (t : Tr rows) (u : Up rows q ps) (n : k ∉ ps) : Up rows' k (k :: ps) ∧ Tr rows' :=
  ⟨.step h.own (h.keep u n), h.tr t ⟨ps, .step h.own (h.keep u n)⟩⟩
/-- a key that is not below k is in no block of k -/
theorem others_key {rows : List Row} {k q : Int} {ps : List Int} (t : Tr rows) (hk : k ∈ keysOf rows) (u : Up rows q ps) (n : k ∉ ps) : q ∈ keysOf (othersF rows k) := by
  obtain ⟨o, e⟩ := split3 hk
  have hq := u.key
  obtain ⟨⟨q', o'⟩, hm, eq⟩ := List.mem_map.mp hq
  have eq' : q' = q := eq
  subst eq'
  rw [e] at hm
  unfold othersF keysOf
  rw [List.map_append]
  rcases List.mem_append.mp hm with z | z
  · exact List.mem_append_left _ (List.mem_map.mpr ⟨_, z, rfl⟩)
  rcases List.mem_cons.mp z with z | z
  · refine absurd ?_ n
    have : q' = k := by injection z
    rw [← this]
    obtain ⟨t', e'⟩ := u.head
    rw [e']; exact List.mem_cons_self
  rcases List.mem_append.mp z with z | z
  · refine absurd ?_ n
    have hpos : 0 < endF rows (idxK rows k) - (idxK rows k + 1) ∨ True := .inr trivial
    have hs : endF rows (idxK rows k) - (idxK rows k + 1) = spanL (rows.drop (idxK rows k + 1)) [k] := by
      unfold endF
      rw [keyAt_idx hk]
      omega
    rw [hs] at z
    obtain ⟨pk, uk⟩ := t.up k hk
    obtain ⟨tk, ek⟩ := uk.head
    have hd := span_desc (rows := rows) (k := k) (rows.drop (idxK rows k + 1)) [k] (fun r hr => List.mem_of_mem_drop hr) (fun j hj => by
      rw [List.mem_singleton.mp hj]
      exact ⟨pk, uk, by rw [ek]; exact List.mem_cons_self⟩) _ z
    obtain ⟨ps', u', hk'⟩ := hd
    rw [u.uniq t.nd u']
    exact hk'
  · exact List.mem_append_right _ (List.mem_map.mpr ⟨_, z, rfl⟩)
theorem putR_tr {rows : List Row} {k : Int} {o : Option Int} (t : Tr rows) (hk : k ∉ keysOf rows) (ho : ∀ q, o = some q → q ∈ keysOf rows) : Tr (putR rows k o) := by
  have pm := putR_perm rows k o
  have pk : (keysOf (putR rows k o)).Perm (k :: keysOf rows) := pm.map Prod.fst
  have mono : ∀ {j : Int} {ps : List Int}, Up rows j ps → Up (putR rows k o) j ps := by
    intro j ps u
    induction u with
    | root h => exact .root (pm.mem_iff.mpr (List.mem_cons_of_mem _ h))
    | step h _ ih => exact .step (pm.mem_iff.mpr (List.mem_cons_of_mem _ h)) ih
  refine ⟨pk.nodup_iff.mpr (List.nodup_cons.mpr ⟨hk, t.nd⟩), fun j hj => ?_⟩
  rcases List.mem_cons.mp (pk.mem_iff.mp hj) with e | m
  · subst e
    cases o with
    | none => exact ⟨_, .root (pm.mem_iff.mpr List.mem_cons_self)⟩
    | some q =>
      obtain ⟨ps, u⟩ := t.up q (ho q rfl)
      exact ⟨_, .step (pm.mem_iff.mpr List.mem_cons_self) (mono u)⟩
  · obtain ⟨ps, u⟩ := t.up j m
    exact ⟨ps, mono u⟩
theorem tr_nil : Tr [] := ⟨List.nodup_nil, fun k h => by cases h⟩
end PR
end

section
set_option maxHeartbeats 4000000
/-! name = {..} by a dict comprehension; walks of dict comprehensions -/
namespace PR
open PySem L2 PySem.Spec PyProof.Rows
section
variable {X : Cx}
theorem ps_setDc {i : Nat} {y : Str} {py : Pos} {kx vx tg iter : Expr} {ifs : List Expr} {scope : Scope} {own : List (Str × Nat)} {pos spos : Pos} {wi : TI} {g : TG} {tt : TT} {tk tv : TE} (hc : X.calm = true) (hN : X.N.Nodup) (hy : X.N[i]? = some y) (hyl : X.env.scope.names.lookup y = some .local)
    (hsw : swapsWith (.DictComp kx vx [⟨tg, iter, ifs, 0⟩] scope pos) (some (.Name y py)) spos.line X.env = pure true) (hi : PI X tg iter wi) (ok : BlkOk X.N X.env.scope scope own)
    (hg : ∀ (s : Shared) (H : Hp) (C : Addr) (cl : List (Str × Addr)) (fp : List Addr), PG (X.blk s H scope (compEnvC scope cl C X.env) fp) tg g) (ht : ∀ (s : Shared) (H : Hp) (C : Addr) (cl : List (Str × Addr)) (fp : List Addr), PTs (X.blk s H scope (compEnvC scope cl C X.env) fp) ifs tt)
    (hk : ∀ (s : Shared) (H : Hp) (C : Addr) (cl : List (Str × Addr)) (fp : List Addr), PE (X.blk s H scope (compEnvC scope cl C X.env) fp) kx tk)
    (he : ∀ (s : Shared) (H : Hp) (C : Addr) (cl : List (Str × Addr)) (fp : List Addr), PE (X.blk s H scope (compEnvC scope cl C X.env) fp) vx tv) (hs : ∀ x, foldedSetIterable iter X.env x = pure x := by intro _; rfl) :
    PS X (.Assign [.Name y py] (.DictComp kx vx [⟨tg, iter, ifs, 0⟩] scope pos) spos) (tAsg (tDc wi g tt tk tv (own.map (·.2))) (gName i)) := by
  refine ⟨fun pins s σ H D I h => ?_⟩
  rw [exec_Assign_Name_used _ _ _ _ hsw]
  refine wpAny_bind (wpAny_standAt (wpAny_bind ?_))
  show wpAny _ X.A (do let _ ← comprehension (.DictComp kx vx [⟨tg, iter, ifs, 0⟩] scope pos) scope X.env (firstIterPos [⟨tg, iter, ifs, 0⟩] pos) newDict false (eval iter X.env) (some (assign (.Name y py) X.env))) _ _ s
  have h : tDc wi g tt tk tv (own.map (·.2)) σ H (fun x H1 => gName i x σ H1 D.nx) := h
  refine wpAny_bind (thn (dc_core (Qf := fun _ s' => SP X pins D .next s') hc hN I hi ok hg ht hk he hs h fun L C s' m H' I' q hn f => ?_) fun _ s' hq => wpAny_pure (wpAny_pure hq))
  show wpAny _ _ (assign (.Name y py) X.env (.ref L)) _ _ _
  refine wpAny_assign_Name (store_ok2 (v := V.ref L) I' hN hy (.inl hyl) rfl (fun s2 I2 ⟨a, sb, ha⟩ => ?_) (.inr hyl))
  obtain ⟨f0, f1, f2, f3, f4, f5⟩ := f
  have haC : C ≠ a := by
    rcases ha with z | z
    · rw [z]; exact f1
    · exact fun e => f4 y a z e.symm
  refine ⟨m, hn.sameBut sb haC, fun h3 sb3 => ?_⟩
  exact ⟨_, H', I2.turned (t' := s2.toks) (fun b o hb e => (sb3.2 b hb).trans e) f0 f1 f3 f4 f5, q⟩
theorem sw_trueD {kx vx : Expr} {gs : List Comprehension} {scope : Scope} {pos py : Pos} {y : Str} {l : Nat} {env : Env} (hk : env.scope.kind = .function) (hy : env.scope.names.lookup y = some .local) (hl : (py.line == pos.line) = true)
    (ha : (scope.names.any fun (n, k) => n == y && (k == .local || k == .cell)) = false) : swapsWith (.DictComp kx vx gs scope pos) (some (.Name y py)) l env = pure true := by
  have ky : env.kindOf y = some .local := hy
  have hb : env.blockKind = .function := by unfold Env.blockKind; rw [hk]; rfl
  unfold swapsWith
  simp only [hb, ky, ha, Expr.pos, hl]
  rfl
end
section
variable {J : It} {n : Nat} {G : Hp → Prop} {Y : Nat → Hp → V → Hp → Prop} {g : TG} {tt : TT} {tk tv : TE} {vs : List Nat} {σ : L2.St} {H : Hp} {D : Addr} {Qd : Hp → Prop} {K : PySem.W.Frag}
/-- what a dict comprehension's loop asks -/
def DcAt (J : It) (H1 : Hp) (D : Addr) (g : TG) (tt : TT) (tk tv : TE) (vs : List Nat) (σ : L2.St) (Qd : Hp → Prop) : Prop := ∃ W : Nat → Nat → Hp → Prop, (∃ m, W 0 m (upd H1 D (.dK []))) ∧ ∀ i m H, W i m H →
  (J.stop i H ∧ Qd H) ∨ (J.go i H ∧ ∃ Nx : Hp → Prop, (∀ H', Nx H' → ∃ m', m' < m ∧ W (i + 1) m' H') ∧ ∀ x H', J.yld i H x H' → g x (wipe σ vs) H' fun σ2 H2 => wipe σ2 vs = wipe σ vs ∧ tt σ2 H2 fun b H3 =>
    if b = true then tk σ2 H3 fun y H4 => tv σ2 H4 fun z H5 => ∃ kvs k, y = kV k ∧ H5 D = some (.dK kvs) ∧ kvs.length < sizeLine ∧ Nx (upd H5 D (.dK (putK kvs k z))) else Nx H3)
theorem Rd.tdc {wi : TI} {Q : VK} (h : wi σ H fun J H1 => ∀ D, H1 D = none → DcAt J H1 D g tt tk tv vs σ fun H' => Q (.ref D) H') : tDc wi g tt tk tv vs σ H Q := h
theorem dc_it (w : Walk J n G Y) (Pv : Nat → Hp → Prop) (h0 : Pv 0 (upd H D (.dK []))) (hG : ∀ i H, i ≤ n → Pv i H → G H)
    (hs : ∀ i x H H', i < n → Pv i H → Y i H x H' → g x (wipe σ vs) H' fun σ2 H2 => wipe σ2 vs = wipe σ vs ∧ tt σ2 H2 fun b H3 =>
      if b = true then tk σ2 H3 fun y H4 => tv σ2 H4 fun z H5 => ∃ kvs k, y = kV k ∧ H5 D = some (.dK kvs) ∧ kvs.length < sizeLine ∧ Pv (i + 1) (upd H5 D (.dK (putK kvs k z))) else Pv (i + 1) H3) (hd : ∀ H, Pv n H → Qd H) :
    DcAt J H D g tt tk tv vs σ Qd := by
  refine ⟨fun i m H => m = n - i ∧ i ≤ n ∧ Pv i H, ⟨n, by simp, Nat.zero_le _, h0⟩, ?_⟩
  rintro i m H ⟨rfl, hi, p⟩
  have q := hG i H hi p
  by_cases hlt : i < n
  · exact .inr ⟨w.goes i H hlt q, Pv (i + 1), fun H' p' => ⟨n - (i + 1), by omega, rfl, hlt, p'⟩, fun x H' y => hs i x H H' hlt p (w.yields i H x H' hlt q y)⟩
  · have e : i = n := by omega
    subst e
    exact .inl ⟨w.stops H q, hd H p⟩
/-- the dict of the rows: keys to parents -/
def dictOf (rows : List Row) : List (Key × V) := rows.map fun r => ((.inl r.1 : Key), optV r.2)
theorem dictOf_none : ∀ {rows : List Row} {k : Int}, k ∉ keysOf rows → valV (dictOf rows) (.inl k) = none
  | [], _, _ => rfl
  | r :: rows, k, h => by
    have h' : k ∉ r.1 :: keysOf rows := h
    rw [List.mem_cons, not_or] at h'
    show valV (((.inl r.1 : Key), optV r.2) :: dictOf rows) (.inl k) = none
    rw [valV_neg (fun e => h'.1 (by injection e with e; exact e.symm))]
    exact dictOf_none h'.2
theorem dictOf_some : ∀ {rows : List Row} {k : Int} {o : Option Int}, (keysOf rows).Nodup → (k, o) ∈ rows → valV (dictOf rows) (.inl k) = some (optV o)
  | [], _, _, _, h => by cases h
  | r :: rows, k, o, nd, h => by
    have nd' : (r.1 :: keysOf rows).Nodup := nd
    obtain ⟨n1, n2⟩ := List.nodup_cons.mp nd'
    show valV (((.inl r.1 : Key), optV r.2) :: dictOf rows) (.inl k) = _
    rcases List.mem_cons.mp h with e | m
    · subst e
      exact valV_pos rfl
    · have hk : k ∈ keysOf rows := List.mem_map.mpr ⟨_, m, rfl⟩
      rw [valV_neg (fun e => n1 (by injection e with e; have e' : r.1 = k := e; rw [e']; exact hk))]
      exact dictOf_some n2 m
theorem dictOf_take {rows : List Row} {i : Nat} {r : Row} (nd : (keysOf rows).Nodup) (e : rows[i]? = some r) : putK (dictOf (rows.take i)) (.inl r.1) (optV r.2) = dictOf (rows.take (i + 1)) := by
  have hlt : i < rows.length := (List.getElem?_eq_some_iff.mp e).1
  have e' : rows[i] = r := (List.getElem?_eq_some_iff.mp e).2
  have e2 : rows.take (i + 1) = rows.take i ++ [r] := by rw [List.take_add_one, e]; rfl
  have hk : r.1 ∉ keysOf (rows.take i) := fun z => by
    have nd2 : (keysOf (rows.take (i + 1))).Nodup := by
      unfold keysOf at nd ⊢
      rw [List.map_take]
      exact nd.sublist (List.take_sublist _ _)
    rw [e2] at nd2
    unfold keysOf at nd2
    rw [List.map_append] at nd2
    have := (List.nodup_append.mp nd2).2.2 r.1 z r.1 (by simp)
    exact this rfl
  rw [putK_new _ (dictOf_none hk), e2]
  unfold dictOf
  rw [List.map_append]
  rfl
end
theorem Kx.call_dictP {X : Cx} {K : PySem.W.Frag} (h : X.K = K) (hc : X.calm = true) : CallR X (.type "dict") (fun xs H Q => ∃ (a : Addr) (ps : List Addr) (kvs : List (Key × V)), xs = [.ref a] ∧ SqL K H a (ps.map V.ref) ∧ Paired (fun p kv => SqT K H p [kV kv.1, kv.2]) ps kvs ∧
    ∀ p, H p = none → Q (.ref p) (upd H p (.dK (mergeK [] kvs)))) := by subst h; exact L2.call_dictP hc
namespace Rd
theorem tdget {td ty : TE} {σ : L2.St} {H : Hp} {Q : VK} (h : td σ H fun x H1 => ty σ H1 fun y H2 => ∃ a v, x = .ref a ∧ DGet H2 a y (some v) ∧ Q v H2) : tDGet td ty σ H Q := h
theorem dgetI {H : Hp} {D : Addr} {k : Int} {kvs : List (Key × V)} {v : V} {P : V → Prop} (h1 : H D = some (.dK kvs)) (h2 : valV kvs (.inl k) = some v) (h : P v) : ∃ a v, V.ref D = .ref a ∧ DGet H a (.int k) (some v) ∧ P v :=
  ⟨D, v, rfl, .inl ⟨kvs, .inl k, .inl h1, rfl, h2.symm⟩, h⟩
theorem star {K : PySem.W.Frag} {te : TE} {t : TA} {σ : L2.St} {H : Hp} {Q : List V → Hp → Prop} (h : te σ H fun x H1 => ∃ p xs, x = V.ref p ∧ (SqT K H1 p xs ∨ SqL K H1 p xs) ∧ t σ H1 fun ys H2 => Q (xs ++ ys) H2) : StX.tStar K te t σ H Q := h
theorem starL {K : PySem.W.Frag} {H : Hp} {p : Addr} {xs : List V} {P : List V → Prop} (h1 : SqL K H p xs) (h : P xs) : ∃ p' ys, V.ref p = V.ref p' ∧ (SqT K H p' ys ∨ SqL K H p' ys) ∧ P ys := ⟨p, xs, rfl, .inr h1, h⟩
end Rd
end PR
end

section
set_option maxHeartbeats 4000000
/-! o[i] by an own __getitem__; o.f = v by a property's setter -/
namespace PR
open PySem L2 PySem.Spec PyProof.Rows
structure ItemC (K : PySem.W.Frag) (C g : Addr) : Prop where
  at_ : PySem.W.findIn K (.ref C) "__getitem__" = some (some (.ref g))
  fnI : PySem.W.fnIn K g = true
  fn : PySem.W.isFn K (.ref g) = true
structure SetOf (K : PySem.W.Frag) (C : Addr) (f : Str) (p g : Addr) : Prop where
  tak : PySem.W.takerIn K C f = some (some (.ref p))
  ty : PySem.W.typeIn K (.ref p) = some (.type "property")
  rec_ : ∃ a rest, PySem.W.recIn K p "property" = some (a :: .ref g :: rest)
/-- e[i]: the promise of the class's __getitem__ -/
def tItem (C : Addr) (sp : Sp) (E : XK) (ta ti : TE) : TE := fun σ H Q => ta σ H fun x H1 => ti σ H1 fun y H2 => ∃ a dx fs, x = .ref a ∧ H2 a = some (.ins C dx fs) ∧ sp [.ref a, y] H2 Q E
/-- e.f = v: the promise of the setter -/
def sProp (C : Addr) (sp : Sp) (E : XK) (ta tv : TE) : TS := fun D σ H => tv σ H fun y H1 => ta σ H1 fun x H2 => ∃ a dx fs, x = .ref a ∧ H2 a = some (.ins C dx fs) ∧ sp [.ref a, y] H2 (fun _ H3 => D.nx σ H3) E
section
variable {X : Cx} {CX : CXT} {k : Nat} {C p g : Addr} {f : Str} {fd : FuncData} {ps : List Str} {sp : Sp} {E : XK} {a b : Expr} {pos pos' : Pos} {ta tb tv : TE}
theorem pe_item (ha : PE X a ta) (hb : PE X b tb) (hc : ItemC X.K C g) (F : FnOk X.prog X.w X.K X.mg X.base CX k g fd ps sp) (hr : Room (k + 1) X.A) (hbn : Binds X.K fd ps []) (hx : Passes CX X E)
    (hs : ∀ x i, subscripted b true (.ref x) i = runValue (.builtin "lifetime.subscript" ⟨[.ref x, i], []⟩)) : PE X (.Subscript a b pos) (tItem C sp E ta tb) := by
  refine ⟨fun pins s σ H Q I h => ?_⟩
  refine Subscript_ (thn (ha.run pins s σ H _ I h) fun v s1 ⟨x, H1, I1, rx, q1⟩ => thn (hb.run pins s1 σ H1 _ I1 q1) fun u s2 ⟨y, H2, I2, ry, o, dx, fs, ex, eo, q2⟩ => ?_)
  subst ex
  obtain rfl : v = Value.ref o := rx
  obtain ⟨mA, O, _, _, _, _⟩ := ins_get I2.hok eo
  obtain ⟨od, J, _⟩ := O.look
  obtain ⟨m, fr⟩ := I2.fr
  refine PySem.W.sub_K fr I2.ok.mod.kin J hc.at_ hc.fnI hc.fn ?_ (hs _ _)
  have hl : ([Value.ref o, u] ++ ([] : List Value)).length = ps.length := by
    rw [← F.len _ _ _ _ q2]
    rfl
  refine wpAny_call (codeAny_mono (F.run X.A.in1 X.stack s2 H2 ⟨[.ref o, u], []⟩ [.ref o, u] [.ref o, y] Q E hr.in1 I2.env0.in1 (hbn _ [.ref o, u] I2.kIn hl) (.cons rfl (.cons ry .nil)) q2) fun r s' hq => ?_)
  cases r with
  | error er => exact hx pins σ H2 s2 er s' I2 hq
  | ok fl =>
    cases fl with
    | ret z => exact I2.after hq
    | next => exact False.elim hq
    | brk => exact False.elim hq
    | cont => exact False.elim hq
theorem ps_prop {value : Expr} (ha : PE X a ta) (hv : PE X value tv) (c : Cls X.K C) (hp : SetOf X.K C f p g) (F : FnOk X.prog X.w X.K X.mg X.base CX k g fd ps sp) (hr : Room (k + 2) X.A) (hbn : Binds X.K fd ps []) (hx : Passes CX X E)
    (hs : swapsWith value (some (.Attribute a f pos')) pos.line X.env = pure false) : PS X (.Assign [.Attribute a f pos'] value pos) (sProp C sp E ta tv) := by
  refine ⟨fun pins s σ H D I h => ?_⟩
  refine plainObj_wpAny_Assign_Attribute (thn (hv.run pins s σ H _ I h) fun u s1 ⟨y, H1, I1, ry, q⟩ => thn (ha.run pins s1 σ H1 _ I1 q) fun ov s2 ⟨x, H2, I2, rx, o, dx, fs, ex, eo, q2⟩ => ?_) hs
  subst ex
  obtain rfl : ov = Value.ref o := rx
  obtain ⟨mA, O, _, _, _, _⟩ := ins_get I2.hok eo
  obtain ⟨od, J, _⟩ := O.look
  obtain ⟨m, fr⟩ := I2.fr
  obtain ⟨a', rest, hrec⟩ := hp.rec_
  refine PySem.W.set_prop fr I2.ok.mod.kin J c.sa c.po hp.tak hp.ty hrec ?_
  have hl : ([Value.ref o, u] ++ ([] : List Value)).length = ps.length := by
    rw [← F.len _ _ _ _ q2]
    rfl
  have I3 := I2.tok (s2.toks + 1)
  refine codeAny_mono (F.run X.A.in1.in1 X.stack { s2 with toks := s2.toks + 1 } H2 ⟨[.ref o, u], []⟩ [.ref o, u] [.ref o, y] _ E hr.in1.in1 I3.env0.in1.in1 (hbn _ [.ref o, u] I3.kIn hl) (.cons rfl (.cons ry .nil)) q2) fun r s' hq => ?_
  cases r with
  | error er => exact hx pins σ H2 _ er s' I3 hq
  | ok fl =>
    cases fl with
    | ret z =>
      obtain ⟨v', H', I4, _, q3⟩ := I3.after hq
      exact ⟨σ, H', I4, q3⟩
    | next => exact False.elim hq
    | brk => exact False.elim hq
    | cont => exact False.elim hq
end
namespace Rd
variable {H : Hp} {Q : VK} {σ : L2.St} {C : Addr} {sp : Sp} {E : XK} {ta ti : TE} {D : Ends}
theorem prop {dvs : List V} (h : ta σ H fun x H1 => ∃ a dx fs, x = .ref a ∧ H1 a = some (.ins C dx fs) ∧ sp (.ref a :: dvs) H1 Q E) : tProp C sp dvs E ta σ H Q := h
theorem item (h : ta σ H fun x H1 => ti σ H1 fun y H2 => ∃ a dx fs, x = .ref a ∧ H2 a = some (.ins C dx fs) ∧ sp [.ref a, y] H2 Q E) : tItem C sp E ta ti σ H Q := h
theorem sprop (h : ti σ H fun y H1 => ta σ H1 fun x H2 => ∃ a dx fs, x = .ref a ∧ H2 a = some (.ins C dx fs) ∧ sp [.ref a, y] H2 (fun _ H3 => D.nx σ H3) E) : sProp C sp E ta ti D σ H := h
end Rd
end PR
end

section
set_option maxHeartbeats 4000000
/-! own error classes with one field, over any built-in error: class C(B): def __init__(self, f): self.f = f -/
namespace PySem
namespace EX
open PySem.W PySem.Calls PyProof.Rows
section
open Builtin Builtin.ObjectAttr
variable {prog : Program} {w : World} {A : Around} {E : Value → Shared → Prop} {R : Result → Shared → Prop} {hp : Heap} {g : Array GenState} {d : Drawn} {t : Nat} {os : OsState}
/-- the first store into an error, over any built-in base -/
theorem osa_first {K : Frag} {name : Str} {tk : Tok} {v : Value} {x C t1 : Addr} {bmB : List Value} {B : String} (SF : StoreFacts B bmB "object.__setattr__" "object")
    (X : K.In hp) (hx : hp.get? x = some (excObj C t1 none .none)) (ho : excOver K C bmB = true) (ht : takerIn K C name = some none) (hh : hasDictIn K C = true)
    (hq : ∀ h' tk' dx, (∀ b o, b ≠ x → hp.get? b = some o → h'.get? b = some o) → hp.objs.size ≤ dx → dx ≠ x → h'.get? x = some (excObj C t1 (some dx) .none) →
      h'.Ns1 dx (fun y => if y = name then some v else none) → R (.ok (.ret .none)) ⟨h', g, d, tk', os⟩) :
    codeAny (model prog w) A (.call (.builtin "object.__setattr__") ⟨[.ref x, .str name tk, v], []⟩) R ⟨hp, g, d, t, os⟩ := by
  refine osa_openX (s := ⟨hp, g, d, t, os⟩) (od := none) SF X ⟨hx, rfl, rfl, trivial⟩ ho ht fun b => ?_
  obtain ⟨cd, hc, hd'⟩ := any_some hh
  have hxs : x < hp.objs.size := Heap.lt_size hx
  have hne : x ≠ hp.objs.size := Nat.ne_of_lt hxs
  refine wpAny_bind (wpAny_pure (wpAny_bind (instanceDict_exc (s := ⟨hp, g, d, t, os⟩) hx (looks_clsIn X hc) hd' ?_)))
  show wpAny _ _ (storeInDict hp.objs.size (.str name tk) name v) _ _ _
  have hx1 : (hp.push (dictOf [] 0)).get? x = some (excObj C t1 none .none) := Heap.get?_push_of_some _ hx
  refine PySem.HandSPX.store_in_new (hp := (hp.push (dictOf [] 0)).update x fun o => { o with dict := some hp.objs.size }) ?_ fun h' tk' hn' hs => ?_
  · exact ⟨_, #[], _, (Heap.get?_update_ne _ _ _ _ hne.symm).trans (Heap.get?_push_at rfl rfl), rfl, fun e he => absurd he (by simp), fun _ => rfl⟩
  · refine hq h' tk' hp.objs.size (fun b o hb e => ?_) (Nat.le_refl _) hne.symm ?_ hn'
    · have hbs : b ≠ hp.objs.size := Nat.ne_of_lt (Heap.lt_size e)
      exact (hs.2 b hbs).trans ((Heap.get?_update_ne _ _ _ _ hb).trans (Heap.get?_push_of_some _ e))
    · exact (hs.2 x hne).trans (Heap.get?_update_self _ hx1 rfl)
end
def iA (fl : Str) (p1 p2 : Pos) : Arguments := { posonlyargs := [], args := [{ arg := "self", annotation := none, pos := p1 }, { arg := fl, annotation := none, pos := p2 }], vararg := none, kwonlyargs := [], kw_defaults := [], kwarg := none, defaults := [] }
def iB (fl : Str) (q1 q2 q3 q4 : Pos) : List Stmt := [.Assign [.Attribute (.Name "self" q1) fl q2] (.Name fl q3) q4]
def iS (fl : Str) : Scope := { kind := .function, names := [(PySem.Str.ofString "self", .local), (fl, .local)], isGenerator := false, isCoroutine := false, more := [] }
/-- a field's name: not self, not a word of the machine's -/
structure FlOk (fl : Str) : Prop where
  ns : (fl == ("self" : Str)) = false
  nd : (fl == ("__debug__" : Str)) = false
/-- what the written part says of the class nm, at C, and of its __init__, at fI -/
structure E1 (K : Frag) (mg : Str → Option Value) (nm fl qual : Str) (bmB : List Value) (newId : String) (C fI : Addr) : Prop where
  fo : FlOk fl
  bd : ∀ (p1 p2 q1 q2 q3 q4 : Pos) (doc pm : Value) (an : Option Addr) (cdv ct a v : Value), bindArgs (fnOf "__init__" qual (iA fl p1 p2) (iB fl q1 q2 q3 q4) (iS fl) .none .none doc pm an cdv ct) ⟨[a, v], []⟩ = pure [(("self" : Str), a), (fl, v)]
  gC : mg nm = some (.ref C)
  cls : ∃ n q N bs bm sn sub ab col dd k0 k1 k2 k3 k5, K.lookup C = some (excClassObj n q C N bs bm true sn sub ab col dd k0 k1 k2 k3 k5 newId) ∧ excTail bmB bm = true
  ov : excOver K C bmB = true
  sa : findIn K (.ref C) "__setattr__" = some (some (.builtin "object.__setattr__"))
  ga : findIn K (.ref C) "__getattribute__" = some (some (.builtin "BaseException.__getattribute__"))
  gg : findIn K (.ref C) "__getattr__" = some none
  noN : findIn K (.ref C) fl = some none
  iC : findIn K (.ref C) "__init__" = some (some (.ref fI))
  tC : typeIn K (.ref fI) = some (.type "function")
  kC : keepIn K (.ref C) = true
  exC : subIn K (.ref C) (.type "BaseException") = some true
  tyC : typeIn K (.ref C) = some (.type "type")
  hdC : hasDictIn K C = true
  fn : ∃ (oc : Value) (od : Option Addr) (doc pm : Value) (an : Option Addr) (cdv ct : Value) (osl : Array (Option Value)) (p1 p2 q1 q2 q3 q4 : Pos),
    K.lookup fI = some ⟨oc, od, .func (fnOf "__init__" qual (iA fl p1 p2) (iB fl q1 q2 q3 q4) (iS fl) .none .none doc pm an cdv ct), osl⟩ ∧ codeIn K cdv qual = true
/-- the binding, for a written name -/
theorem bd_key (qual : Str) : ∀ (p1 p2 q1 q2 q3 q4 : Pos) (doc pm : Value) (an : Option Addr) (cdv ct a v : Value), bindArgs (fnOf "__init__" qual (iA "key" p1 p2) (iB "key" q1 q2 q3 q4) (iS "key") .none .none doc pm an cdv ct) ⟨[a, v], []⟩ = pure [(("self" : Str), a), (("key" : Str), v)] := fun _ _ _ _ _ _ _ _ _ _ _ _ _ => rfl
theorem one_size (v : Value) : [v].length ≤ sizeLine := by rw [sizeLine_eq]; exact (by decide : 1 ≤ 16777216)
theorem ldE {M : Model} {s : Shared} {name : Str} {scope : Scope} {L a : Addr} {cd : Value} {m : Str → Option Value} {x : Str} {pos : Pos} {v : Value} {Q : Value → Shared → Prop} {A : Around} {E : Value → Shared → Prop} (hn : s.heap.Ns L m) (hv : m x = some v) (h : Q v s)
    (hk : scope.kind = .function) (hl : (envOfC name scope L a cd).kindOf x = some .local) (hd : (x == ("__debug__" : Str)) = false) :
    wpAny M A (eval (.Name x pos) (envOfC name scope L a cd)) Q E s := wpAny_Name (wpAny_loadName_local hk hl hn hv h) hd
theorem iS_self (fl : Str) : (iS fl).names.lookup ("self" : Str) = some NameKind.local := rfl
theorem iS_fl {fl : Str} (h : FlOk fl) : (iS fl).names.lookup fl = some NameKind.local := by
  show List.lookup fl [(PySem.Str.ofString "self", NameKind.local), (fl, NameKind.local)] = _
  rw [List.lookup_cons, show (fl == PySem.Str.ofString "self") = false from h.ns, List.lookup_cons, beq_self_eq_true]
structure InitEnd (h h' : Heap) (x C dx t1 : Addr) (fl : Str) (v : Value) : Prop where
  keep : ∀ b o, b ≠ x → h.get? b = some o → h'.get? b = some o
  obj : h'.get? x = some (excObj C t1 (some dx) .none)
  dbig : h.objs.size ≤ dx
  dne : dx ≠ x
  ns : h'.Ns1 dx (fun y => if y = fl then some v else none)
/-- a made error: at e, its own dict at d -/
structure Made1 (h h' : Heap) (e C d t1 : Addr) (fl : Str) (v : Value) : Prop where
  keep : ∀ b o, h.get? b = some o → h'.get? b = some o
  new : h.objs.size ≤ e
  obj : h'.get? e = some (excObj C t1 (some d) .none)
  dbig : h.objs.size ≤ d
  dne : d ≠ e
  ns : h'.Ns1 d (fun y => if y = fl then some v else none)
section
variable {prog : Program} {w : World} {A : Around} {E : Value → Shared → Prop} {R : Result → Shared → Prop} {s : Shared} {K : Frag} {mg : Str → Option Value} {C fI : Addr} {nm fl qual : Str} {bmB : List Value} {B newId initId : String}
theorem e1_init (T : E1 K mg nm fl qual bmB newId C fI) (SF : StoreFacts B bmB "object.__setattr__" "object") {x t0 : Addr} {v : Value} (X : K.In s.heap) (hlim : s.heap.NoLimit) (hx : s.heap.get? x = some (excObj C t0 none .none)) (hroom : A.depth < recursionLimit)
    (hq : ∀ h' tk dx, InitEnd s.heap h' x C dx t0 fl v → R (.ok (.ret .none)) { s with heap := h', toks := tk }) :
    codeAny (model prog w) A (.call (.ref fI) ⟨[.ref x, v], []⟩) R s := by
  obtain ⟨oc, od, doc, pm, an, cdv, ct, osl, p1, p2, q1, q2, q3, q4, ho, hcd⟩ := T.fn
  have kf := iS_fl T.fo
  refine Att.call_fn (binds := [("self", .ref x), (fl, v)]) X hlim ho hcd hroom (BindsTo.of_eq (T.bd _ _ _ _ _ _ _ _ _ _ _ _ _)) ?_ (fun s₁ IC => ?_) rfl rfl rfl
  · rw [List.all_cons, List.all_cons, List.all_nil, iS_self, kf] <;> rfl
  obtain ⟨h₁, tk₁, rfl⟩ := IC.toInCall.same
  have k : ∀ b o, s.heap.get? b = some o → h₁.get? b = some o := IC.toInCall.keep
  have hn := IC.toInCall.ns
  have X₁ : K.In h₁ := X.keeps k
  have hx₁ := k _ _ hx
  have hnf : ¬ (("self" : Str) = fl) := fun z => by
    have q := T.fo.ns
    rw [← z, beq_self_eq_true] at q; cases q
  have ms : bindL (envOfC qual (iS fl) s.heap.objs.size fI cdv).kindOf [("self", Value.ref x), (fl, v)] (fun _ => none) "self" = some (.ref x) := by
    unfold bindL bindL bindL
    rw [show (envOfC qual (iS fl) s.heap.objs.size fI cdv).kindOf fl = some .local from kf, show (envOfC qual (iS fl) s.heap.objs.size fI cdv).kindOf "self" = some .local from iS_self fl, if_pos rfl, if_pos rfl]
    show (if ("self" : Str) = fl then _ else _) = _
    rw [if_neg hnf] <;> rfl
  have mf : bindL (envOfC qual (iS fl) s.heap.objs.size fI cdv).kindOf [("self", Value.ref x), (fl, v)] (fun _ => none) fl = some v := by
    unfold bindL bindL bindL
    rw [show (envOfC qual (iS fl) s.heap.objs.size fI cdv).kindOf fl = some .local from kf, if_pos rfl]
    show (if fl = fl then some v else _) = _
    rw [if_pos rfl]
  show wpAny _ _ (execs _ _) _ _ _
  refine wpAny_execs_cons (plainObj_wpAny_Assign_Attribute ?_)
  refine ldE (v := v) hn mf (ldE (v := .ref x) hn ms ?_ rfl (iS_self fl) (by decide)) rfl kf T.fo.nd
  have htk : takerIn K C fl = some none := by
    unfold takerIn
    rw [T.noN] <;> rfl
  refine set_plain X₁ (ox := excObj C t0 none .none) (od := none) ⟨hx₁, rfl, rfl, trivial⟩ T.sa ?_
  refine osa_first SF X₁ hx₁ T.ov htk T.hdC (fun h₃ tk₃ dx k₃ dn dne hx₃ hn₃ => ?_)
  show wpAny _ _ (execs _ _) _ _ _
  have z : s.heap.objs.size < h₁.objs.size := hn.lt
  exact wpAny_execs_nil (hq h₃ tk₃ dx ⟨fun b o hb e => k₃ b o hb (k b o e), hx₃, Nat.le_of_lt (Nat.lt_of_lt_of_le z dn), dne, hn₃⟩)
theorem e1_made (T : E1 K mg nm fl qual bmB newId C fI) (FB : ExcBaseFacts B newId initId bmB) (SF : StoreFacts B bmB "object.__setattr__" "object") {v : Value} (X : K.In s.heap) (hlim : s.heap.NoLimit) (hroom : A.depth + 1 < recursionLimit)
    (hq : ∀ h' tk e d t1, Made1 s.heap h' e C d t1 fl v → R (.ok (.ret (.ref e))) { s with heap := h', toks := tk }) :
    codeAny (model prog w) A (.call (.ref C) ⟨[v], []⟩) R s := by
  obtain ⟨n', q, N, bs, bm, sn, sub, ab, col, dd, k0, k1, k2, k3, k5, hC, hbm⟩ := T.cls
  obtain ⟨hp, g, dr, tk, os⟩ := s
  have k : ∀ b o, hp.get? b = some o → ((hp.push (kdv_tup [v])).push (PySem.HandSPX.excO C hp.objs.size)).get? b = some o := fun b o e => Heap.get?_push_of_some _ (Heap.get?_push_of_some _ e)
  have hget : ((hp.push (kdv_tup [v])).push (PySem.HandSPX.excO C hp.objs.size)).get? (hp.objs.size + 1) = some (excObj C hp.objs.size none .none) := by heap_get
  refine PySem.HandSPX.call_own FB (fun Y => excTail_contains Y bm hbm) (X _ _ hC) (looks_findIn X T.iC) (fun self => bind_fn X self T.tC) (one_size v) ?_
  refine e1_init (s := ⟨(hp.push (kdv_tup [v])).push (PySem.HandSPX.excO C hp.objs.size), g, dr, tk, os⟩) T SF (X.keeps k) (hlim.keeps k) hget ?_ fun h' tk' dx ⟨k', hx, dn, dne, hns⟩ => ?_
  · show A.depth + 1 < recursionLimit
    exact hroom
  · have old : ∀ b o, hp.get? b = some o → h'.get? b = some o := fun b o e => k' b o (Nat.ne_of_lt (Nat.lt_succ_of_lt (Heap.lt_size e))) (k b o e)
    have z : hp.objs.size + 1 + 1 ≤ dx := by
      have q := dn
      rw [Heap.size_push, Heap.size_push] at q
      exact q
    exact ⟨rfl, hq h' tk' (hp.objs.size + 1) dx _ ⟨old, Nat.le_succ _, hx, Nat.le_trans (Nat.le_trans (Nat.le_succ _) (Nat.le_succ _)) z, dne, hns⟩⟩
end
end EX
end PySem
namespace PR
open PySem L2 PySem.Spec PyProof.Rows PySem.EX
theorem relO_one {fl : Str} {v : V} {v' : Value} (r : RelV v v') (f : Str) : RelO (List.lookup f [(fl, v)]) (if f = fl then some v' else none) := by
  rw [List.lookup_cons]
  by_cases h : f = fl
  · subst h
    rw [if_pos rfl, beq_self_eq_true]
    exact r
  · rw [if_neg h, show (f == fl) = false from beq_eq_false_iff_ne.mpr h]
    trivial
section
variable {X : Cx} {C fI : Addr} {nm fl qual : Str} {bmB : List Value} {B newId initId : String}
/-- C(e), to be raised -/
def tMk1 (C : Addr) (fl : Str) (ta : TA) : L2.St → Hp → XK → Prop := fun σ H Q => ta σ H fun vs H1 => ∃ v, vs = [v] ∧ ∀ d, H1 d = none → Q (.ref C) (some d) (upd H1 d (.xd [(fl, v)]))
theorem pmk_e1 {a : Expr} {ta : TA} {p pos : Pos} {k : Nat} (T : E1 X.K X.mg nm fl qual bmB newId C fI) (FB : ExcBaseFacts B newId initId bmB) (SF : StoreFacts B bmB "object.__setattr__" "object") (hr : Room k X.A) (ha : PA X [a] ta) (hg : Gl X nm := by rfl)
    (hd : (nm == ("__debug__" : Str)) = false := by decide) (he : starEach (a :: []) X.env = (false, eval a X.env) :: starEach [] X.env := by rfl) (hpl : (backTo pos (starEach [] X.env)).any (·.1) = false := by rfl) :
    L2N.PMk X (.Call (.Name nm p) [a] [] pos) (tMk1 C fl ta) := by
  intro pins s σ H Q I h
  refine wpAny_Call_Name_kw (ld_glob I hg T.gC ?_ hd)
  refine PySem.W.callWith_K (h₀ := X.base) I.ok.mod.kin T.kC (thn (ha.run pos pins s σ H _ I h) fun us s1 hh => ?_) he hpl
  obtain ⟨vs, H1, I1, r1, v, ev, q1⟩ := hh
  subst ev
  refine ⟨I1.kIn, ?_⟩
  obtain ⟨v', rfl, rv⟩ := Vals.one r1
  show wpAny _ _ (call (.ref C) [v']) _ _ _
  have hlim := I1.nolimit
  obtain ⟨hp, g, dr, tk, os⟩ := s1
  refine wpAny_call (e1_made T FB SF I1.kIn hlim (by have := hr.dp; omega) fun h' tk' e d t1 M => ?_)
  show L2N.MkP X pins σ Q (.ref e) ⟨h', g, dr, tk', os⟩
  have hns := M.ns
  obtain ⟨G', g1, g2⟩ := restrict h' fun b => decide (b ≠ e)
  have gk : ∀ b, b ≠ e → G'.get? b = h'.get? b := fun b hb => g1 b (decide_eq_true hb)
  have ge : G'.get? e = none := g2 e (by simp)
  have old : ∀ b o, hp.get? b = some o → G'.get? b = some o := fun b o q => (gk b (Nat.ne_of_lt (Nat.lt_of_lt_of_le (Heap.lt_size q) M.new))).trans (M.keep b o q)
  have ob : ObjOk X.prog X.w (upd H1 d (.xd [(fl, v)])) G' d (.xd [(fl, v)]) := ⟨_, hns.at (fun o q => (gk d M.dne).trans q), fun f => relO_one rv f⟩
  have J : Inv X pins σ (upd H1 d (.xd [(fl, v)])) ⟨G', g, dr, tk', os⟩ := I1.laid (t' := tk') old M.dbig ob
  refine ⟨e, _, _, ⟨G', g, dr, tk', os⟩, _, .ref C, some d, rfl, J, fun b o q => ?_, ge, M.obj, ⟨rfl, rfl, fun vs hv => by cases hv; rfl⟩, rfl, rfl, ?_, rfl, I1.bare, raises_own T.exC T.tyC, q1 d (I1.hok.fresh M.dbig)⟩
  · by_cases hb : b = e
    · rw [hb, ge] at q; cases q
    · exact (gk b hb).symm.trans q
  · rw [upd_ne (Ne.symm M.dne)]
    exact I1.hok.fresh M.new
/-- what making the error asks -/
def ErrA (C : Addr) (fl : Str) (vs : List V) (H1 : Hp) (Q : XK) : Prop := ∃ v, vs = [v] ∧ ∀ d, H1 d = none → Q (.ref C) (some d) (upd H1 d (.xd [(fl, v)]))
theorem Rd.mk1 {ta : TA} {σ : L2.St} {H : Hp} {Q : XK} (h : ta σ H fun vs H1 => ErrA C fl vs H1 Q) : tMk1 C fl ta σ H Q := h
theorem Rd.errA {v : V} {H1 : Hp} {Q : XK} (h : ∀ d H2, H1 d = none → Same H1 H2 → H2 d = some (.xd [(fl, v)]) → Q (.ref C) (some d) H2) : ErrA C fl [v] H1 Q := ⟨v, rfl, fun d n => h d _ n (same_upd n) upd_same⟩
/-- raise C(e) -/
theorem ps_raise1 {a : Expr} {ta : TA} {W : WX} {p pos pos2 : Pos} {k : Nat} (hc : X.calm = true) (T : E1 X.K X.mg nm fl qual bmB newId C fI) (FB : ExcBaseFacts B newId initId bmB) (SF : StoreFacts B bmB "object.__setattr__" "object") (hr : Room k X.A) (tk : L2N.Takes X W) (ha : PA X [a] ta) (hg : Gl X nm := by rfl)
    (hd : (nm == ("__debug__" : Str)) = false := by decide) (he : starEach (a :: []) X.env = (false, eval a X.env) :: starEach [] X.env := by rfl) (hpl : (backTo pos (starEach [] X.env)).any (·.1) = false := by rfl) :
    PS X (.Raise (some (.Call (.Name nm p) [a] [] pos)) none pos2) (fun _ σ H => tMk1 C fl ta σ H fun cls d H' => W cls d σ H') := L2N.ps_raise hc tk (pmk_e1 T FB SF hr ha hg hd he hpl)
end
/-! ### defs whose errors have no context -/
section
variable {P : Program} {w : World} {K : PySem.W.Frag} {mg : Str → Option Value} {base : Heap}
theorem cxN_cx {outer : List Env} {H : Hp} {s : Shared} {E : XK} {u : Value} {s' : Shared} (h : L2N.CX P w outer H s E u s') : L2.CX P w outer H s E u s' := by
  obtain ⟨a, B, H', cls, d, e, fl, hok, ub, na, os, ag, he⟩ := h
  obtain ⟨f1, f2, f3, oe, vs, T, oT, ts, g1, hz, g2⟩ := fl
  exact ⟨a, B, H', cls, d, e, ⟨f1, f2, f3, oe, vs, T, oT, ts, g1, hz.zc, g2⟩, hok, ub, na, os, ag, he⟩
theorem _root_.L2.FnOk.weakN {k : Nat} {f : Addr} {fd : FuncData} {ps : List Str} {sp : Sp} (F : FnOk P w K mg base (L2N.CX P w) k f fd ps sp) : FnOk P w K mg base (L2.CX P w) k f fd ps sp :=
  ⟨F.len, fun A outer s H args us vs Q E hr he hb hv hs => codeAny_mono (F.run A outer s H args us vs Q E hr he hb hv hs) fun r s' h => by
    cases r with
    | error e => exact cxN_cx h
    | ok fl => cases fl <;> exact h⟩
theorem _root_.L2.Fun.okN {x qual : Str} {st : Stmt} {f : Addr} {fd : FuncData} {N ps : List Str} {k : Nat} {sp : Sp} (F : Fun K x qual st f fd) (S : FnScope N ps (defScope st)) (len : ∀ vs H Q E, sp vs H Q E → vs.length = ps.length)
    (hbody : ∀ (cdv : Value) (A : Around) (outer : List Env) (s : Shared) (H : Hp) (vs : List V) (Q : VK) (E : XK), Room k (A.deeper (envOfC qual (defScope st) s.heap.objs.size f cdv)) → sp vs H Q E →
      ∃ t, PSs (cxOf (L2N.CX P w) P w K mg base N qual (defScope st) f cdv A outer s H E) (defBody st) t ∧ t { nx := fun _ H' => Q .non H', rt := Q } (L2.start N vs) H) : FnOk P w K mg base (L2N.CX P w) (k + 1) f fd ps sp := by
  obtain ⟨oc, od, kV, doc, pm, an, cdv, ct, osl, rfl, lk, hcd⟩ := F.ex
  exact fn_of lk hcd S len fun A outer s H vs Q E hr hsp => hbody cdv A outer s H vs Q E hr hsp
theorem _root_.L2.FunD.okN {x qual : Str} {params : Arguments} {body : List Stmt} {scope : Scope} {dvs : List V} {kws : List (Str × V)} {f : Addr} {fd : FuncData} {N ps : List Str} {k : Nat} {sp : Sp} (F : FunD K x qual params body scope dvs kws f fd) (S : FnScope N ps scope) (len : ∀ vs H Q E, sp vs H Q E → vs.length = ps.length)
    (hbody : ∀ (cdv : Value) (A : Around) (outer : List Env) (s : Shared) (H : Hp) (vs : List V) (Q : VK) (E : XK), Room k (A.deeper (envOfC qual scope s.heap.objs.size f cdv)) → sp vs H Q E →
      ∃ t, PSs (cxOf (L2N.CX P w) P w K mg base N qual scope f cdv A outer s H E) body t ∧ t { nx := fun _ H' => Q .non H', rt := Q } (L2.start N vs) H) : FnOk P w K mg base (L2N.CX P w) (k + 1) f fd ps sp := FunD.ok F S len hbody
theorem passN {N : List Str} {qual : Str} {scope : Scope} {f : Addr} {cd : Value} {Ar : Around} {outer : List Env} {s : Shared} {H : Hp} {E : XK} : Passes (L2N.CX P w) (cxOf (L2N.CX P w) P w K mg base N qual scope f cd Ar outer s H E) E :=
  L2N.passes_call (L2N.takes_of rfl rfl rfl rfl) fun _ _ _ _ h => h
end
end PR
end

section
set_option maxHeartbeats 4000000
/-! exceptions in the air: clauses with names whose suites raise, raise .. from a name, with -/
namespace PR
open PySem PySem.Spec PyProof.Rows L2 L2H HotX
section
variable {X : Cx} {pins : List (Addr × Obj)} {σ : L2.St} {H : Hp}
/-- what is told of an exception at x with its trace at t -/
structure Air (X : Cx) (pins : List (Addr × Obj)) (Z : Obj → Prop) (x t : Addr) (ox ot : Obj) (va vt : Array Value) (fl : Value) : Prop where
  z : Z ox
  dx : ox.data = .fields va
  v1 : va[1]? = some (.ref t)
  ne : t ≠ x
  dt : ot.data = .fields vt
  v3 : vt[3]? = some fl
  far : ∀ b o, X.s_0.heap.get? b = some o → b ≠ x ∧ b ≠ t
  farP : ∀ p, p ∈ X.pn ++ pins → p.1 ≠ x ∧ p.1 ≠ t
/-- noted: pinned, with its trace -/
theorem air_in {B : Heap} {sI s' : Shared} {x : Addr} {Z : Obj → Prop} {fl : Value} (hs : X.stack = X.env :: X.outer) (hf : X.env.frame = some X.env.locals) (hex : X.ex = []) (J : Inv X pins σ H sI)
    (nb : ∀ b o, sI.heap.get? b = some o → b ∉ frs X.stack → B.get? b = some o) (up : sI.heap.UpToSlots s'.heap) (st : B.StaysIn s'.heap) (bx : B.get? x = none) (ff : s'.heap.FunFrames B (X.env :: X.outer)) (tr : HandSPX.TracedZ s'.heap B x Z fl)
    (na : H x = none) (os : s'.os = sI.os) (ag : AllBare s'.gens) :
    ∃ t ox ot va vt, Air X pins Z x t ox ot va vt fl ∧ s'.heap.get? x = some ox ∧ s'.heap.get? t = some ot ∧ H t = none ∧ x ≠ X.env.locals ∧ x ∉ X.fs ∧ Inv X ((x, ox) :: (t, ot) :: pins) σ H s' := by
  have J2 : Inv X pins σ H s' := J.landed nb st up os ag
  obtain ⟨ox, va, t, ot, vt, gx, hz, dx, v1, bt, ne, gt, dt, v3⟩ := tr
  have ht : H t = none := (J.inGround nb).gone bt
  have nofr : ∀ (b : Addr) (o : Obj) (fv : Array Value), s'.heap.get? b = some o → o.data = .fields fv → b ∉ frs (X.env :: X.outer) := fun b o fv eb db hm => by
    obtain ⟨_, o2, e2, n2⟩ := ff.mem hm
    have eo : o = o2 := Option.some.inj (eb.symm.trans e2)
    rw [← eo] at n2
    exact n2 _ db
  have lf : X.env.locals ∈ frs (X.env :: X.outer) := List.mem_filterMap.mpr ⟨X.env, List.mem_cons_self, hf⟩
  have fsf : ∀ b, b ∈ X.fs → b ∈ frs (X.env :: X.outer) := fun b hm => by
    obtain ⟨e1, h1, q1⟩ := List.mem_filterMap.mp hm
    exact List.mem_filterMap.mpr ⟨e1, List.mem_cons_of_mem _ h1, q1⟩
  have fx := nofr x ox va gx dx
  have ft := nofr t ot vt gt dt
  have far1 : ∀ b o, sI.heap.get? b = some o → b ≠ x ∧ b ≠ t := fun b o eb => by
    by_cases hb : b ∈ frs X.stack
    · rw [hs] at hb
      exact ⟨fun z => fx (by rw [← z]; exact hb), fun z => ft (by rw [← z]; exact hb)⟩
    · have q := nb b o eb hb
      refine ⟨fun z => ?_, fun z => ?_⟩
      · rw [z, bx] at q
        cases q
      · rw [z, bt] at q
        cases q
  refine ⟨t, ox, ot, va, vt, ⟨hz, dx, v1, ne, dt, v3, fun b o eb => ?_, fun p hp => far1 p.1 p.2 (J.pin p hp).1⟩, gx, gt, ht, fun z => fx (by rw [z]; exact lf), fun z => fx (fsf _ z), J2.pins_of fun p hp => ?_⟩
  · obtain ⟨o2, q⟩ := J.base.there b o eb (by rw [hex]; simp)
    exact far1 b o2 q
  · rcases List.mem_cons.mp hp with z | hp
    · rw [z]
      refine ⟨gx, na, fun z2 => fx ?_, fun z2 => fx (fsf _ z2), fun v z2 => ?_⟩
      · rw [show x = X.env.locals from z2]
        exact lf
      · have z3 : ox.data = .cell v := z2
        rw [dx] at z3
        cases z3
    rcases List.mem_cons.mp hp with z | hp
    · rw [z]
      refine ⟨gt, ht, fun z2 => ft ?_, fun z2 => ft (fsf _ z2), fun v z2 => ?_⟩
      · rw [show t = X.env.locals from z2]
        exact lf
      · have z3 : ot.data = .cell v := z2
        rw [dt] at z3
        cases z3
    · exact J2.pin p (List.mem_append_right _ hp)
/-- on it goes -/
theorem air_out {α : Type} {nm : String} {s6 : Shared} {x t : Addr} {ox ot : Obj} {va vt : Array Value} {fl cls : Value} {d : Option Addr} {Wout : WX} {Q : α → Shared → Prop} (hs : X.stack = X.env :: X.outer) (hf : X.env.frame = some X.env.locals)
    (a : Air X pins (Zc cls d) x t ox ot va vt fl) (tk : Takes X Wout) (J : Inv X ((x, ox) :: (t, ot) :: pins) σ H s6) (w : Wout cls d σ H) : wpAny (model X.prog X.w) X.A (PySem.passOn nm (.ref x) X.env : Sem α) Q X.xe s6 := by
  have px := J.pin (x, ox) (List.mem_append_right _ List.mem_cons_self)
  have pt := J.pin (t, ot) (List.mem_append_right _ (List.mem_cons_of_mem _ List.mem_cons_self))
  have gx : s6.heap.get? x = some ox := px.1
  have gt : s6.heap.get? t = some ot := pt.1
  have J0 : Inv X pins σ H s6 := J.pins_of fun p hp => J.pin p (List.mem_append_right _ (List.mem_cons_of_mem _ (List.mem_cons_of_mem _ hp)))
  obtain ⟨G, g1, g2⟩ := restrict s6.heap fun b => !(decide (b = x) || decide (b = t))
  have gin : ∀ b o, G.get? b = some o → s6.heap.get? b = some o ∧ b ≠ x ∧ b ≠ t := fun b o eb => by
    cases q : (!(decide (b = x) || decide (b = t))) with
    | false =>
      rw [g2 b q] at eb
      cases eb
    | true =>
      rw [g1 b q] at eb
      simp only [Bool.not_eq_true', Bool.or_eq_false_iff, decide_eq_false_iff_not] at q
      exact ⟨eb, q.1, q.2⟩
  have gof : ∀ b o, b ≠ x → b ≠ t → s6.heap.get? b = some o → G.get? b = some o := fun b o n1 n2 eb => by
    rw [g1 b (by simp [n1, n2])]
    exact eb
  have I6 : Inv X pins σ H { s6 with heap := G } := J0.less (fun b o eb => (gin b o eb).1) gof ⟨ox, va, gx, a.dx⟩ ⟨ot, vt, gt, a.dt⟩ px.2.1 pt.2.1 a.far a.farP
  have bin : ∀ b o, (PySem.W.hideAll G (frs X.stack)).get? b = some o → s6.heap.get? b = some o := fun b o eb => (gin b o (PySem.W.of_hideAll _ eb)).1
  have bno : ∀ b, (b = x ∨ b = t) → (PySem.W.hideAll G (frs X.stack)).get? b = none := fun b hb => by
    cases q : (PySem.W.hideAll G (frs X.stack)).get? b with
    | none => rfl
    | some o =>
      obtain ⟨_, n1, n2⟩ := gin b o (PySem.W.of_hideAll _ q)
      rcases hb with z | z
      · exact absurd z n1
      · exact absurd z n2
  have ff : s6.heap.FunFrames (PySem.W.hideAll G (frs X.stack)) (X.env :: X.outer) := by
    have f0 := funFrames_none (B := PySem.W.hideAll G (frs X.stack)) J0.stack fun b hb => PySem.W.hideAll_none _ hb
    rw [← hs]
    exact f0
  have tr : HandSPX.TracedZ s6.heap (PySem.W.hideAll G (frs X.stack)) x (Zc cls d) fl := ⟨ox, va, t, ot, vt, gx, a.z, a.dx, a.v1, bno t (.inr rfl), a.ne, gt, a.dt, a.v3⟩
  unfold PySem.passOn
  refine wpAny_bind (wpAny_field gx a.dx a.v1 ?_)
  rw [if_neg (show ¬ ((Value.ref t == Value.none) = true) from by simp)]
  have go : wpAny (model X.prog X.w) X.A (setFlight (.ref x) X.env.frame) (fun _ s7 => wpAny (model X.prog X.w) X.A (throw (.ref x) : Sem α) Q X.xe s7) X.xe s6 := by
    rw [hf]
    refine HandSPX.setFlight_anyZ (fr := some X.env.locals) bin ff tr fun h7 k1 k2 k3 k4 => wpAny_throw (tk _ _ ?_)
    refine ⟨x, PySem.W.hideAll G (frs X.stack), { s6 with heap := G }, pins, σ, H, cls, d, rfl, I6, fun b o eb hb => PySem.W.hideAll_get _ eb hb, ?_, .inr (.inr ?_), px.2.1, rfl, J0.bare, w⟩
    · exact Heap.UpToSlots.trans (Heap.UpToSlots.of_keeps fun b o eb => (gin b o eb).1) k4
    · exact ⟨k1, bno x (.inl rfl), by rw [← hs] at k2; exact k2, k3⟩
  first
    | exact wpAny_bind (wpAny_pure (wpAny_bind go))
    | exact wpAny_bind go
end

/-- the context of a clause's suite -/
abbrev suiteN (X : Cx) (x : Addr) (pn : List (Addr × Obj)) (xe : Value → Shared → Prop) : Cx := { X with A := X.A.mark (some (.ref x)), calm := false, pn := pn, xe := xe }
def bnd : Option Nat → Addr → L2.St → L2.St
  | none, _, σ => σ
  | some i, a, σ => σ.set i (some (.ref a))
def unb : Option Nat → L2.St → L2.St
  | none, σ => σ
  | some i, σ => σ.set i none
def endsN (i : Option Nat) (D : Ends) : Ends := { nx := fun σ H => D.nx (unb i σ) H, rt := D.rt, bk := fun σ H => D.bk (unb i σ) H, ct := fun σ H => D.ct (unb i σ) H }
def outN (i : Option Nat) (Wout : WX) : WX := fun cls d σ H => Wout cls d (unb i σ) H
/-- a clause: its class, its name's slot, its suite (told what is wished of what the suite raises) -/
abbrev Cl := Value × Option Nat × (Addr → Value → Option Addr → WX → TS)
/-- what the clauses wish of an exception -/
def wN (K : PySem.W.Frag) (Wout : WX) (D : Ends) : List Cl → WX
  | [] => Wout
  | (c, i, ts) :: r => fun cls d σ H => ∃ b, PySem.W.exmOne K cls c = some b ∧ (b = true → ∀ a, H a = none → ts a cls d (outN i Wout) (endsN i D) (bnd i a σ) H) ∧ (b = false → wN K Wout D r cls d σ H)

inductive ClsN (X : Cx) : List ExceptHandler → List Cl → Prop
  | nil : ClsN X [] []
  | as_ {x n : Str} {c : Value} {i : Nat} {ts : Addr → Value → Option Addr → WX → TS} {b₀ : Stmt} {suite : List Stmt} {np pos' : Pos} {hds : List ExceptHandler} {l : List Cl} (hc : Names X x c) (hi : X.N[i]? = some n) (hln : X.env.kindOf n = some .local)
      (hsu : ∀ (a : Addr) (oe : Obj) (cls : Value) (d : Option Addr) (pn : List (Addr × Obj)) (xe : Value → Shared → Prop) (W : WX), L2N.Zn cls d oe → (∃ vs, oe.data = .fields vs) → Takes (suiteN X a ((a, oe) :: pn) xe) W → HotC (suiteN X a ((a, oe) :: pn) xe) →
        PSs (suiteN X a ((a, oe) :: pn) xe) (b₀ :: suite) (ts a cls d W)) (r : ClsN X hds l) :
      ClsN X (.ExceptHandler (some (.Name x np)) (some n) (b₀ :: suite) pos' :: hds) ((c, some i, ts) :: l)
  | no {x : Str} {c : Value} {ts : Addr → Value → Option Addr → WX → TS} {b₀ : Stmt} {suite : List Stmt} {np pos' : Pos} {hds : List ExceptHandler} {l : List Cl} (hc : Names X x c)
      (hsu : ∀ (a : Addr) (oe : Obj) (cls : Value) (d : Option Addr) (pn : List (Addr × Obj)) (xe : Value → Shared → Prop) (W : WX), L2N.Zn cls d oe → (∃ vs, oe.data = .fields vs) → Takes (suiteN X a ((a, oe) :: pn) xe) W → HotC (suiteN X a ((a, oe) :: pn) xe) →
        PSs (suiteN X a ((a, oe) :: pn) xe) (b₀ :: suite) (ts a cls d W)) (r : ClsN X hds l) :
      ClsN X (.ExceptHandler (some (.Name x np)) none (b₀ :: suite) pos' :: hds) ((c, none, ts) :: l)
section
variable {X : Cx} {body : List Stmt} {h₀ : ExceptHandler} {hds : List ExceptHandler} {l : List Cl} {pos : Pos} {tb : WX → TS} {Wout : WX}
theorem ps_tryN {K : PySem.W.Frag} (hK : X.K = K) (hs : X.stack = X.env :: X.outer) (hf : X.env.frame = some X.env.locals) (hex : X.ex = []) (hN : X.N.Nodup) (hpa : ∀ hd : Option Value, PassesOwnAt (model X.prog X.w) (X.A.mark hd) X.A X.env X.xe) (tk : Takes X Wout)
    (hb : ∀ (W : WX) (pn : List (Addr × Obj)) (xe : Value → Shared → Prop), L2N.Takes (X.tr pn xe) W → PassesOwn (model X.prog X.w) X.A X.env xe → PSs (X.tr pn xe) body (tb W))
    (hh : ClsN X (h₀ :: hds) l) : PS X (.Try body (h₀ :: hds) [] [] pos) (fun D σ H => tb (wN K Wout D l) D σ H) := by
  subst hK
  refine ⟨fun pins s σ H D I h => ?_⟩
  have ok := I.ok
  have hfr : X.A.frames = some (X.env :: X.outer) := by rw [ok.frames, hs]
  refine wpAny_Try_except ?_
  refine wpAny_mono ((hb (wN X.K Wout D l) (X.pn ++ pins) (fun e s₁ => wpAny (model X.prog X.w) X.A (noteFrame e X.env) (fun _ s₂ => wpAny (model X.prog X.w) X.A (setFlight e none) (fun _ s₃ =>
    wpAny (model X.prog X.w) X.A (handleBy e X.env (h₀ :: hds)) (SP X pins D) X.xe s₃) X.xe s₂) X.xe s₁) (fun u s' xx => ?_) PassesOwn.looking).run [] s σ H D (I.toTry _) h) (fun f s1 hsp => ?_) (fun e s1 he => he)
  · obtain ⟨x, B, sI, pins', σ1, H1, cls, d, rfl, J', nb, up, sky, na, os, ag, w⟩ := xx
    have J : Inv X pins σ1 H1 sI := J'.ofTry ok
    have sky1 : Sky B (X.env :: X.outer) x (L2N.Zn cls d) X.env.locals s'.heap := by rw [← hs]; exact sky
    show wpAny (model X.prog X.w) X.A (noteFrame (.ref x) X.env) _ _ _
    refine L2N.Sky.land L2N.Zn.steady hfr hf sky1 fun h3 fl3 up3 => ?_
    obtain ⟨t, ox, ot, va, vt, air, gx, gt, ht, nL, nF, J3⟩ := air_in (s' := { s' with heap := h3 }) hs hf hex J nb (up.trans up3) fl3.1 fl3.2.1 fl3.2.2.1 fl3.2.2.2 na os ag
    have J2 : Inv X pins σ1 H1 { s' with heap := h3 } := J3.pins_of fun p hp => J3.pin p (List.mem_append_right _ (List.mem_cons_of_mem _ (List.mem_cons_of_mem _ hp)))
    have S3 := J2.suite gx air.dx na nL nF
    have zc : Zc cls d ox := air.z.zc
    have rest : ∀ {hds' : List ExceptHandler} {l' : List Cl}, ClsN X hds' l' → wN X.K Wout D l' cls d σ1 H1 → wpAny (model X.prog X.w) X.A (handleBy (.ref x) X.env hds') (SP X pins D) X.xe { s' with heap := h3 } := by
      have test : ∀ {y : Str} {np : Pos} {c : Value}, Names X y c → ∀ {Q : Value → Shared → Prop} {E : Value → Shared → Prop}, Q c { s' with heap := h3 } → wpAny (model X.prog X.w) (X.A.mark (some (.ref x))) (eval (.Name y np) X.env) Q E { s' with heap := h3 } := fun {y np c} hc {Q E} q => by
        obtain ⟨hg, hdbg, hm | ⟨hm, hv, hnn⟩⟩ := hc
        · exact ld_glob (X := X.suite x ((x, ox) :: (X.pn ++ pins))) S3 hg hm q hdbg
        · exact ld_blt (X := X.suite x ((x, ox) :: (X.pn ++ pins))) S3 hg hm hv q hnn hdbg
      have LT : PySem.W.Looks (model X.prog X.w) h3 (typeOf (.ref x)) cls := fun A Q E s k q => wpAny_typeOf_ref (k _ _ gx) (by rw [zc.1]; exact q)
      have tkS : ∀ {oe : Obj} {W : WX}, Takes X W → Takes (suiteX X x ((x, oe) :: (X.pn ++ pins))) W := fun {oe W} tk0 u2 s2 x2 => by
        obtain ⟨a2, B2, sI2, pn2, σ2, H2, cls2, d2, e2, I2, nb2, up2, sky2, na2, os2, ag2, w2⟩ := x2
        exact tk0 u2 s2 ⟨a2, B2, sI2, pins, σ2, H2, cls2, d2, e2, unsuiteX I2 ok, nb2, up2, sky2, na2, os2, ag2, w2⟩
      intro hds' l' hk
      induction hk with
      | nil =>
        intro w
        refine wpAny_handleBy_nil (air_out hs hf ⟨zc, air.dx, air.v1, air.ne, air.dt, air.v3, air.far, air.farP⟩ tk J3 w)
      | @as_ y n c i ts b₀ suite np pos' hds2 l2 hc hi hln hsu r ih =>
        intro w
        obtain ⟨b, hb1, hyes, hno⟩ := w
        refine wpAny_handleBy_cons (codeAny_handlers_test ?_) (by intro q; cases q)
        refine test hc ((PySem.W.exm_one (M := model X.prog X.w) J2.kIn LT hb1).here ?_)
        cases b with
        | false => exact ih (hno rfl)
        | true =>
          refine codeAny_handlers_suite_as ?_
          refine HandSPX.lands_againZ fl3 fun h4 fl4 up4 => ?_
          have J4 : Inv X pins σ1 H1 { s' with heap := h4 } := J.landed nb fl4.1 ((up.trans up3).trans up4) os ag
          obtain ⟨o4, v4, g4, z4, d4⟩ := fl4.there
          have S4 := J4.suite g4 d4 na nL nF
          have hloc : Loc X.env.scope n := .inl hln
          refine store_ok (X := X.suite x ((x, o4) :: (X.pn ++ pins))) (v := .ref x) S4 hN hi hloc rfl (fun s5 S5 => ?_) (.inr hln)
          have fin : ∀ {σ6 : L2.St} {H6 : Hp} {s6 : Shared} {Q : Shared → Prop}, Inv X pins σ6 H6 s6 → (∀ s7, Inv X pins (σ6.set i none) H6 s7 → Q s7) →
              wpAny (model X.prog X.w) X.A (do bindName X.env n .none; unbindBehindTheSuite X.env n pos') (fun _ s7 => Q s7) X.xe s6 := fun {σ6 H6 s6 Q} S6 hq => gone_ok S6 hN hi hln hq
          refine wpAny_mono ((hsu x o4 cls d (X.pn ++ pins) _ (outN (some i) Wout) z4 ⟨_, d4⟩ (fun u s6 x6 => ?_) ⟨(x, o4), ⟨rfl, v4, d4, z4.2.2 v4 d4⟩, List.mem_cons_self⟩).run [] s5 _ H1 _ (Inv.wish (X := suiteX X x ((x, o4) :: (X.pn ++ pins))) (suiteX_of S5) _) (hyes rfl x na)) (fun f s6 hsp => ?_) (fun _ _ z => z)
          · obtain ⟨a6, B6, sI6, pn6, σ6, H6, cls6, d6, rfl, I6, nb6, up6, sky6, na6, os6, ag6, w6⟩ := x6
            have I7 : Inv (suiteX X x ((x, o4) :: (X.pn ++ pins))) pn6 σ6 H6 sI6 := Inv.unwish I6
            have sky7 : Sky B6 (X.env :: X.outer) a6 (Zc cls6 d6) X.env.locals s6.heap := by rw [← hs]; exact sky6
            show wpAny (model X.prog X.w) (X.A.mark (some (.ref x))) (noteFrame (.ref a6) X.env) _ _ _
            have fin7 : ∀ h7, HandSPX.HeldZ B6 (X.env :: X.outer) a6 (Zc cls6 d6) X.env.locals h7 → s6.heap.UpToSlots h7 → wpAny (model X.prog X.w) (X.A.mark (some (.ref x))) (do bindName X.env n .none; unbindBehindTheSuite X.env n pos')
                (fun _ s₄ => wpAny (model X.prog X.w) (X.A.mark (some (.ref x))) (passOn "try.except-as" (.ref a6) X.env : Sem Flow) (fun _ _ => False) (notedBy (model X.prog X.w) (X.A.mark (some (.ref x))) X.env (cameBackBy (model X.prog X.w) X.A X.env X.xe)) s₄)
                (fun y s₄ => wpAny (model X.prog X.w) (X.A.mark (some (.ref x))) (setFlight (.ref a6) none) (fun _ s₅ => (notedBy (model X.prog X.w) (X.A.mark (some (.ref x))) X.env (cameBackBy (model X.prog X.w) X.A X.env X.xe)) y s₅) (notedBy (model X.prog X.w) (X.A.mark (some (.ref x))) X.env (cameBackBy (model X.prog X.w) X.A X.env X.xe)) s₄) { s6 with heap := h7 } := fun h7 fl7 up7 => by
              obtain ⟨t7, o7, ot7, va7, vt7, air7, gx7, gt7, ht7, nL7, nF7, J7⟩ := air_in (X := suiteX X x ((x, o4) :: (X.pn ++ pins))) (s' := { s6 with heap := h7 }) hs hf hex I7 nb6 (up6.trans up7) fl7.1 fl7.2.1 fl7.2.2.1 fl7.2.2.2 na6 os6 ag6
              refine gone_ok (X := suiteX X x ((x, o4) :: (X.pn ++ pins))) J7 hN hi hln fun s8 J8 => ?_
              exact wpAny_mono (air_out (X := suiteX X x ((x, o4) :: (X.pn ++ pins))) hs hf air7 (tkS tk) J8 w6) (fun _ _ z => z) (fun e8 s8 z => hpa (some (.ref x)) e8 s8 z)
            rcases sky7 with ⟨hB, hn, hl, oe, vs, he, hz, hd, h1⟩ | fl | hh
            · exact HandSPX.look_newZ Zc.steady hfr hl hf he hB hn hd h1 hz fin7
            · exact HandSPX.looks_onZ Zc.steady hfr hf fl fin7
            · exact HandSPX.againZ hf hh.2.2.2 (fin7 s6.heap hh (Heap.UpToSlots.refl _))
          · have back : ∀ {σ6 : L2.St} {H6 : Hp} {xe6 : Value → Shared → Prop}, Inv (suiteN X x ((x, o4) :: (X.pn ++ pins)) xe6) [] σ6 H6 s6 → Inv X pins σ6 H6 s6 := fun {σ6 H6 xe6} I6 => unsuiteX (Inv.unwish (X := suiteX X x ((x, o4) :: (X.pn ++ pins))) I6) ok
            cases f with
            | next =>
              obtain ⟨σ6, H6, S6, q6⟩ := hsp
              exact fin (back S6) fun s7 J7 => ⟨_, _, J7, q6⟩
            | brk =>
              obtain ⟨σ6, H6, S6, q6⟩ := hsp
              exact fin (back S6) fun s7 J7 => ⟨_, _, J7, q6⟩
            | cont =>
              obtain ⟨σ6, H6, S6, q6⟩ := hsp
              exact fin (back S6) fun s7 J7 => ⟨_, _, J7, q6⟩
            | ret u =>
              obtain ⟨v6, σ6, H6, S6, r6, q6⟩ := hsp
              exact fin (back S6) fun s7 J7 => ⟨_, _, _, J7, r6, q6⟩
      | @no y c ts b₀ suite np pos' hds2 l2 hc hsu r ih =>
        intro w
        obtain ⟨b, hb1, hyes, hno⟩ := w
        refine wpAny_handleBy_cons (codeAny_handlers_test ?_) (by intro q; cases q)
        refine test hc ((PySem.W.exm_one (M := model X.prog X.w) J2.kIn LT hb1).here ?_)
        cases b with
        | false => exact ih (hno rfl)
        | true =>
          refine codeAny_handlers_suite ?_
          refine HandSPX.lands_againZ fl3 fun h4 fl4 up4 => ?_
          have J4 : Inv X pins σ1 H1 { s' with heap := h4 } := J.landed nb fl4.1 ((up.trans up3).trans up4) os ag
          obtain ⟨o4, v4, g4, z4, d4⟩ := fl4.there
          have S4 := J4.suite g4 d4 na nL nF
          refine wpAny_mono ((hsu x o4 cls d (X.pn ++ pins) X.xe (outN none Wout) z4 ⟨_, d4⟩ (tkS tk) ⟨(x, o4), ⟨rfl, v4, d4, z4.2.2 v4 d4⟩, List.mem_cons_self⟩).run [] _ _ H1 _ (suiteX_of S4) (hyes rfl x na)) (fun f s6 hsp => ?_) (fun e6 s6 z => hpa (some (.ref x)) e6 s6 z)
          have back : ∀ {σ6 : L2.St} {H6 : Hp}, Inv (suiteX X x ((x, o4) :: (X.pn ++ pins))) [] σ6 H6 s6 → Inv X pins σ6 H6 s6 := fun {σ6 H6} I6 => unsuiteX I6 ok
          cases f with
          | next =>
            obtain ⟨σ6, H6, S6, q6⟩ := hsp
            exact ⟨_, _, back S6, q6⟩
          | brk =>
            obtain ⟨σ6, H6, S6, q6⟩ := hsp
            exact ⟨_, _, back S6, q6⟩
          | cont =>
            obtain ⟨σ6, H6, S6, q6⟩ := hsp
            exact ⟨_, _, back S6, q6⟩
          | ret u =>
            obtain ⟨v6, σ6, H6, S6, r6, q6⟩ := hsp
            exact ⟨_, _, _, back S6, r6, q6⟩
    exact rest hh w
  · cases f with
    | next =>
      obtain ⟨σ1, H1, J1, q⟩ := hsp
      exact wpAny_execs_nil ⟨σ1, H1, J1.ofTry ok, q⟩
    | brk =>
      obtain ⟨σ1, H1, J1, q⟩ := hsp
      exact ⟨σ1, H1, J1.ofTry ok, q⟩
    | cont =>
      obtain ⟨σ1, H1, J1, q⟩ := hsp
      exact ⟨σ1, H1, J1.ofTry ok, q⟩
    | ret u =>
      obtain ⟨v, σ1, H1, J1, r, q⟩ := hsp
      exact ⟨v, σ1, H1, J1.ofTry ok, r, q⟩
end

inductive ClsC (X : Cx) : List ExceptHandler → List Cl → Prop
  | nil : ClsC X [] []
  | as_ {x n : Str} {c : Value} {i : Nat} {ts : Addr → Value → Option Addr → WX → TS} {b₀ : Stmt} {suite : List Stmt} {np pos' : Pos} {hds : List ExceptHandler} {l : List Cl} (hc : Names X x c) (hi : X.N[i]? = some n) (hln : X.env.kindOf n = some .local)
      (hsu : ∀ (a : Addr) (oe : Obj) (cls : Value) (d : Option Addr) (pn : List (Addr × Obj)) (xe : Value → Shared → Prop) (W : WX), Zc cls d oe → (∃ vs, oe.data = .fields vs) → Takes (suiteN X a ((a, oe) :: pn) xe) W →
        PSs (suiteN X a ((a, oe) :: pn) xe) (b₀ :: suite) (ts a cls d W)) (r : ClsC X hds l) :
      ClsC X (.ExceptHandler (some (.Name x np)) (some n) (b₀ :: suite) pos' :: hds) ((c, some i, ts) :: l)
  | no {x : Str} {c : Value} {ts : Addr → Value → Option Addr → WX → TS} {b₀ : Stmt} {suite : List Stmt} {np pos' : Pos} {hds : List ExceptHandler} {l : List Cl} (hc : Names X x c)
      (hsu : ∀ (a : Addr) (oe : Obj) (cls : Value) (d : Option Addr) (pn : List (Addr × Obj)) (xe : Value → Shared → Prop) (W : WX), Zc cls d oe → (∃ vs, oe.data = .fields vs) → Takes (suiteN X a ((a, oe) :: pn) xe) W →
        PSs (suiteN X a ((a, oe) :: pn) xe) (b₀ :: suite) (ts a cls d W)) (r : ClsC X hds l) :
      ClsC X (.ExceptHandler (some (.Name x np)) none (b₀ :: suite) pos' :: hds) ((c, none, ts) :: l)
section
variable {X : Cx} {body : List Stmt} {h₀ : ExceptHandler} {hds : List ExceptHandler} {l : List Cl} {pos : Pos} {tb : WX → TS} {Wout : WX}
theorem ps_tryC {K : PySem.W.Frag} (hK : X.K = K) (hs : X.stack = X.env :: X.outer) (hf : X.env.frame = some X.env.locals) (hex : X.ex = []) (hN : X.N.Nodup) (hpa : ∀ hd : Option Value, PassesOwnAt (model X.prog X.w) (X.A.mark hd) X.A X.env X.xe) (tk : Takes X Wout)
    (hb : ∀ (W : WX) (pn : List (Addr × Obj)) (xe : Value → Shared → Prop), L2.Takes (X.tr pn xe) W → PassesOwn (model X.prog X.w) X.A X.env xe → PSs (X.tr pn xe) body (tb W))
    (hh : ClsC X (h₀ :: hds) l) : PS X (.Try body (h₀ :: hds) [] [] pos) (fun D σ H => tb (wN K Wout D l) D σ H) := by
  subst hK
  refine ⟨fun pins s σ H D I h => ?_⟩
  have ok := I.ok
  have hfr : X.A.frames = some (X.env :: X.outer) := by rw [ok.frames, hs]
  refine wpAny_Try_except ?_
  refine wpAny_mono ((hb (wN X.K Wout D l) (X.pn ++ pins) (fun e s₁ => wpAny (model X.prog X.w) X.A (noteFrame e X.env) (fun _ s₂ => wpAny (model X.prog X.w) X.A (setFlight e none) (fun _ s₃ =>
    wpAny (model X.prog X.w) X.A (handleBy e X.env (h₀ :: hds)) (SP X pins D) X.xe s₃) X.xe s₂) X.xe s₁) (fun u s' xx => ?_) PassesOwn.looking).run [] s σ H D (I.toTry _) h) (fun f s1 hsp => ?_) (fun e s1 he => he)
  · obtain ⟨x, B, sI, pins', σ1, H1, cls, d, rfl, J', nb, up, sky, na, os, ag, w⟩ := xx
    have J : Inv X pins σ1 H1 sI := J'.ofTry ok
    have sky1 : Sky B (X.env :: X.outer) x (Zc cls d) X.env.locals s'.heap := by rw [← hs]; exact sky
    show wpAny (model X.prog X.w) X.A (noteFrame (.ref x) X.env) _ _ _
    refine L2.Sky.land Zc.steady hfr hf sky1 fun h3 fl3 up3 => ?_
    obtain ⟨t, ox, ot, va, vt, air, gx, gt, ht, nL, nF, J3⟩ := air_in (s' := { s' with heap := h3 }) hs hf hex J nb (up.trans up3) fl3.1 fl3.2.1 fl3.2.2.1 fl3.2.2.2 na os ag
    have J2 : Inv X pins σ1 H1 { s' with heap := h3 } := J3.pins_of fun p hp => J3.pin p (List.mem_append_right _ (List.mem_cons_of_mem _ (List.mem_cons_of_mem _ hp)))
    have S3 := J2.suite gx air.dx na nL nF
    have zc : Zc cls d ox := air.z
    have rest : ∀ {hds' : List ExceptHandler} {l' : List Cl}, ClsC X hds' l' → wN X.K Wout D l' cls d σ1 H1 → wpAny (model X.prog X.w) X.A (handleBy (.ref x) X.env hds') (SP X pins D) X.xe { s' with heap := h3 } := by
      have test : ∀ {y : Str} {np : Pos} {c : Value}, Names X y c → ∀ {Q : Value → Shared → Prop} {E : Value → Shared → Prop}, Q c { s' with heap := h3 } → wpAny (model X.prog X.w) (X.A.mark (some (.ref x))) (eval (.Name y np) X.env) Q E { s' with heap := h3 } := fun {y np c} hc {Q E} q => by
        obtain ⟨hg, hdbg, hm | ⟨hm, hv, hnn⟩⟩ := hc
        · exact ld_glob (X := X.suite x ((x, ox) :: (X.pn ++ pins))) S3 hg hm q hdbg
        · exact ld_blt (X := X.suite x ((x, ox) :: (X.pn ++ pins))) S3 hg hm hv q hnn hdbg
      have LT : PySem.W.Looks (model X.prog X.w) h3 (typeOf (.ref x)) cls := fun A Q E s k q => wpAny_typeOf_ref (k _ _ gx) (by rw [zc.1]; exact q)
      have tkS : ∀ {oe : Obj} {W : WX}, Takes X W → Takes (suiteX X x ((x, oe) :: (X.pn ++ pins))) W := fun {oe W} tk0 u2 s2 x2 => by
        obtain ⟨a2, B2, sI2, pn2, σ2, H2, cls2, d2, e2, I2, nb2, up2, sky2, na2, os2, ag2, w2⟩ := x2
        exact tk0 u2 s2 ⟨a2, B2, sI2, pins, σ2, H2, cls2, d2, e2, unsuiteX I2 ok, nb2, up2, sky2, na2, os2, ag2, w2⟩
      intro hds' l' hk
      induction hk with
      | nil =>
        intro w
        refine wpAny_handleBy_nil (air_out hs hf ⟨zc, air.dx, air.v1, air.ne, air.dt, air.v3, air.far, air.farP⟩ tk J3 w)
      | @as_ y n c i ts b₀ suite np pos' hds2 l2 hc hi hln hsu r ih =>
        intro w
        obtain ⟨b, hb1, hyes, hno⟩ := w
        refine wpAny_handleBy_cons (codeAny_handlers_test ?_) (by intro q; cases q)
        refine test hc ((PySem.W.exm_one (M := model X.prog X.w) J2.kIn LT hb1).here ?_)
        cases b with
        | false => exact ih (hno rfl)
        | true =>
          refine codeAny_handlers_suite_as ?_
          refine HandSPX.lands_againZ fl3 fun h4 fl4 up4 => ?_
          have J4 : Inv X pins σ1 H1 { s' with heap := h4 } := J.landed nb fl4.1 ((up.trans up3).trans up4) os ag
          obtain ⟨o4, v4, g4, z4, d4⟩ := fl4.there
          have S4 := J4.suite g4 d4 na nL nF
          have hloc : Loc X.env.scope n := .inl hln
          refine store_ok (X := X.suite x ((x, o4) :: (X.pn ++ pins))) (v := .ref x) S4 hN hi hloc rfl (fun s5 S5 => ?_) (.inr hln)
          have fin : ∀ {σ6 : L2.St} {H6 : Hp} {s6 : Shared} {Q : Shared → Prop}, Inv X pins σ6 H6 s6 → (∀ s7, Inv X pins (σ6.set i none) H6 s7 → Q s7) →
              wpAny (model X.prog X.w) X.A (do bindName X.env n .none; unbindBehindTheSuite X.env n pos') (fun _ s7 => Q s7) X.xe s6 := fun {σ6 H6 s6 Q} S6 hq => gone_ok S6 hN hi hln hq
          refine wpAny_mono ((hsu x o4 cls d (X.pn ++ pins) _ (outN (some i) Wout) z4 ⟨_, d4⟩ (fun u s6 x6 => ?_)).run [] s5 _ H1 _ (Inv.wish (X := suiteX X x ((x, o4) :: (X.pn ++ pins))) (suiteX_of S5) _) (hyes rfl x na)) (fun f s6 hsp => ?_) (fun _ _ z => z)
          · obtain ⟨a6, B6, sI6, pn6, σ6, H6, cls6, d6, rfl, I6, nb6, up6, sky6, na6, os6, ag6, w6⟩ := x6
            have I7 : Inv (suiteX X x ((x, o4) :: (X.pn ++ pins))) pn6 σ6 H6 sI6 := Inv.unwish I6
            have sky7 : Sky B6 (X.env :: X.outer) a6 (Zc cls6 d6) X.env.locals s6.heap := by rw [← hs]; exact sky6
            show wpAny (model X.prog X.w) (X.A.mark (some (.ref x))) (noteFrame (.ref a6) X.env) _ _ _
            have fin7 : ∀ h7, HandSPX.HeldZ B6 (X.env :: X.outer) a6 (Zc cls6 d6) X.env.locals h7 → s6.heap.UpToSlots h7 → wpAny (model X.prog X.w) (X.A.mark (some (.ref x))) (do bindName X.env n .none; unbindBehindTheSuite X.env n pos')
                (fun _ s₄ => wpAny (model X.prog X.w) (X.A.mark (some (.ref x))) (passOn "try.except-as" (.ref a6) X.env : Sem Flow) (fun _ _ => False) (notedBy (model X.prog X.w) (X.A.mark (some (.ref x))) X.env (cameBackBy (model X.prog X.w) X.A X.env X.xe)) s₄)
                (fun y s₄ => wpAny (model X.prog X.w) (X.A.mark (some (.ref x))) (setFlight (.ref a6) none) (fun _ s₅ => (notedBy (model X.prog X.w) (X.A.mark (some (.ref x))) X.env (cameBackBy (model X.prog X.w) X.A X.env X.xe)) y s₅) (notedBy (model X.prog X.w) (X.A.mark (some (.ref x))) X.env (cameBackBy (model X.prog X.w) X.A X.env X.xe)) s₄) { s6 with heap := h7 } := fun h7 fl7 up7 => by
              obtain ⟨t7, o7, ot7, va7, vt7, air7, gx7, gt7, ht7, nL7, nF7, J7⟩ := air_in (X := suiteX X x ((x, o4) :: (X.pn ++ pins))) (s' := { s6 with heap := h7 }) hs hf hex I7 nb6 (up6.trans up7) fl7.1 fl7.2.1 fl7.2.2.1 fl7.2.2.2 na6 os6 ag6
              refine gone_ok (X := suiteX X x ((x, o4) :: (X.pn ++ pins))) J7 hN hi hln fun s8 J8 => ?_
              exact wpAny_mono (air_out (X := suiteX X x ((x, o4) :: (X.pn ++ pins))) hs hf air7 (tkS tk) J8 w6) (fun _ _ z => z) (fun e8 s8 z => hpa (some (.ref x)) e8 s8 z)
            rcases sky7 with ⟨hB, hn, hl, oe, vs, he, hz, hd, h1⟩ | fl | hh
            · exact HandSPX.look_newZ Zc.steady hfr hl hf he hB hn hd h1 hz fin7
            · exact HandSPX.looks_onZ Zc.steady hfr hf fl fin7
            · exact HandSPX.againZ hf hh.2.2.2 (fin7 s6.heap hh (Heap.UpToSlots.refl _))
          · have back : ∀ {σ6 : L2.St} {H6 : Hp} {xe6 : Value → Shared → Prop}, Inv (suiteN X x ((x, o4) :: (X.pn ++ pins)) xe6) [] σ6 H6 s6 → Inv X pins σ6 H6 s6 := fun {σ6 H6 xe6} I6 => unsuiteX (Inv.unwish (X := suiteX X x ((x, o4) :: (X.pn ++ pins))) I6) ok
            cases f with
            | next =>
              obtain ⟨σ6, H6, S6, q6⟩ := hsp
              exact fin (back S6) fun s7 J7 => ⟨_, _, J7, q6⟩
            | brk =>
              obtain ⟨σ6, H6, S6, q6⟩ := hsp
              exact fin (back S6) fun s7 J7 => ⟨_, _, J7, q6⟩
            | cont =>
              obtain ⟨σ6, H6, S6, q6⟩ := hsp
              exact fin (back S6) fun s7 J7 => ⟨_, _, J7, q6⟩
            | ret u =>
              obtain ⟨v6, σ6, H6, S6, r6, q6⟩ := hsp
              exact fin (back S6) fun s7 J7 => ⟨_, _, _, J7, r6, q6⟩
      | @no y c ts b₀ suite np pos' hds2 l2 hc hsu r ih =>
        intro w
        obtain ⟨b, hb1, hyes, hno⟩ := w
        refine wpAny_handleBy_cons (codeAny_handlers_test ?_) (by intro q; cases q)
        refine test hc ((PySem.W.exm_one (M := model X.prog X.w) J2.kIn LT hb1).here ?_)
        cases b with
        | false => exact ih (hno rfl)
        | true =>
          refine codeAny_handlers_suite ?_
          refine HandSPX.lands_againZ fl3 fun h4 fl4 up4 => ?_
          have J4 : Inv X pins σ1 H1 { s' with heap := h4 } := J.landed nb fl4.1 ((up.trans up3).trans up4) os ag
          obtain ⟨o4, v4, g4, z4, d4⟩ := fl4.there
          have S4 := J4.suite g4 d4 na nL nF
          refine wpAny_mono ((hsu x o4 cls d (X.pn ++ pins) X.xe (outN none Wout) z4 ⟨_, d4⟩ (tkS tk)).run [] _ _ H1 _ (suiteX_of S4) (hyes rfl x na)) (fun f s6 hsp => ?_) (fun e6 s6 z => hpa (some (.ref x)) e6 s6 z)
          have back : ∀ {σ6 : L2.St} {H6 : Hp}, Inv (suiteX X x ((x, o4) :: (X.pn ++ pins))) [] σ6 H6 s6 → Inv X pins σ6 H6 s6 := fun {σ6 H6} I6 => unsuiteX I6 ok
          cases f with
          | next =>
            obtain ⟨σ6, H6, S6, q6⟩ := hsp
            exact ⟨_, _, back S6, q6⟩
          | brk =>
            obtain ⟨σ6, H6, S6, q6⟩ := hsp
            exact ⟨_, _, back S6, q6⟩
          | cont =>
            obtain ⟨σ6, H6, S6, q6⟩ := hsp
            exact ⟨_, _, back S6, q6⟩
          | ret u =>
            obtain ⟨v6, σ6, H6, S6, r6, q6⟩ := hsp
            exact ⟨_, _, _, back S6, r6, q6⟩
    exact rest hh w
  · cases f with
    | next =>
      obtain ⟨σ1, H1, J1, q⟩ := hsp
      exact wpAny_execs_nil ⟨σ1, H1, J1.ofTry ok, q⟩
    | brk =>
      obtain ⟨σ1, H1, J1, q⟩ := hsp
      exact ⟨σ1, H1, J1.ofTry ok, q⟩
    | cont =>
      obtain ⟨σ1, H1, J1, q⟩ := hsp
      exact ⟨σ1, H1, J1.ofTry ok, q⟩
    | ret u =>
      obtain ⟨v, σ1, H1, J1, r, q⟩ := hsp
      exact ⟨v, σ1, H1, J1.ofTry ok, r, q⟩
end

/-! ### raise .. from a name -/
def from1 (h : Heap) (a : Addr) (v : Value) : Heap := (h.update a (Obj.mapFields (·.setIfInBounds 3 v))).update a (Obj.mapFields (·.setIfInBounds 4 (.bool true)))
theorem from1_at {h : Heap} {a : Addr} {v : Value} {oe : Obj} {vs : Array Value} (ga : h.get? a = some oe) (de : oe.data = .fields vs) :
    (from1 h a v).get? a = some ((oe.mapFields (·.setIfInBounds 3 v)).mapFields (·.setIfInBounds 4 (.bool true))) ∧ ((oe.mapFields (·.setIfInBounds 3 v)).mapFields (·.setIfInBounds 4 (.bool true))).data = .fields ((vs.setIfInBounds 3 v).setIfInBounds 4 (.bool true)) := by
  have d3 := Obj.data_mapFields de (·.setIfInBounds 3 v)
  have g3 := Heap.get?_update_self (Obj.mapFields (·.setIfInBounds 3 v)) ga (Obj.isFreed_of_fields d3)
  have d4 := Obj.data_mapFields d3 (·.setIfInBounds 4 (.bool true))
  exact ⟨Heap.get?_update_self (Obj.mapFields (·.setIfInBounds 4 (.bool true))) g3 (Obj.isFreed_of_fields d4), d4⟩
theorem from1_other {h : Heap} {a b : Addr} {v : Value} (n : a ≠ b) : (from1 h a v).get? b = h.get? b := by
  unfold from1
  rw [Heap.get?_update_other _ _ n, Heap.get?_update_other _ _ n]
theorem raise_hotF {prog : Program} {w : World} {A : Around} {E : Value → Shared → Prop} {env : Env} {s : Shared} {x c : Sem Value} {Q : Flow → Shared → Prop} {x1 : Addr}
    (h : wpAny (model prog w) A x (fun v s₁ => ∃ a oe vs cls o1 v1 c1, v = .ref a ∧ s₁.heap.get? a = some oe ∧ oe.cls = cls ∧ oe.data = .fields vs ∧ vs[1]? = some .none ∧ 4 < vs.size ∧ x1 ≠ a ∧ HotAt A x1 s₁.heap ∧
      s₁.heap.get? x1 = some o1 ∧ o1.cls = c1 ∧ o1.data = .fields v1 ∧ PySem.W.Looks (model prog w) s₁.heap (isSubtype c1 (.type "BaseException")) true ∧ (∀ Q' : Value → Shared → Prop, Q' (.ref x1) s₁ → wpAny (model prog w) A c Q' E s₁) ∧
      PySem.W.Looks (model prog w) s₁.heap (isSubtype cls (.type "BaseException")) true ∧ PySem.W.Looks (model prog w) (from1 s₁.heap a (.ref x1)) (typeOf cls) (.type "type") ∧
      E (.ref a) { s₁ with heap := (from1 s₁.heap a (.ref x1)).update a (Obj.mapFields (·.setIfInBounds 2 (.ref x1))) }) E s) :
    wpAny (model prog w) A (raiseStmt env (some x) (some c)) Q E s := by
  unfold raiseStmt
  dsimp only
  refine wpAny_bind (wpAny_mono h (fun v s₁ h₁ => ?_) fun _ _ x => x)
  obtain ⟨a, oe, vs, cls, o1, v1, c1, rfl, ga, hcls, de, h1, hi, hne, hot, g1, hc1, d1, LB, hcs, L1, L3, hE⟩ := h₁
  have LT : PySem.W.Looks (model prog w) s₁.heap (typeOf (.ref a)) cls := fun A Q E s k q => wpAny_typeOf_ref (k _ _ ga) (by rw [hcls]; exact q)
  have LI : PySem.W.Looks (model prog w) s₁.heap (isInstance (.ref a) (.type "BaseException")) true := LT.andThen L1
  have LT1 : PySem.W.Looks (model prog w) s₁.heap (typeOf (.ref x1)) c1 := fun A Q E s k q => wpAny_typeOf_ref (k _ _ g1) (by rw [hc1]; exact q)
  have LI1 : PySem.W.Looks (model prog w) s₁.heap (isInstance (.ref x1) (.type "BaseException")) true := LT1.andThen LB
  have noT : ∀ {y : Addr} {oy : Obj} {vy : Array Value} {Q' : Bool → Shared → Prop}, s₁.heap.get? y = some oy → oy.data = .fields vy → Q' false s₁ → wpAny (model prog w) A (isType (.ref y)) Q' E s₁ := by
    intro y oy vy Q' gy dy hq
    simp only [isType, loadHead]
    refine wpAny_bind (wpAny_loadPart gy ?_)
    rw [dy]
    exact wpAny_pure hq
  have d3 := Obj.data_mapFields de (·.setIfInBounds 3 (.ref x1))
  have g3 := Heap.get?_update_self (Obj.mapFields (·.setIfInBounds 3 (.ref x1))) ga (Obj.isFreed_of_fields d3)
  obtain ⟨g4, d4⟩ := from1_at (v := .ref x1) ga de
  have z3 : 3 < vs.size := by omega
  have z4 : 4 < (vs.setIfInBounds 3 (Value.ref x1)).size := by rw [set_size]; exact hi
  have z2 : 2 < ((vs.setIfInBounds 3 (Value.ref x1)).setIfInBounds 4 (Value.bool true)).size := by rw [set_size, set_size]; omega
  have h14 : ((vs.setIfInBounds 3 (Value.ref x1)).setIfInBounds 4 (Value.bool true))[1]? = some Value.none := set_other (by decide) (set_other (by decide) h1)
  have cls4 : ((oe.mapFields (·.setIfInBounds 3 (.ref x1))).mapFields (·.setIfInBounds 4 (.bool true))).cls = cls := by rw [Obj.cls_mapFields, Obj.cls_mapFields]; exact hcls
  have LT4 : PySem.W.Looks (model prog w) (from1 s₁.heap a (.ref x1)) (typeOf (.ref a)) cls := fun A Q E s k q => wpAny_typeOf_ref (k _ _ g4) (by rw [cls4]; exact q)
  have noT4 : ∀ {Q' : Bool → Shared → Prop}, Q' false { s₁ with heap := from1 s₁.heap a (.ref x1) } → wpAny (model prog w) A (isType (.ref a)) Q' E { s₁ with heap := from1 s₁.heap a (.ref x1) } := by
    intro Q' hq
    simp only [isType, loadHead]
    refine wpAny_bind (wpAny_loadPart g4 ?_)
    rw [d4]
    exact wpAny_pure hq
  have hot4 : HotAt A x1 (from1 s₁.heap a (.ref x1)) := by
    obtain ⟨q1, o, w1, q2, q3, q4⟩ := hot
    exact ⟨q1, o, w1, by rw [from1_other (Ne.symm hne)]; exact q2, q3, q4⟩
  have rest : wpAny (model prog w) A (do
      let b ← isType (.ref a)
      if b = true then do
        let e ← holding [.ref a] (raisedFor (.ref a) (.ref a))
        setFlight e none
        raiseNew e
      else do
        let e ← raisedInstance (.ref a)
        setFlight e none
        raiseNew e : Sem Flow) Q E { s₁ with heap := from1 s₁.heap a (.ref x1) } := by
    refine wpAny_bind (noT4 ?_)
    simp only [Bool.false_eq_true, if_false]
    unfold raisedInstance
    refine wpAny_bind (wpAny_bind (LT4.here (wpAny_bind (L3.here ?_))))
    rw [if_pos (beq_self_eq_true _)]
    refine wpAny_pure ?_
    unfold setFlight
    refine wpAny_bind (wpAny_bind (wpAny_field g4 d4 h14 ?_))
    rw [if_neg (by decide)]
    refine wpAny_pure ?_
    exact raiseNew_hot hot4 hne g4 d4 z2 hE
  refine wpAny_bind (wpAny_holding (hcs _ (wpAny_bind (wpAny_pure ?_))))
  dsimp only
  refine wpAny_bind (wpAny_holding ?_)
  unfold excFromValue isExcClass
  refine wpAny_bind (wpAny_bind (noT ga de ?_))
  simp only [Bool.false_eq_true, if_false]
  refine wpAny_pure ?_
  simp only [Bool.false_eq_true, if_false]
  refine wpAny_bind (LI.here ?_)
  simp only [if_true]
  refine wpAny_pure ?_
  rw [if_neg (show ¬ ((Value.ref x1 == Value.none) = true) from by simp)]
  refine wpAny_bind (wpAny_holding (wpAny_bind (wpAny_bind (noT g1 d1 ?_))))
  simp only [Bool.false_eq_true, if_false]
  refine wpAny_pure ?_
  simp only [Bool.false_eq_true, if_false]
  refine wpAny_bind (LI1.here ?_)
  simp only [if_true]
  refine wpAny_pure (wpAny_bind (wpAny_setField ga de z3 (wpAny_bind (wpAny_setField g3 d3 z4 ?_))))
  first
  | exact rest
  | (dsimp only; exact rest)
  | (refine wpAny_pure ?_; exact rest)
/-- raise X(..) from n, in the suite of a clause 'as n': n is the exception that is handled -/
theorem ps_raiseHF {X : Cx} {K : PySem.W.Frag} (hK : X.K = K) {W : WX} {e : Expr} {t : L2.St → Hp → XK → Prop} {n : Str} {i : Nat} {np pos : Pos} {x1 : Addr} {o1 : Obj} {c1 : Value} (hp : (x1, o1) ∈ X.pn) (hh : X.A.handled = some (.ref x1)) (hd1 : ∃ v1 : Array Value, o1.data = .fields v1 ∧ v1[2]? = some .none) (hc1 : o1.cls = c1)
    (hi : X.N[i]? = some n) (hnl : X.env.scope.names.lookup n = some .local) (hdb : (n == ("__debug__" : Str)) = false) (tk : L2.Takes X W) (he : PMk5 X e t) :
    PS X (.Raise (some e) (some (.Name n np)) pos) (fun _ σ H => t σ H fun cls d H' => PySem.W.subIn K c1 (.type "BaseException") = some true ∧ W cls d σ H' ∧ σ[i]? = some (some (.ref x1))) := by
  subst hK
  refine ⟨fun pins s σ H D I h => ?_⟩
  obtain ⟨v1, e1, c2⟩ := hd1
  show wpAny _ _ (do standAt pos; raiseStmt X.env (some (do let v ← eval e X.env; standAt pos; pure v)) (some (do let v ← eval (.Name n np) X.env; standAt pos; pure v))) _ _ _
  refine wpAny_bind (wpAny_standAt (raise_hotF (x1 := x1) (wpAny_bind (wpAny_mono (he pins s σ H _ I h) (fun u s1 hu => wpAny_bind (wpAny_standAt (wpAny_pure ?_))) fun _ _ x => x))))
  obtain ⟨⟨a, oe, vs, sI, H', cls, d, rfl, J, k, hne, ga, hz, de, h1, na, os, ag, r, hB, q, qn⟩, h5⟩ := hu
  have zi : 4 < vs.size := h5 a oe vs rfl ga de
  have k4 : ∀ b u, sI.heap.get? b = some u → (from1 s1.heap a (.ref x1)).get? b = some u := fun b u z => by
    have nab : a ≠ b := fun y => by
      rw [← y, hne] at z
      cases z
    rw [from1_other nab]
    exact k b u z
  obtain ⟨r1, _⟩ := r (model X.prog X.w) s1.heap (J.kIn.keeps k)
  obtain ⟨_, r2⟩ := r (model X.prog X.w) (from1 s1.heap a (.ref x1)) (J.kIn.keeps k4)
  have P1 : sI.heap.get? x1 = some o1 := (J.pin (x1, o1) (List.mem_append_left _ hp)).1
  have nap : x1 ≠ a := fun z => by
    rw [z, hne] at P1
    cases P1
  obtain ⟨g4, d4⟩ := from1_at (v := .ref x1) ga de
  have h12 : (((vs.setIfInBounds 3 (Value.ref x1)).setIfInBounds 4 (Value.bool true)).setIfInBounds 2 (Value.ref x1))[1]? = some Value.none := set_other (by decide) (set_other (by decide) (set_other (by decide) h1))
  have nm : ∀ Q' : Value → Shared → Prop, Q' (.ref x1) s1 → wpAny (model X.prog X.w) X.A (do let v ← eval (.Name n np) X.env; standAt pos; pure v) Q' X.xe s1 := fun Q' hq => by
    obtain ⟨m, hn, hl⟩ := J.loc
    obtain ⟨u, ru, lk⟩ := hl i n _ hi qn (.inl hnl)
    obtain rfl : u = Value.ref x1 := ru
    have fin : wpAny (model X.prog X.w) X.A (eval (.Name n np) X.env) (fun v s2 => v = .ref x1 ∧ s2 = s1) X.xe s1 := by
      rcases lk with ⟨hk, hm⟩ | ⟨hk, c, hc, hcell⟩
      · exact wpAny_Name (wpAny_loadName_local J.ok.kind hk (hn.keeps k) hm ⟨rfl, rfl⟩) hdb
      · exfalso
        rcases hk with hk | hk
        · have := hk.symm.trans hnl
          cases this
        · have := hk.symm.trans hnl
          cases this
    exact wpAny_bind (wpAny_mono fin (fun v s2 ⟨ev, es⟩ => by subst ev es; exact wpAny_bind (wpAny_standAt (wpAny_pure hq))) fun _ _ z => z)
  refine ⟨a, oe, vs, cls, o1, v1, c1, rfl, ga, hz.1, de, h1, zi, nap, ⟨hh, o1, v1, k _ _ P1, e1, c2⟩, k _ _ P1, hc1, e1, PySem.W.looks_subIn (J.kIn.keeps k) hB, nm, r1, r2, tk _ _ (XE.new J (fun b u z => ?_) hne (Heap.get?_update_self _ g4 (Obj.isFreed_of_fields (Obj.data_mapFields d4 _)))
    ⟨by rw [Obj.cls_mapFields, Obj.cls_mapFields, Obj.cls_mapFields]; exact hz.1, by rw [HandSPX.dict_mapFields, HandSPX.dict_mapFields, HandSPX.dict_mapFields]; exact hz.2.1⟩ (Obj.data_mapFields d4 _) h12 na os ag q)⟩
  have nab : a ≠ b := fun y => by
    rw [← y, hne] at z
    cases z
  show ((from1 s1.heap a (.ref x1)).update a (Obj.mapFields (·.setIfInBounds 2 (.ref x1)))).get? b = some u
  rw [Heap.get?_update_other _ _ nab]
  exact k4 b u z
end PR
end

section
set_option maxHeartbeats 4000000
/-! with: a block that an own class guards; its __exit__ is told of the error -/
namespace PR
open PySem PySem.Spec PyProof.Rows PySem.W PySem.Calls
section
variable {prog : Program} {w : World} {A : Around} {E : Value → Shared → Prop} {s : Shared} {env : Env} {K : Frag} {x C fe fx : Addr} {ox : Obj} {od : Option Obj} {pos : Pos}
theorem with_core {bdy : Sem Flow} {Q : Flow → Shared → Prop} (X : K.In s.heap) (I : InstAt s.heap x ox C od) (he : findIn K (.ref C) "__enter__" = some (some (.ref fe))) (hfe : isFn K (.ref fe) = true) (hx : findIn K (.ref C) "__exit__" = some (some (.ref fx))) (hfx : isFn K (.ref fx) = true)
    (h : wpAny (model prog w) A (call (.ref fe) [.ref x]) (fun v s₂ => wpAny (model prog w) A bdy (fun f s₄ => wpAny (model prog w) A (call (.ref fx) [.ref x, .none, .none, .none]) (fun _ s₅ => Q f s₅) E s₄)
      (fun e s₄ => wpAny (model prog w) A (noteFrame e env) (fun _ s₅ => e ≠ byPass ∧ wpAny (model prog w) A (setFlight e none) (fun _ s₆ => wpAny (model prog w) A (typeOf e) (fun ty s₇ => wpAny (model prog w) A (tracebackOf e) (fun tb s₈ =>
        codeAny (model prog w) (A.mark (some e)) (.call (.ref fx) ⟨[.ref x, ty, e, tb], []⟩) (fun r s₉ => match r with
          | .ok (.ret .none) => wpAny (model prog w) A (PySem.passOn "with" e env : Sem Flow) Q E s₉
          | .ok _ => False
          | .error y => E y s₉) s₈) E s₇) E s₆) E s₅) E s₄) s₂) E s) :
    wpAny (model prog w) A (withItem false pos env (pure (.ref x)) none bdy) Q E s := by
  obtain ⟨cd, hcd, ae⟩ := kw_along he
  obtain ⟨cd', hcd', ax⟩ := kw_along hx
  cases hcd.symm.trans hcd'
  obtain ⟨hh, g, d, tt, os⟩ := s
  have L1 : Looks (model prog w) hh (specialOnItsLine (.ref x) "__enter__") (some (.ref fe), cd.mro) := kw_special X I hcd ae
  have L2 : Looks (model prog w) hh (specialOnItsLine (.ref x) "__exit__") (some (.ref fx), cd.mro) := kw_special X I hcd ax
  have L3 : Looks (model prog w) hh (bindSpecial (.ref fe) (.ref x)) (.ref fe, [.ref x]) := bind_fn X _ (beq_iff_eq.mp hfe)
  have L4 : Looks (model prog w) hh (bindSpecial (.ref fx) (.ref x)) (.ref fx, [.ref x]) := bind_fn X _ (beq_iff_eq.mp hfx)
  have L5 : Looks (model prog w) hh (aMethodOfAnotherBuiltinTypeStops (.ref fe) cd.mro) () := Looks.of_pure rfl
  have L6 : Looks (model prog w) hh (aMethodOfAnotherBuiltinTypeStops (.ref fx) cd.mro) () := Looks.of_pure rfl
  unfold withItem
  refine wpAny_bind (wpAny_pure ?_)
  refine wpAny_bind (wpAny_standAt ?_)
  simp only [Bool.false_eq_true, if_false]
  kw_lk
  refine wpAny_mono h (fun v s₂ h₂ => ?_) fun _ _ z => z
  kw_lk
  refine wpAny_attempt (kw_held ?_)
  show wpAny _ _ bdy _ _ _
  refine wpAny_mono h₂ (fun f s₄ h₄ => ?_) fun e s₄ h₄ => ?_
  · kw_lk
    refine wpAny_mono h₄ (fun _ s₅ h₅ => ?_) fun _ _ z => z
    kw_lk
    exact h₅
  · dsimp only
    refine wpAny_bind (wpAny_mono h₄ (fun _ s₅ h₅ => ?_) fun _ _ z => z)
    obtain ⟨nb, h₅⟩ := h₅
    refine wpAny_bind (wpAny_mono h₅ (fun _ s₆ h₆ => ?_) fun _ _ z => z)
    refine wpAny_bind (wpAny_standAt (wpAny_holding ?_))
    refine wpAny_bind (wpAny_mono h₆ (fun ty s₇ h₇ => ?_) fun _ _ z => z)
    refine wpAny_bind (wpAny_mono h₇ (fun tb s₈ h₈ => ?_) fun _ _ z => z)
    unfold withItem.marked
    refine wpAny_bind (wpAny_bind (wpAny_run (codeAny_mono h₈ fun r s₉ h₉ => ?_) (by intro z; exact nb (Option.some.inj z))))
    cases r with
    | error y => exact h₉
    | ok f =>
      cases f with
      | ret v =>
        cases v <;> first | exact h₉.elim | skip
        refine wpAny_pure (wpAny_bind (wpAny_pure (wpAny_bind (wpAny_pure ?_))))
        simp only [Bool.false_eq_true, if_false]
        exact h₉
      | _ => exact h₉.elim
end
end PR
namespace PR
open PySem PySem.Spec PyProof.Rows L2 L2H HotX
/-! ### a def called while an error is handled, whatever the error's context: its body raises nothing -/
structure FnM (P : Program) (w : World) (K : PySem.W.Frag) (mg : Str → Option Value) (base : Heap) (CX : CXT) (k : Nat) (f : Addr) (fd : FuncData) (ps : List Str) (sp : Sp) : Prop where
  len : ∀ vs H Q E, sp vs H Q E → vs.length = ps.length
  run : ∀ (A : Around) (outer : List Env) (s : Shared) (H : Hp) (args : Args) (us : List Value) (vs : List V) (Q : VK) (E : XK) (p : Addr × Obj), RoomH k A → PinOk outer H s p → Env0 P w K mg base A outer s H → BindsTo s fd args (ps.zip us) → Vals vs us → sp vs H Q E →
    codeAny (model P w) A (.call (.ref f) args) (CR CX outer P w H s Q E) s
theorem fn_ofM {CX : CXT} {P : Program} {w : World} {K : PySem.W.Frag} {mg : Str → Option Value} {base : Heap} {k : Nat} {f : Addr} {name qual : Str} {params : Arguments} {body : List Stmt} {scope : Scope} {dV kV doc pm cdv ct oc : Value} {an od : Option Addr}
    {osl : Array (Option Value)} {N ps : List Str} {sp : Sp} (lk : K.lookup f = some ⟨oc, od, .func (PySem.W.fnOf name qual params body scope dV kV doc pm an cdv ct), osl⟩) (hcd : PySem.W.codeIn K cdv qual = true) (S : FnScope N ps scope)
    (len : ∀ vs H Q E, sp vs H Q E → vs.length = ps.length)
    (hbody : ∀ (A : Around) (outer : List Env) (s : Shared) (H : Hp) (vs : List V) (Q : VK) (E : XK) (p : Addr × Obj), RoomH k (A.deeper (envOfC qual scope s.heap.objs.size f cdv)) → sp vs H Q E →
      ∃ t, PSs (cxH CX P w K mg base N qual scope f cdv A outer s H E p) body t ∧ t { nx := fun _ H' => Q .non H', rt := Q } (L2.start N vs) H) :
    FnM P w K mg base CX (k + 1) f (PySem.W.fnOf name qual params body scope dV kV doc pm an cdv ct) ps sp := by
  refine ⟨len, fun A outer s H args us vs Q E p hr hpin e0 hb r hsp => ?_⟩
  have hl := len _ _ _ _ hsp
  have KX : K.In s.heap := e0.mod.kin.keeps fun b o e => (e0.bs b o e).1
  have lim : s.heap.NoLimit := e0.mod.nolimit.keeps fun b o e => (e0.bs b o e).1
  have hk : ∀ y ∈ ps.zip us, scope.names.lookup y.1 = some .local ∨ (scope.names.lookup y.1 = some .cell ∧ ((cellsFrom (s.heap.objs.size + 1) scope.names []).lookup y.1).isSome = true) := fun ⟨n, v⟩ hy =>
    (S.par n (List.of_mem_zip hy).1).imp id fun q => ⟨q, PySem.W.cellsFrom_some _ _ _ (.inl q)⟩
  refine codeAny_call_function hr.depth (KX _ _ lk) rfl S.co S.gen rfl (PySem.W.codeRec_of KX hcd) (hb _ _ _ _ ?_)
  refine wpAny_newFunctionEnv_cells S.kind hk fun env he s1 x => ?_
  subst he
  refine ⟨lim.keeps x.toInCall.keep, codeAny_func ?_⟩
  obtain ⟨t, ht, hq⟩ := hbody A outer s H vs Q E p (hr.deeper _) hsp
  have I : Inv (cxH CX P w K mg base N qual scope f cdv A outer s H E p) [] (L2.start N vs) H s1 := inv_startH S hpin e0 hl r x
  have out : ∀ {s' : Shared} {σ' : L2.St} {H' : Hp} {v : V} {u : Value}, Inv (cxH CX P w K mg base N qual scope f cdv A outer s H E p) [] σ' H' s' → RelV v u → Q v H' → CE outer P w H s Q u s' :=
    fun {s' σ' H' v u} J rv q => ⟨v, H', J.os, J.bare, J.base, J.hok, rv, q⟩
  refine wpAny_mono (ht.run [] s1 (L2.start N vs) H _ I hq) (fun fl s' h2 => ?_) fun e s' h2 => h2
  cases fl with
  | ret u =>
    obtain ⟨v, σ', H', J, rv, q⟩ := h2
    exact out J rv q
  | next =>
    obtain ⟨σ', H', J, q⟩ := h2
    exact out (v := V.non) (u := Value.none) J rfl q
  | brk => exact False.elim h2.choose_spec.choose_spec.2
  | cont => exact False.elim h2.choose_spec.choose_spec.2
theorem _root_.L2.Fun.okM {CX : CXT} {P : Program} {w : World} {K : PySem.W.Frag} {mg : Str → Option Value} {base : Heap} {x qual : Str} {st : Stmt} {f : Addr} {fd : FuncData} {N ps : List Str} {k : Nat} {sp : Sp} (F : Fun K x qual st f fd) (S : FnScope N ps (defScope st)) (len : ∀ vs H Q E, sp vs H Q E → vs.length = ps.length)
    (hbody : ∀ (cdv : Value) (A : Around) (outer : List Env) (s : Shared) (H : Hp) (vs : List V) (Q : VK) (E : XK) (p : Addr × Obj), RoomH k (A.deeper (envOfC qual (defScope st) s.heap.objs.size f cdv)) → sp vs H Q E →
      ∃ t, PSs (cxH CX P w K mg base N qual (defScope st) f cdv A outer s H E p) (defBody st) t ∧ t { nx := fun _ H' => Q .non H', rt := Q } (L2.start N vs) H) : FnM P w K mg base CX (k + 1) f fd ps sp := by
  obtain ⟨oc, od, kV, doc, pm, an, cdv, ct, osl, rfl, lk, hcd⟩ := F.ex
  exact fn_ofM lk hcd S len fun A outer s H vs Q E p hr hsp => hbody cdv A outer s H vs Q E p hr hsp
/-! ### with -/
structure WithC (K : PySem.W.Frag) (C fe fx : Addr) : Prop where
  en : PySem.W.findIn K (.ref C) "__enter__" = some (some (.ref fe))
  enF : PySem.W.isFn K (.ref fe) = true
  ex : PySem.W.findIn K (.ref C) "__exit__" = some (some (.ref fx))
  exF : PySem.W.isFn K (.ref fx) = true
/-- what is wished of an error of the block: __exit__ is told of it, then on it goes -/
def wWith (spX : Sp) (a : Addr) (Wout : WX) : WX := fun cls d σ H => ∃ k, RelV k cls ∧ ∀ (e : Addr) (y : V), (y = .non ∨ ∃ t, y = .ref t) → spX [.ref a, k, .ref e, y] H (fun v H' => v = .non ∧ Wout cls d σ H') (fun _ _ _ => False)
def tWith (C : Addr) (spE spX : Sp) (te : TE) (tb : WX → TS) (Wout : WX) : TS := fun D σ H => te σ H fun x H1 => ∃ a dx fs, x = .ref a ∧ H1 a = some (.ins C dx fs) ∧ spE [.ref a] H1 (fun _ H2 => (∃ dx2 fs2, H2 a = some (.ins C dx2 fs2)) ∧
  tb (wWith spX a Wout) { nx := fun σ3 H3 => spX [.ref a, .non, .non, .non] H3 (fun _ H4 => D.nx σ3 H4) (fun _ _ _ => False), rt := fun _ _ => False, bk := fun _ _ => False, ct := fun _ _ => False } σ H2) (fun _ _ _ => False)
section
variable {X : Cx} {CX : CXT} {C fe fx : Addr} {k : Nat} {fde fdx : FuncData} {spE spX : Sp} {psE psX : List Str} {Wout : WX} {ctx : Expr} {body : List Stmt} {pos : Pos} {te : TE} {tb : WX → TS}
theorem ps_with (hs : X.stack = X.env :: X.outer) (hf : X.env.frame = some X.env.locals) (hex : X.ex = []) (tk : Takes X Wout) (hc : PE X ctx te) (hw : WithC X.K C fe fx)
    (Fe : FnOk X.prog X.w X.K X.mg X.base CX k fe fde psE spE) (Fx : FnOk X.prog X.w X.K X.mg X.base CX k fx fdx psX spX) (Fm : FnM X.prog X.w X.K X.mg X.base CX k fx fdx psX spX) (hr : Room k X.A) (be : Binds X.K fde psE []) (bx : Binds X.K fdx psX [])
    (hx : Passes CX X (fun _ _ _ => False))
    (hb : ∀ (W : WX) (pn : List (Addr × Obj)) (xe : Value → Shared → Prop), Takes (X.tr pn xe) W → PassesOwn (model X.prog X.w) X.A X.env xe → (∀ hd : Option Value, PassesOwnAt (model X.prog X.w) (X.A.mark hd) X.A X.env xe) → PSs (X.tr pn xe) body (tb W)) :
    PS X (.With [⟨ctx, none⟩] body pos) (tWith C spE spX te tb Wout) := by
  refine ⟨fun pins s σ H D I h => ?_⟩
  have ok := I.ok
  have hfr : X.A.frames = some (X.env :: X.outer) := by rw [ok.frames, hs]
  refine PySem.W.kw_exec0 (thn (hc.run pins s σ H _ I h) fun u s1 ⟨x, H1, I1, rx, a, dx, fs, ex, ea, q1⟩ => ?_)
  subst ex
  obtain rfl : u = Value.ref a := rx
  obtain ⟨mA, O, _, _, _, _⟩ := ins_get I1.hok ea
  obtain ⟨od, Jn, _⟩ := O.look
  unfold PySem.W.KwIn
  have noE : ∀ {pins' : List (Addr × Obj)} {σ' : L2.St} {H' : Hp} {s' : Shared} {e : Value} {s'' : Shared}, Inv X pins' σ' H' s' → CX X.stack H' s' (fun _ _ _ => False) e s'' → X.xe e s'' := fun {pins' σ' H' s' e s''} I' c => hx pins' σ' H' s' e s'' I' c
  refine with_core (K := X.K) I1.kIn Jn hw.en hw.enF hw.ex hw.exF ?_
  have q1' : spE ([V.ref a] ++ []) H1 (fun _ H2 => (∃ dx2 fs2, H2 a = some (.ins C dx2 fs2)) ∧ tb (wWith spX a Wout) { nx := fun σ3 H3 => spX [.ref a, .non, .non, .non] H3 (fun _ H4 => D.nx σ3 H4) (fun _ _ _ => False), rt := fun _ _ => False, bk := fun _ _ => False, ct := fun _ _ => False } σ H2) (fun _ _ _ => False) := q1
  refine wpAny_mono (run_fn Fe hr be (dvs := []) .nil hx I1 (us := [.ref a]) (.cons (show RelV (V.ref a) (.ref a) from rfl) .nil) q1') (fun v s2 h2 => ?_) fun _ _ z => z
  obtain ⟨_, H2, I2, _, ⟨dx2, fs2, ea2⟩, q2⟩ := h2
  refine wpAny_mono ((hb (wWith spX a Wout) (X.pn ++ pins) (fun e s₁ => wpAny (model X.prog X.w) X.A (noteFrame e X.env) (fun _ s₂ => e ≠ byPass ∧ wpAny (model X.prog X.w) X.A (setFlight e none) (fun _ s₆ => wpAny (model X.prog X.w) X.A (typeOf e) (fun ty s₇ => wpAny (model X.prog X.w) X.A (tracebackOf e) (fun t s₈ =>
        codeAny (model X.prog X.w) (X.A.mark (some e)) (.call (.ref fx) ⟨[.ref a, ty, e, t], []⟩) (fun r s₉ => match r with
          | .ok (.ret .none) => wpAny (model X.prog X.w) X.A (PySem.passOn "with" e X.env : Sem Flow) (SP X pins D) X.xe s₉
          | .ok _ => False
          | .error y => X.xe y s₉) s₈) X.xe s₇) X.xe s₆) X.xe s₂) X.xe s₁)
      (fun u s' xx => ?_) PassesOwn.looking (fun hd => PassesOwnAt.looking)).run [] s2 σ H2 _ (I2.toTry _) q2) (fun f s3 h3 => ?_) fun e s3 h3 => h3
  · obtain ⟨x, B, sI, pins', σ3, H3, cls, d, rfl, J', nb, up, sky, na, os, ag, k0, rk, w⟩ := xx
    have J : Inv X pins σ3 H3 sI := J'.ofTry ok
    have sky1 : Sky B (X.env :: X.outer) x (Zc cls d) X.env.locals s'.heap := by rw [← hs]; exact sky
    show wpAny (model X.prog X.w) X.A (noteFrame (.ref x) X.env) _ _ _
    have land : ∀ h1, HandSPX.HeldZ B (X.env :: X.outer) x (Zc cls d) X.env.locals h1 → s'.heap.UpToSlots h1 → (Value.ref x ≠ byPass ∧ wpAny (model X.prog X.w) X.A (setFlight (.ref x) none) (fun _ s₆ => wpAny (model X.prog X.w) X.A (typeOf (.ref x)) (fun ty s₇ => wpAny (model X.prog X.w) X.A (tracebackOf (.ref x)) (fun t s₈ =>
        codeAny (model X.prog X.w) (X.A.mark (some (.ref x))) (.call (.ref fx) ⟨[.ref a, ty, .ref x, t], []⟩) (fun r s₉ => match r with
          | .ok (.ret .none) => wpAny (model X.prog X.w) X.A (PySem.passOn "with" (.ref x) X.env : Sem Flow) (SP X pins D) X.xe s₉
          | .ok _ => False
          | .error y => X.xe y s₉) s₈) X.xe s₇) X.xe s₆) X.xe { s' with heap := h1 }) := fun h1 hh1 up1 => by
      refine ⟨ref_ne_byPass x, HandSPX.landsZ hh1 fun h3 fl3 up3 => ?_⟩
      obtain ⟨t, ox, ot, va, vt, air, gx, gt, ht, nL, nF, J3⟩ := air_in (s' := { s' with heap := h3 }) hs hf hex J nb ((up.trans up1).trans up3) fl3.1 fl3.2.1 fl3.2.2.1 fl3.2.2.2 na os ag
      refine wpAny_typeOf_ref gx ?_
      rw [air.z.1]
      have hv1 : ∃ y, vt[1]? = some y := ⟨_, Array.getElem?_eq_getElem (by have := (Array.getElem?_eq_some_iff.mp air.v3).1; omega)⟩
      obtain ⟨y1, hy1⟩ := hv1
      have px := J3.pin (x, ox) (List.mem_append_right _ List.mem_cons_self)
      have hpin : PinOk X.stack H3 { s' with heap := h3 } (x, ox) := ⟨px.1, px.2.1, fun hm => (List.mem_cons.mp (J3.stkSub x hm)).elim px.2.2.1 px.2.2.2.1, px.2.2.2.2⟩
      have call_ : ∀ (y : V) (yv : Value), RelV y yv → (y = .non ∨ ∃ t, y = .ref t) → codeAny (model X.prog X.w) (X.A.mark (some (.ref x))) (.call (.ref fx) ⟨[.ref a, cls, .ref x, yv], []⟩) (fun r s₉ => match r with
          | .ok (.ret .none) => wpAny (model X.prog X.w) X.A (PySem.passOn "with" (.ref x) X.env : Sem Flow) (SP X pins D) X.xe s₉
          | .ok _ => False
          | .error y => X.xe y s₉) { s' with heap := h3 } := fun y yv ry hy => by
        have hsp := w x y hy
        have hl : ([Value.ref a, cls, .ref x, yv] ++ []).length = psX.length := by
          rw [← Fm.len _ _ _ _ hsp]
          rfl
        have bb := bx { s' with heap := h3 } [.ref a, cls, .ref x, yv] J3.kIn hl
        rw [List.append_nil] at bb
        refine codeAny_mono (Fm.run (X.A.mark (some (.ref x))) X.stack { s' with heap := h3 } H3 ⟨[.ref a, cls, .ref x, yv], []⟩ [.ref a, cls, .ref x, yv] [.ref a, k0, .ref x, y] _ (fun _ _ _ => False) (x, ox) (roomH_mark hr _) hpin
          ⟨J3.env0.frames, J3.env0.mod, J3.env0.bs, J3.env0.bsz, J3.env0.funs, J3.env0.frf, J3.env0.hok, J3.env0.bare⟩ bb (.cons (show RelV (V.ref a) (.ref a) from rfl) (.cons rk (.cons (show RelV (V.ref x) (.ref x) from rfl) (.cons ry .nil)))) hsp) fun r s9 hq => ?_
        cases r with
        | error er => exact noE J3 hq
        | ok fl =>
          cases fl with
          | ret z =>
            obtain ⟨v9, H9, I9, r9, e9, w9⟩ := J3.after hq
            subst e9
            obtain rfl : z = Value.none := r9
            exact air_out hs hf air tk I9 w9
          | next => exact False.elim hq
          | brk => exact False.elim hq
          | cont => exact False.elim hq
      show wpAny (model X.prog X.w) X.A (tracebackOf (.ref x)) _ _ _
      unfold tracebackOf
      refine wpAny_bind (wpAny_field gx air.dx air.v1 ?_)
      dsimp only
      refine wpAny_bind (wpAny_field gt air.dt hy1 ?_)
      split
      · exact wpAny_pure (call_ .non .none rfl (.inl rfl))
      · exact wpAny_pure (call_ (.ref t) (.ref t) rfl (.inr ⟨t, rfl⟩))
    rcases sky1 with ⟨hB, hn, hl, oe, vs, he, hz, hd, h1⟩ | fl | hh
    · exact HandSPX.look_newZ Zc.steady hfr hl hf he hB hn hd h1 hz land
    · exact HandSPX.looks_onZ Zc.steady hfr hf fl land
    · exact HandSPX.againZ hf hh.2.2.2 (land s'.heap hh (Heap.UpToSlots.refl _))
  · cases f with
    | next =>
      obtain ⟨σ3, H3, J3, q3⟩ := h3
      have I3 : Inv X pins σ3 H3 s3 := J3.ofTry ok
      refine wpAny_mono (run_fn Fx hr bx (dvs := []) .nil hx I3 (us := [.ref a, .none, .none, .none]) (.cons (show RelV (V.ref a) (.ref a) from rfl) (.cons (show RelV V.non .none from rfl) (.cons (show RelV V.non .none from rfl) (.cons (show RelV V.non .none from rfl) .nil)))) (by rw [List.append_nil]; exact q3)) (fun v s4 h4 => ?_) fun _ _ z => z
      obtain ⟨_, H4, I4, _, q4⟩ := h4
      exact ⟨σ3, H4, I4, q4⟩
    | ret u => exact False.elim h3.choose_spec.choose_spec.choose_spec.2.2
    | brk => exact False.elim h3.choose_spec.choose_spec.2
    | cont => exact False.elim h3.choose_spec.choose_spec.2
end
end PR
end

section
set_option maxHeartbeats 4000000
/-! calls whose errors are wished for at the caller's slots -/
namespace PR
open PySem L2 PySem.Spec PyProof.Rows L2H HotX
def tMethP (C : Addr) (m : Str) (sp : Sp) (E : L2.St → XK) (ta : TE) (t : TA) : TE := fun σ H Q => ta σ H fun x H1 => ∃ a dx fs, x = .ref a ∧ H1 a = some (.ins C dx fs) ∧ fs.lookup m = none ∧ t σ H1 fun vs H2 => sp (x :: vs) H2 Q (E σ)
def tItemP (C : Addr) (sp : Sp) (E : L2.St → XK) (ta ti : TE) : TE := fun σ H Q => ta σ H fun x H1 => ti σ H1 fun y H2 => ∃ a dx fs, x = .ref a ∧ H2 a = some (.ins C dx fs) ∧ sp [.ref a, y] H2 Q (E σ)
section
variable {X : Cx} {CX : CXT} {k : Nat} {C f g : Addr} {m : Str} {sp : Sp} {E : L2.St → XK} {o e : Expr} {es : List Expr} {ta ti : TE} {t : TA} {apos pos : Pos} {pl : Sem Bool}
theorem run_fnRS {pins : List (Addr × Obj)} {σ : L2.St} {H : Hp} {s : Shared} {A : Around} {Ee : XK} {Q : VK} {us : List Value} {vs : List V} (F : FnR X.prog X.w X.K X.mg X.base CX k f sp) (hr : Room k A) (e0 : Env0 X.prog X.w X.K X.mg X.base A X.stack s H) (hx : PassesAt CX X σ Ee) (I : Inv X pins σ H s) (r : Vals vs us) (h : sp vs H Q Ee) :
    codeAny (model X.prog X.w) A (.call (.ref f) ⟨us, []⟩) (fun r s' => match r with | .ok (.ret v) => EP X pins σ Q v s' | .ok _ => False | .error e => X.xe e s') s := by
  refine codeAny_mono (F A X.stack s H us vs Q Ee hr e0 r h) fun r s' hq => ?_
  cases r with
  | error e => exact hx pins H s e s' I hq
  | ok fl =>
    cases fl with
    | ret u => exact I.after hq
    | next => exact False.elim hq
    | brk => exact False.elim hq
    | cont => exact False.elim hq
theorem pe_methP (he : PE X o ta) (c : Cls X.K C) (hm : Meth X.K C m f) (F : FnR X.prog X.w X.K X.mg X.base CX k f sp) (hr : Room k X.A) (hx : ∀ σ, PassesAt CX X σ (E σ)) (ha : PA X (e :: es) t)
    (hst : starEach (e :: es) X.env = (false, eval e X.env) :: starEach es X.env := by rfl) (hpl : (backTo pos (starEach es X.env)).any (·.1) = false := by rfl)
    (ht : eval (.Call (.Attribute o m apos) (e :: es) [] pos) X.env = (do
      let ov ← eval o X.env
      standAt apos.atName
      let (f, first) ← holding [ov] (getMethod ov m pl)
      callWith pos f first (backTo pos (starEach (e :: es) X.env)) (backToKw pos (keywordEach [] X.env))) := by rfl) :
    PE X (.Call (.Attribute o m apos) (e :: es) [] pos) (tMethP C m sp E ta t) := by
  refine ⟨fun pins s σ H Q I h => ?_⟩
  refine PySem.W.methodCall_KW (pl := pl) (thn (he.run pins s σ H _ I h) fun u s1 ⟨x, H1, I1, rx, a, dx, fs, ex, ea, l, q⟩ => ?_) ht
  subst ex
  obtain rfl : u = Value.ref a := rx
  refine getmeth_ok I1 ea c hm l (PySem.W.callWith_K (first := [.ref a]) (h₀ := X.base) I.ok.mod.kin hm.kp (thn (ha.run pos pins s1 σ H1 _ I1 q) fun us s2 ⟨vs, H2, I2, r, q2⟩ => ⟨I2.kIn, ?_⟩) hst hpl)
  exact wpAny_call (run_fnRS (us := .ref a :: us) (vs := .ref a :: vs) F hr I2.env0 (hx σ) I2 (.cons rfl r) q2)
theorem pe_itemP {b : Expr} (ha : PE X o ta) (hb : PE X b ti) (hc : ItemC X.K C g) (F : FnR X.prog X.w X.K X.mg X.base CX k g sp) (hr : Room (k + 1) X.A) (hx : ∀ σ, PassesAt CX X σ (E σ))
    (hs : ∀ x i, subscripted b true (.ref x) i = runValue (.builtin "lifetime.subscript" ⟨[.ref x, i], []⟩)) : PE X (.Subscript o b pos) (tItemP C sp E ta ti) := by
  refine ⟨fun pins s σ H Q I h => ?_⟩
  refine Subscript_ (thn (ha.run pins s σ H _ I h) fun v s1 ⟨x, H1, I1, rx, q1⟩ => thn (hb.run pins s1 σ H1 _ I1 q1) fun u s2 ⟨y, H2, I2, ry, a, dx, fs, ex, eo, q2⟩ => ?_)
  subst ex
  obtain rfl : v = Value.ref a := rx
  obtain ⟨mA, O, _, _, _, _⟩ := ins_get I2.hok eo
  obtain ⟨od, J, _⟩ := O.look
  obtain ⟨m, fr⟩ := I2.fr
  refine PySem.W.sub_K fr I2.ok.mod.kin J hc.at_ hc.fnI hc.fn ?_ (hs _ _)
  exact wpAny_call (run_fnRS (us := [.ref a, u]) (vs := [.ref a, y]) F hr.in1 I2.env0.in1 (hx σ) I2 (.cons rfl (.cons ry .nil)) q2)
end
theorem _root_.L2.Fun.okH {CX : CXT} {P : Program} {w : World} {K : PySem.W.Frag} {mg : Str → Option Value} {base : Heap} {x qual : Str} {st : Stmt} {f : Addr} {fd : FuncData} {N ps : List Str} {k : Nat} {sp : Sp} (F : Fun K x qual st f fd) (S : FnScope N ps (defScope st)) (len : ∀ vs H Q E, sp vs H Q E → vs.length = ps.length)
    (hbody : ∀ (cdv : Value) (A : Around) (outer : List Env) (s : Shared) (H : Hp) (vs : List V) (Q : VK) (E : XK) (p : Addr × Obj), Hot1 A p → RoomH k (A.deeper (envOfC qual (defScope st) s.heap.objs.size f cdv)) → sp vs H Q E →
      ∃ t, PSs (cxH CX P w K mg base N qual (defScope st) f cdv A outer s H E p) (defBody st) t ∧ t { nx := fun _ H' => Q .non H', rt := Q } (L2.start N vs) H) : FnH P w K mg base CX (k + 1) f fd ps sp := by
  obtain ⟨oc, od, kV, doc, pm, an, cdv, ct, osl, rfl, lk, hcd⟩ := F.ex
  exact fn_ofH lk hcd S len fun A outer s H vs Q E p hot hr hsp => hbody cdv A outer s H vs Q E p hot hr hsp
theorem passF {X : Cx} : Passes (L2.CX X.prog X.w) X (fun _ _ _ => False) := L2.passes_call (L2.takes_none5 (X := X)) fun _ _ _ _ h => h
theorem passX {P : Program} {w : World} {K : PySem.W.Frag} {mg : Str → Option Value} {base : Heap} {N : List Str} {qual : Str} {scope : Scope} {f : Addr} {cd : Value} {Ar : Around} {outer : List Env} {s : Shared} {H : Hp} {E : XK} : Passes (L2.CX P w) (cxOf (L2.CX P w) P w K mg base N qual scope f cd Ar outer s H E) E :=
  L2.passes_call (L2.takes_of rfl rfl rfl rfl) fun _ _ _ _ h => h
namespace Rd
variable {σ : L2.St} {H : Hp} {Q : VK} {C : Addr} {m : Str} {sp : Sp} {E : L2.St → XK} {ta ti : TE} {t : TA} {f : Str} {to te : TE} {K : PySem.W.Frag} {D : Ends}
theorem tforT {wi : TI} {g : TG} {tb : TS} (h : ∀ TB : TS, TB = tb → wi σ H fun J H1 => ∃ W : Nat → Nat → L2.St → Hp → Prop, (∃ m, W 0 m σ H1) ∧ ∀ i m σ H, W i m σ H →
  (J.stop i H ∧ D.nx σ H) ∨ (J.go i H ∧ ∃ N : L2.St → Hp → Prop, (∀ σ' H', N σ' H' → ∃ m', m' < m ∧ W (i + 1) m' σ' H') ∧ ∀ x H', J.yld i H x H' → g x σ H' fun σ2 H2 => TB { D with nx := N, ct := N, bk := D.nx } σ2 H2)) : tFor wi g tb D σ H := h tb rfl
theorem mkO {ta : TA} {Qx : XK} {dvs : List V} (h : ta σ H fun vs H1 => vs.length ≤ 1000 ∧ ∀ a, H1 a = none → sp (.ref a :: (vs ++ dvs)) (upd H1 a (exo a C none))
  (fun v H2 => v = .non ∧ ∃ (d : Addr) (fs : List (Str × V)), H2 a = some (exo a C (some d)) ∧ H2 d = some (exd d fs) ∧ H1 d = none ∧ Qx (.ref C) (some d) (upd (del H2 a) d (.xd fs))) (fun _ _ _ => False)) : tMkO C sp dvs ta σ H Qx := h
theorem withS {spE spX : Sp} {tb : WX → TS} {Wout : WX} (h : te σ H fun x H1 => ∃ a dx fs, x = .ref a ∧ H1 a = some (.ins C dx fs) ∧ spE [.ref a] H1 (fun _ H2 => (∃ dx2 fs2, H2 a = some (.ins C dx2 fs2)) ∧
  tb (wWith spX a Wout) { nx := fun σ3 H3 => spX [.ref a, .non, .non, .non] H3 (fun _ H4 => D.nx σ3 H4) (fun _ _ _ => False), rt := fun _ _ => False, bk := fun _ _ => False, ct := fun _ _ => False } σ H2) (fun _ _ _ => False)) : tWith C spE spX te tb Wout D σ H := h
theorem methP (h : ta σ H fun x H1 => ∃ a dx fs, x = .ref a ∧ H1 a = some (.ins C dx fs) ∧ fs.lookup m = none ∧ t σ H1 fun vs H2 => sp (x :: vs) H2 Q (E σ)) : tMethP C m sp E ta t σ H Q := h
theorem itemP (h : ta σ H fun x H1 => ti σ H1 fun y H2 => ∃ a dx fs, x = .ref a ∧ H2 a = some (.ins C dx fs) ∧ sp [.ref a, y] H2 Q (E σ)) : tItemP C sp E ta ti σ H Q := h
theorem ost (h : te σ H fun y H1 => to σ H1 fun x H2 => ∃ a C : Addr, x = .ref a ∧ OexC K C ∧ PySem.W.findIn K (.ref C) f = some none ∧
  ((H2 a = some (exo a C none) ∧ ∀ dx, H2 dx = none → dx ≠ a → D.nx σ (upd (upd H2 dx (exd dx [(f, y)])) a (exo a C (some dx)))) ∨
    ∃ (dx : Addr) (fs : List (Str × V)), H2 a = some (exo a C (some dx)) ∧ H2 dx = some (exd dx fs) ∧ fs.length ≤ 900 ∧ D.nx σ (upd H2 dx (exd dx ((f, y) :: fs))))) : tOst K f to te D σ H := h
end Rd
end PR
end

section
set_option maxHeartbeats 4000000
/-! enumerate over a tuple -/
namespace PySem.EX
open PySem PySem.Calls
section
variable {prog : Program} {w : World} {A : Around} {E : Value → Shared → Prop} {s : Shared}
theorem enum_newT (l : Addr) (items : Array Value) (n : Nat) (dct : Option Addr) (sl : Array (Option Value)) :
    Meets (Builtin.«enumerate.__new__» ⟨[.type "enumerate", .ref l], []⟩) (fun _ R s => s.heap.get? l = some { cls := .type "tuple", dict := dct, data := .seq items n, slots := sl } ∧
      R (.ok (.ret (.ref (s.heap.push { cls := .type "tuple_iterator", data := .fields #[.ref l, .int 0 0] }).objs.size)))
        { s with heap := (s.heap.push { cls := .type "tuple_iterator", data := .fields #[.ref l, .int 0 0] }).push { cls := .type "enumerate", data := .fields #[.none, .bool false, .ref s.heap.objs.size, rawInt 0, .none, .none] } }) :=
  .of_wp fun prog w A R s h => by
    obtain ⟨hp, g, d, tk, os⟩ := s
    obtain ⟨gl, h⟩ := h
    have hsub := sub_enumerate
    have hT : Heap.IsTuple (Shared.heap ⟨hp, g, d, tk, os⟩) l items := ⟨_, gl, rfl, n, rfl⟩
    wp_walk using AutoSeq1.wpAny_loadPart' gl
    refine wpAny_stack_any fun st => wpAny_pure ?_
    split
    · rename_i c _ _ _ _ _
      cases (c == Value.type "enumerate") <;> (wp_walk using AutoSeq1.wpAny_loadPart' gl, wpAny_pyIter_tuple hT; exact ⟨_, rfl, h⟩)
    · wp_walk using AutoSeq1.wpAny_loadPart' gl, wpAny_pyIter_tuple hT
      exact ⟨_, rfl, h⟩
theorem call_enumT {l : Addr} {items : Array Value} {Q : Value → Shared → Prop} (hL : s.heap.IsTuple l items)
    (h : ∀ h', IsEnum h' (s.heap.objs.size + 1) s.heap.objs.size 0 .none → h'.IsTupleIter s.heap.objs.size l 0 → (∀ b o, s.heap.get? b = some o → h'.get? b = some o) → Q (.ref (s.heap.objs.size + 1)) { s with heap := h' }) :
    wpAny (model prog w) A (call (.type "enumerate") [.ref l]) Q E s := by
  obtain ⟨⟨c, dct, dt, sl⟩, gl, hc, n, hd⟩ := hL
  have hc' : c = .type "tuple" := hc
  have hd' : dt = .seq items n := hd
  subst hc' hd'
  refine callType_new F.called_enumerate (by decide) (F.typeCall_enumerate_1 _) (F.newCall_enumerate_1 _) (fun obj => F.args_object_init_2 obj _) F.entry_enumerate_new (enum_newT l items n dct sl) ⟨gl, ?_⟩
  have hz : (s.heap.push { cls := .type "tuple_iterator", data := .fields #[.ref l, .int 0 0] }).objs.size = s.heap.objs.size + 1 := Heap.size_push ..
  show _ ∧ _
  rw [hz]
  have he : IsEnum ((s.heap.push { cls := .type "tuple_iterator", data := .fields #[.ref l, .int 0 0] }).push { cls := .type "enumerate", data := .fields #[.none, .bool false, .ref s.heap.objs.size, rawInt 0, .none, .none] })
      (s.heap.objs.size + 1) s.heap.objs.size 0 .none := by
    have q := Heap.get?_push_size (s.heap.push { cls := .type "tuple_iterator", data := .fields #[.ref l, .int 0 0] }) (o := { cls := .type "enumerate", data := .fields #[.none, .bool false, .ref s.heap.objs.size, rawInt 0, .none, .none] }) rfl
    rw [hz] at q
    exact q
  exact ⟨⟨_, he, rfl⟩, h _ he ⟨_, Heap.get?_push_of_some _ (Heap.get?_push_size _ rfl), rfl, rfl⟩ fun b o x => Heap.get?_push_of_some _ (Heap.get?_push_of_some _ x)⟩
end
end PySem.EX
namespace PR
open PySem L2 PySem.Spec PyProof.Rows PySem.EX
/-- the items of the tuple at a, each in a new pair -/
def IteT (K : PySem.W.Frag) (a : Addr) : It :=
  ⟨fun i H => ∃ (xs : List V) (x : V), SqT K H a xs ∧ xs[i]? = some x, fun i H v H' => ∃ T x, v = .ref T ∧ H T = none ∧ H' = upd H T (.tup [.int (i : Nat), x]) ∧ ∀ xs, SqT K H a xs → xs[i]? = some x, fun i H => ∃ xs : List V, SqT K H a xs ∧ xs.length = i⟩
theorem turn_enumT {P : Program} {w : World} {K : PySem.W.Frag} {elts : List Expr} {kk : Nat} {tpos : Pos} (a e it : Addr) :
    Turn P w K (.Tuple elts kk tpos) (IteT K a) [e, it] e (fun i h => (∃ old, IsEnum h e it ((i : Nat) : Int) old) ∧ h.IsTupleIter it a i ∧ e ≠ it) where
  mem := by simp
  obj := fun i h st b hb => by
    obtain ⟨⟨old, he⟩, ⟨o, ho, hc, hd⟩, _⟩ := st
    have e1 : b = e ∨ b = it := by simpa using hb
    rcases e1 with z | z
    · rw [z]
      exact ⟨_, he, fun v q => nomatch q⟩
    · rw [z]
      exact ⟨o, ho, fun v q => by rw [hd] at q; cases q⟩
  keep := fun i h h' st k => let ⟨⟨old, he⟩, hi, hne⟩ := st; ⟨⟨old, k e (by simp) _ he⟩, hi.at fun o q => k it (by simp) o q, hne⟩
  item := by
    intro X hP hw hK hc i pins s σ H E I hf st hg
    subst hP hw hK
    obtain ⟨⟨old, he⟩, hit, hne⟩ := st
    obtain ⟨xs, x, hq, hx⟩ := hg
    obtain ⟨its, rv, p, hz⟩ := I.tuple hq
    have hT : s.heap.IsTuple a its.toArray := p
    obtain ⟨u, hu, ru⟩ := rv.get hx
    have hel : e < s.heap.objs.size := Heap.lt_size he
    obtain ⟨oi, gi, ci, di⟩ := id hit
    have hil : it < s.heap.objs.size := Heap.lt_size gi
    obtain ⟨oa, ga, ca, na, da⟩ := id hT
    have nai : a ≠ it := fun z => by
      rw [z, gi] at ga
      cases ga
      rw [di] at da
      cases da
    have nae : e ≠ a := fun z => by
      have he2 := he
      unfold IsEnum at he2
      rw [z, ga] at he2
      cases he2
      cases da
    have hlt : i < its.toArray.size := by
      have := (List.getElem?_eq_some_iff.mp hu).1
      simpa using this
    refine wpAny_pyNext_enum_itemD (Draws.tuple (prog := X.prog) (w := X.w) (A := X.A.in1) (I.ok.hd hc) it a nai its.toArray) he ⟨hit, hT⟩ hlt hne (by simp [hne, nae]) fun x' h' tk hx' ho st' hTT hsz hk => ?_
    have ex : x' = u := by
      have h1 : its[i]? = some x' := by simpa using hx'
      rw [hu] at h1
      exact (Option.some.inj h1).symm
    subst ex
    refine ⟨_, rfl, wpAny_letOwnedTupleGo_enum (s := { s with heap := h', toks := tk + 1 }) ho fun h'' he' sb => ?_⟩
    have hT2 : h''.get? s.heap.objs.size = some { cls := .type "tuple", data := .seq #[.int i tk, x'] } := (sb.2 _ (Nat.ne_of_gt hel)).trans hTT
    have new : ObjOk X.prog X.w (upd H s.heap.objs.size (.tup [.int (i : Nat), x])) h'' s.heap.objs.size (.tup [.int (i : Nat), x]) :=
      ⟨by show 2 ≤ sizeLine; decide, [.int i tk, x'], .cons ⟨_, rfl⟩ (.cons ru .nil), ⟨_, hT2, rfl, _, rfl⟩⟩
    have I1 : Inv X pins σ (upd H s.heap.objs.size (.tup [.int (i : Nat), x])) { s with heap := h'', toks := tk + 1 } :=
      I.turnedNew (ch := [e, it]) (fun b ob hb q => (sb.2 b (fun z => hb (by simp [z]))).trans (hk b ob (fun z => hb (by simp [z])) (fun z => hb (by simp [z])) q)) hf (Nat.le_refl _) new
    refine ⟨.ref s.heap.objs.size, _, I1, rfl, ⟨_, x, rfl, I.hok.fresh (Nat.le_refl _), rfl, fun ys hy => by rw [I.tuple_inj hy hq]; exact hx⟩, ⟨⟨x', ?_⟩, st'.1.at fun o q => (sb.2 it (Ne.symm hne)).trans q, hne⟩, fun b hb => ?_⟩
    · have e1 : ((i + 1 : Nat) : Int) = (i : Int) + 1 := by omega
      rw [e1]
      exact he'
    · have hb' : b < s.heap.objs.size := by
        have e1 : b = e ∨ b = it := by simpa using hb
        rcases e1 with z | z
        · rw [z]; exact hel
        · rw [z]; exact hil
      rw [upd_ne (Nat.ne_of_lt hb')]
      exact (hf b hb).1
  done := by
    intro X hP hw hK hc i pins s σ H E I hf st hg
    subst hP hw hK
    obtain ⟨⟨old, he⟩, hit, hne⟩ := st
    obtain ⟨xs, hq, hx⟩ := hg
    obtain ⟨its, rv, p, hz⟩ := I.tuple hq
    have hT : s.heap.IsTuple a its.toArray := p
    obtain ⟨f0, f1, f2, f3, f4, f5⟩ := hf it (by simp)
    have hl := rv.length
    obtain ⟨oi, gi, ci, di⟩ := id hit
    obtain ⟨oa, ga, ca, na, da⟩ := id hT
    have nai : a ≠ it := fun z => by
      rw [z, gi] at ga
      cases ga
      rw [di] at da
      cases da
    have ei : i = its.toArray.size := by rw [List.size_toArray, ← hl, hx]
    rw [ei] at hit he
    exact wpAny_pyNext_enum_endD (Draws.tuple (prog := X.prog) (w := X.w) (A := X.A.in1) (I.ok.hd hc) it a nai its.toArray) he ⟨hit, hT⟩ fun h' eb => ⟨rfl, I.turned (t' := s.toks) (fun b o hb q => eb b o hb q) f0 f1 f3 f4 f5⟩
  self := fun A i s Q E st h => let ⟨⟨_, he⟩, _⟩ := st; wpAny_pyIter_enum he h
def iEnumT (K : PySem.W.Frag) (ta : TA) : TI := fun σ H R => ta σ H fun vs H1 => ∃ a xs, vs = [.ref a] ∧ SqT K H1 a xs ∧ R (IteT K a) H1
theorem pi_enumT {X : Cx} {e : Expr} {ta : TA} {p pos tpos : Pos} {elts : List Expr} {kk : Nat} (hg : Gl X "enumerate") (hm : X.mg "enumerate" = none) (ha : PA X [e] ta) (hs : starEach [e] X.env = [(false, eval e X.env)] := by rfl) :
    PI X (.Tuple elts kk tpos) (.Call (.Name "enumerate" p) [e] [] pos) (iEnumT X.K ta) := by
  refine ⟨fun pins s σ H R I h => ?_⟩
  refine Call_ (ld_blt I hg hm boot_enumerate (PyProof.Rows.callWith_type1 (thn (ha.run pos pins s σ H _ I h) fun us s1 ⟨vs, H1, I1, r1, q1⟩ => ?_) hs rfl))
  obtain ⟨a, xs, ex, hq, q⟩ := q1
  subst ex
  cases r1 with
  | cons r rr =>
    cases rr
    cases r
    obtain ⟨its, rv, p', hz⟩ := I1.tuple hq
    refine call_enumT (show s1.heap.IsTuple a its.toArray from p') fun h' he hit hk => wpAny_pyIter_enum he ?_
    have I2 : Inv X pins σ H1 { s1 with heap := h' } := I1.kept (t' := s1.toks) hk
    refine ⟨s1.heap.objs.size + 1, [s1.heap.objs.size + 1, s1.heap.objs.size], _, _, H1, rfl, I2, turn_enumT a (s1.heap.objs.size + 1) s1.heap.objs.size, ⟨⟨.none, he⟩, hit, Nat.succ_ne_self _⟩, fun b hb => ?_, q⟩
    have e' : b = s1.heap.objs.size + 1 ∨ b = s1.heap.objs.size := by simpa using hb
    have hle : s1.heap.objs.size ≤ b := by rcases e' with z | z <;> (rw [z]; first | exact Nat.le_refl _ | exact Nat.le_add_right _ _)
    exact I1.fpOk hle (I1.hok.fresh hle)
theorem walk_enumT {K : PySem.W.Frag} {a : Addr} {xs : List V} : Walk (IteT K a) xs.length (fun H => SqT K H a xs) (YPair (fun i => some (.int (i : Nat))) (fun i => xs[i]?)) := by
  refine ⟨fun i H hi hs => ⟨xs, xs[i], hs, by simp [hi]⟩, fun H hs => ⟨xs, hs, rfl⟩, fun i H v H' hi hs y => ?_⟩
  obtain ⟨T, x, e1, e2, e3, e4⟩ := y
  exact ⟨T, _, x, e1, e2, e3, rfl, e4 xs hs⟩
theorem Kx.pi_enumT {X : Cx} {K : PySem.W.Frag} {e : Expr} {ta : TA} {p pos tpos : Pos} {elts : List Expr} {kk : Nat} (hK : X.K = K) (hg : Gl X "enumerate") (hm : X.mg "enumerate" = none) (ha : PA X [e] ta) (hs : starEach [e] X.env = [(false, eval e X.env)] := by rfl) :
    PI X (.Tuple elts kk tpos) (.Call (.Name "enumerate" p) [e] [] pos) (iEnumT K ta) := by subst hK; exact PR.pi_enumT hg hm ha hs
theorem Rd.enumT {K : PySem.W.Frag} {σ : L2.St} {H : Hp} {ta : TA} {R : It → Hp → Prop} (h : ta σ H fun vs H1 => ∃ a xs, vs = [.ref a] ∧ SqT K H1 a xs ∧ R (IteT K a) H1) : iEnumT K ta σ H R := h
theorem Rd.enumTAt {K : PySem.W.Frag} {H : Hp} {p : Addr} {xs : List V} {P : Addr → Prop} (h1 : SqT K H p xs) (h : P p) : ∃ a ys, [V.ref p] = [.ref a] ∧ SqT K H a ys ∧ P a := ⟨p, xs, rfl, h1, h⟩
end PR
end

section
set_option maxHeartbeats 4000000
/-! isinstance and fields of a caught error that has a dict -/
namespace PR
open PySem L2 PySem.Spec PyProof.Rows
def rIsX (K : PySem.W.Frag) (cls : Value) (d : Option Addr) (a : Addr) : List V → Hp → VK → Prop := fun xs H Q => ∃ (D : Addr) (c : V) (cv : Value) (b : Bool) (dd : Addr) (fs : List (Str × V)), cls = .ref D ∧ d = some dd ∧ ExcC K D ∧ xs = [.ref a, c] ∧ (∀ u, RelV c u → u = cv) ∧ H dd = some (.xd fs) ∧
  PySem.W.kitOne K (.ref D) cv = some b ∧ Q (.bl b) H
theorem call_isX {X : Cx} {K : PySem.W.Frag} {a : Addr} {oe : Obj} {cls : Value} {d : Option Addr} {pn : List (Addr × Obj)} {xe : Value → Shared → Prop} (hK : X.K = K) (hz : Zc cls d oe) (hf : ∃ vs, oe.data = .fields vs) : CallR (suiteN X a ((a, oe) :: pn) xe) (.builtin "isinstance") (rIsX K cls d a) := by
  subst hK
  intro pins s σ H xs us Q I r h
  obtain ⟨D, c, cv, b, dd, fs, rfl, rfl, C, rfl, hcv, hx, e, q⟩ := h
  cases r with
  | cons rx rr =>
    cases rr with
    | cons rt rr =>
      cases rr
      cases rx
      have ec := hcv _ rt
      subst ec
      obtain ⟨ga, _⟩ := I.pin (a, oe) (List.mem_append.mpr (.inl List.mem_cons_self))
      obtain ⟨vs, hv⟩ := hf
      have ox : ObjOk X.prog X.w H s.heap dd (.xd fs) := I.hok dd _ hx
      obtain ⟨mA, hns, hr⟩ := ox
      obtain ⟨od, ho, hl⟩ := lookIn_ns hns
      have J : PySem.W.InstAt s.heap a oe D (some od) := ⟨ga, hz.1, by unfold PySem.W.notCls; rw [hv] <;> rfl, by rw [hz.2]; exact ho⟩
      obtain ⟨cd, hcd, _⟩ := PySem.W.any_some C.hd
      exact PySem.W.kia_one (PySem.W.kitx_exc (by rw [hcd]; rfl) C.hg C.hk C.hs C.ha C.hn C.ht C.hm) I.kIn J e (fun z => nomatch z) fun tk => ⟨.bl b, H, I.kept (t' := tk) fun _ _ z => z, rfl, q⟩
theorem pe_xfN {X : Cx} {a C : Addr} {oe : Obj} {cls : Value} {d : Option Addr} {pn : List (Addr × Obj)} {xe : Value → Shared → Prop} {e : Expr} {te : TE} {pos : Pos} {n : Str} (T : XfC X.K C) (hno : PySem.W.findIn X.K (.ref C) n = some none)
    (hz : Zc cls d oe) (hf : ∃ vs, oe.data = .fields vs) (he : PE (X.suite a ((a, oe) :: pn)) e te) (hb : attributeBase e n X.env (eval e X.env) = eval e X.env := by rfl) : PE (suiteN X a ((a, oe) :: pn) xe) (.Attribute e n pos) (tXf a cls d C n te) :=
  PE.nox (X := suiteN X a ((a, oe) :: pn) xe) (pe_xf T hno hz hf he hb)
namespace Rd
variable {K : PySem.W.Frag} {H : Hp} {Q : VK} {σ : L2.St} {a C dd D : Addr} {f : Str} {fs : List (Str × V)} {v c : V} {cv : Value} {b : Bool} {te : TE}
theorem xf {cls : Value} {d : Option Addr} (h : te σ H fun x H1 => x = .ref a ∧ cls = .ref C ∧ ∃ (dd : Addr) (fs : List (Str × V)) (v : V), d = some dd ∧ H1 dd = some (.xd fs) ∧ fs.lookup f = some v ∧ Q v H1) : tXf a cls d C f te σ H Q := h
theorem isX (hc : ExcC K D) (hcv : ∀ u, RelV c u → u = cv) (hx : H dd = some (.xd fs)) (hk : PySem.W.kitOne K (.ref D) cv = some b) (h : Q (.bl b) H) : rIsX K (.ref D) (some dd) a [.ref a, c] H Q := ⟨D, c, cv, b, dd, fs, rfl, rfl, hc, rfl, hcv, hx, hk, h⟩
theorem lenD {kvs : List (Key × V)} {P : List (Key × V) → Prop} (h1 : H a = some (.dK kvs)) (h : P kvs) : ∃ a' kvs', [V.ref a] = [V.ref a'] ∧ H a' = some (.dK kvs') ∧ P kvs' := ⟨a, kvs, rfl, h1, h⟩
end Rd
end PR
end

section
/-! dict(rows) -/
namespace PR
open PySem L2 PySem.Spec PyProof.Rows
theorem rows_pairs {K : PySem.W.Frag} {H : Hp} : ∀ {rows : List Row} {xs : List V}, DpAll K H xs (rows.map rowD) → ∃ ps : List Addr, xs = ps.map V.ref ∧ Paired (fun p (kv : Key × V) => SqT K H p [kV kv.1, kv.2]) ps (dictOf rows)
  | [], xs, h => by
    cases h
    exact ⟨[], rfl, .nil⟩
  | r :: rows, xs, h => by
    cases h with
    | cons h1 t1 =>
      obtain ⟨b, rfl, hb⟩ := dp_row h1
      obtain ⟨ps, rfl, hp⟩ := rows_pairs t1
      exact ⟨b :: ps, rfl, .cons hb hp⟩
theorem merge_take {rows : List Row} (nd : (keysOf rows).Nodup) : ∀ n, n ≤ rows.length → mergeK [] (dictOf (rows.take n)) = dictOf (rows.take n) := by
  intro n
  induction n with
  | zero => intro _; rfl
  | succ n ih =>
    intro hn
    have e := dictOf_take nd (List.getElem?_eq_getElem (show n < rows.length by omega))
    have e2 : rows.take (n + 1) = rows.take n ++ [rows[n]] := by rw [List.take_add_one, List.getElem?_eq_getElem (by omega)]; rfl
    have e3 : dictOf (rows.take (n + 1)) = dictOf (rows.take n) ++ [((.inl rows[n].1 : Key), optV rows[n].2)] := by
      rw [e2]
      unfold dictOf
      rw [List.map_append]
      rfl
    rw [e3]
    unfold mergeK at ih ⊢
    rw [List.foldl_append, ih (by omega)]
    show putK (dictOf (rows.take n)) (.inl rows[n].1) (optV rows[n].2) = _
    rw [e, e3]
theorem merge_all {rows : List Row} (nd : (keysOf rows).Nodup) : mergeK [] (dictOf rows) = dictOf rows := by
  have := merge_take nd rows.length (Nat.le_refl _)
  rwa [List.take_length] at this
/-- two lists of the same data are equal -/
theorem eqv_self_rows (rows : List Row) : PyData.eqv (.list (rows.map rowD)) (.list (rows.map rowD)) = true := by
  refine SeqAt.eqv_refl _ ?_
  exact (shN_list (n := 1) fun d hd => by
    obtain ⟨r, _, rfl⟩ := List.mem_map.mp hd
    refine shN_tuple fun z hz => ?_
    rcases List.mem_cons.mp hz with e | hz
    · rw [e]; exact ⟨by simp [PyData.canLay0], by simp [PyData.depth]⟩
    rcases List.mem_cons.mp hz with e | hz
    · rw [e]
      cases r.2 with
      | none => exact ⟨by simp [optD, PyData.canLay0], by simp [optD, PyData.depth]⟩
      | some q => exact ⟨by simp [optD, PyData.canLay0], by simp [optD, PyData.depth]⟩
    · cases hz).1
end PR
end

section
set_option maxHeartbeats 4000000
/-! blocks by contracts: a piece of a def's body keeps a promise told as a reading -/
namespace PR
open PySem L2 PySem.Spec PyProof.Rows
theorem Rd.gnameW {n : Nat} {v : V} {σ σ0 σ' : L2.St} {vs : List Nat} {H : Hp} {Qg : L2.St → Hp → Prop} (e0 : wipe σ vs = σ0) (e : SetAt σ0 n (some v) σ') (h : Qg σ' H) : gName n v (wipe σ vs) H Qg := by
  rw [e0]
  exact Rd.gname e h
theorem PSs.weak {X : Cx} {l : List Stmt} {t u : TS} (h : PSs X l t) (q : ∀ D σ H, u D σ H → t D σ H) : PSs X l u := ⟨fun pins s σ H D I z => h.run pins s σ H D I (q D σ H z)⟩
theorem PS.weak {X : Cx} {l : Stmt} {t u : TS} (h : PS X l t) (q : ∀ D σ H, u D σ H → t D σ H) : PS X l u := ⟨fun pins s σ H D I z => h.run pins s σ H D I (q D σ H z)⟩
def fB : Stmt → List Stmt
  | .For _ _ b _ _ => b
  | .If _ b _ _ => b
  | .While _ b _ _ => b
  | .With _ b _ => b
  | .Try b _ _ _ _ => b
  | _ => []
def fE : Stmt → List Stmt
  | .If _ _ b _ => b
  | .For _ _ _ b _ => b
  | _ => []
def nthS (l : List Stmt) (i : Nat) : Stmt := l.getD i (.Pass ⟨0, 0, 0, 0⟩)
/-- what stands elsewhere than at S stands -/
def Fr (S : List Addr) (H H' : Hp) : Prop := ∀ b o, b ∉ S → H b = some o → H' b = some o
section
variable {S S' : List Addr} {H H1 H2 H0 : Hp} {a p t : Addr} {o : HO}
theorem Fr.refl : Fr S H H := fun _ _ _ e => e
theorem Fr.trans (f : Fr S H H1) (g : Fr S H1 H2) : Fr S H H2 := fun b o n e => g b o n (f b o n e)
theorem fr_same (s : Same H H1) : Fr S H H1 := fun b o _ e => s b o e
theorem Fr1.fr (f : Fr1 t H H1) (h : t ∈ S) : Fr S H H1 := fun b o n e => f b o (fun z => n (by rw [z]; exact h)) e
theorem Fr.get (f : Fr S H H1) (n : a ∉ S) (e : H a = some o) : H1 a = some o := f a o n e
theorem Fr.mono (f : Fr S H H1) (h : ∀ a, a ∈ S → a ∈ S') : Fr S' H H1 := fun b o n e => f b o (fun z => n (h b z)) e
/-- what was made anew: with regard to an older heap all is the same -/
theorem Fr.same (f : Fr S H H1) (s : Same H0 H) (n : ∀ a, a ∈ S → H0 a = none) : Same H0 H1 := fun b o e => f b o (fun z => by rw [n b z] at e; cases e) (s b o e)
theorem none2 (h1 : H a = none) (h2 : H p = none) : ∀ b, b ∈ [a, p] → H b = none := fun b h => by
  rcases List.mem_cons.mp h with e | h
  · rw [e]; exact h1
  · rcases List.mem_cons.mp h with e | h
    · rw [e]; exact h2
    · cases h
end
/-- slots not looked at -/
theorem us1 {us : List (Option V)} (h : us.length = 1) : ∃ a, us = [a] := match us, h with | [a], _ => ⟨a, rfl⟩
theorem us2 {us : List (Option V)} (h : us.length = 2) : ∃ a b, us = [a, b] := match us, h with | [a, b], _ => ⟨a, b, rfl⟩
theorem us3 {us : List (Option V)} (h : us.length = 3) : ∃ a b c, us = [a, b, c] := match us, h with | [a, b, c], _ => ⟨a, b, c, rfl⟩
theorem us4 {us : List (Option V)} (h : us.length = 4) : ∃ a b c d, us = [a, b, c, d] := match us, h with | [a, b, c, d], _ => ⟨a, b, c, d, rfl⟩
theorem us5 {us : List (Option V)} (h : us.length = 5) : ∃ a b c d e, us = [a, b, c, d, e] := match us, h with | [a, b, c, d, e], _ => ⟨a, b, c, d, e, rfl⟩
theorem us11 {us : List (Option V)} (h : us.length = 11) : ∃ a b c d e f g i j k l, us = [a, b, c, d, e, f, g, i, j, k, l] := match us, h with | [a, b, c, d, e, f, g, i, j, k, l], _ => ⟨a, b, c, d, e, f, g, i, j, k, l, rfl⟩
theorem us12 {us : List (Option V)} (h : us.length = 12) : ∃ a b c d e f g i j k l m, us = [a, b, c, d, e, f, g, i, j, k, l, m] := match us, h with | [a, b, c, d, e, f, g, i, j, k, l, m], _ => ⟨a, b, c, d, e, f, g, i, j, k, l, m, rfl⟩
end PR
end

section
set_option maxHeartbeats 4000000
/-! defs that say super().m(..): their promise, the statement that says it -/
namespace PR
open PySem L2 PySem.Spec PyProof.Rows NdefX
/-- a block at the def's own activation -/
def PSsU (X : Cx) (l : List Stmt) (t : TS) : Prop := ∀ (b : List Stmt) (pins : List (Addr × Obj)) (s : Shared) (σ : L2.St) (H : Hp) (D : Ends), Inv X pins σ H s → t D σ H → PySem.wpAt (model X.prog X.w) X.A (.func b X.env) (execs l X.env) (SP X pins D) X.xe s
def PSU (X : Cx) (l : Stmt) (t : TS) : Prop := ∀ (b : List Stmt) (pins : List (Addr × Obj)) (s : Shared) (σ : L2.St) (H : Hp) (D : Ends), Inv X pins σ H s → t D σ H → PySem.wpAt (model X.prog X.w) X.A (.func b X.env) (exec l X.env) (SP X pins D) X.xe s
def PEU (X : Cx) (e : Expr) (t : TE) : Prop := ∀ (b : List Stmt) (pins : List (Addr × Obj)) (s : Shared) (σ : L2.St) (H : Hp) (Q : VK), Inv X pins σ H s → t σ H Q → PySem.wpAt (model X.prog X.w) X.A (.func b X.env) (eval e X.env) (EP X pins σ Q) X.xe s
theorem psu_of {X : Cx} {l : Stmt} {t : TS} (h : PS X l t) : PSU X l t := fun _ pins s σ H D I q => PySem.wpAt_of_wpAny (h.run pins s σ H D I q)
theorem pssu_of {X : Cx} {l : List Stmt} {t : TS} (h : PSs X l t) : PSsU X l t := fun _ pins s σ H D I q => PySem.wpAt_of_wpAny (h.run pins s σ H D I q)
theorem pssu_cons {X : Cx} {st : Stmt} {r : List Stmt} {t u : TS} (h : PSU X st t) (k : PSsU X r u) : PSsU X (st :: r) (tSeq t u) := fun b pins s σ H D I q => by
  refine PySem.ks_wpAt_execs_cons (PySem.wpAt_mono (h b pins s σ H { D with nx := u D } I q) (fun fl s' z => ?_) fun _ _ z => z)
  cases fl with
  | next =>
    obtain ⟨σ', H', I', z'⟩ := z
    exact k b pins s' σ' H' D I' z'
  | ret v => exact z
  | brk => exact z
  | cont => exact z
theorem psu_expr {X : Cx} {e : Expr} {te : TE} {pos : Pos} (h : PEU X e te) (hi : interactive X.env = false := by rfl) (hs : swapsWith e none pos.line X.env = pure false := by rfl) : PSU X (.Expr e pos) (tDrop te) := fun b pins s σ H D I q => by
  refine PySem.ks_wpAt_Expr_any (PySem.wpAt_mono (h b pins s σ H _ I q) (fun v s' z => ?_) fun _ _ z => z) hi hs
  obtain ⟨x, H1, I1, _, z1⟩ := z
  exact ⟨σ, H1, I1, z1⟩
/-- the def at f, as it stands behind the top: it closes over __class__, which is the class at D -/
structure FunU (P : Program) (K : PySem.W.Frag) (x qual : Str) (params : Arguments) (body : List Stmt) (scope : Scope) (dvs : List V) (f : Addr) (fd : FuncData) (D cda cc : Addr) : Prop where
  ex : ∃ (oc : Value) (od : Option Addr) (dV kV doc pm : Value) (an : Option Addr) (ct : Value) (osl : Array (Option Value)),
    fd = PySem.W.fnX x qual params body scope [("__class__", cc)] dV kV doc pm an (.ref cda) ct ∧ K.lookup f = some ⟨oc, od, .func fd, osl⟩ ∧ PySem.W.codeIn K (.ref cda) qual = true ∧ DflV K dV dvs
  kp : PySem.W.keepIn K (.ref f) = true
  cell : ∃ (cl : Value) (cld : Option Addr) (csl : Array (Option Value)), K.lookup cc = some ⟨cl, cld, .cell (some (.ref D)), csl⟩
  code : ∃ (ccl : Value) (cdd : Option Addr) (vs : Array Value) (ccs : Array (Option Value)) (file : Str) (tf : Tok), K.lookup cda = some ⟨ccl, cdd, .fields vs, ccs⟩ ∧ vs[2]? = some (.str file tf) ∧ ((P.main.file : Str) == file) = true
  top : (P.main.scope.names.lookup ("super" : Str)).isSome = false
  par : ∃ ar : Arg, (params.posonlyargs ++ params.args).head? = some ar ∧ ar.arg = ("self" : Str)
abbrev nfU (x qual : Str) (params : Arguments) (body : List Stmt) (scope : Scope) (cda cc : Addr) : NF := ⟨x, qual, params, body, scope, [("__class__", cc)], cda⟩
section
variable {P : Program} {w : World} {K : PySem.W.Frag} {mg : Str → Option Value} {base : Heap} {CX : CXT} {x qual : Str} {params : Arguments} {body : List Stmt} {scope : Scope} {dvs : List V} {f D cda cc : Addr} {fd : FuncData} {N ps : List Str} {k : Nat} {sp : Sp}
/-- THE RULE for such a def -/
theorem FunU.ok (F : FunU P K x qual params body scope dvs f fd D cda cc) (S : NScope N ps ["__class__"] scope) (len : ∀ vs H Q E, sp vs H Q E → vs.length = ps.length)
    (hbody : ∀ (A : Around) (outer : List Env) (s : Shared) (H : Hp) (vs : List V) (Q : VK) (E : XK), Room k (A.deeper (envF (nfU x qual params body scope cda cc) f s.heap.objs.size)) → sp vs H Q E →
      ∃ t, PSsU (ncx CX P w K mg base N (nfU x qual params body scope cda cc) f A outer s H E) body t ∧ t { nx := fun _ H' => Q .non H', rt := Q } (startF N vs [none]) H) : FnOk P w K mg base CX (k + 1) f fd ps sp := by
  obtain ⟨oc, od, dV, kV, doc, pm, an, ct, osl, e, lk, hcd, _⟩ := F.ex
  obtain ⟨cl, cld, csl, hcell⟩ := F.cell
  subst e
  refine ⟨len, fun A outer s H args us vs Q E hr e0 hb r hsp => ?_⟩
  have KX : K.In s.heap := e0.mod.kin.keeps fun b o z => (e0.bs b o z).1
  have hl := len _ _ _ _ hsp
  have lim : s.heap.NoLimit := e0.mod.nolimit.keeps fun b o z => (e0.bs b o z).1
  have hcc : H cc = none := (e0.bs _ _ (e0.mod.kin _ _ hcell)).2
  have hic : s.heap.IsCell cc (some (.ref D)) := ⟨_, KX _ _ hcell, rfl⟩
  have C : CellsAt [("__class__", cc)] ["__class__"] [none] s.heap H := by
    have one : ∀ (y : Str) (c : Addr), List.lookup y [(("__class__" : Str), cc)] = some c → y = "__class__" ∧ c = cc := fun y c z => by
      rw [List.lookup_cons] at z
      by_cases q : y = ("__class__" : Str)
      · subst q
        rw [beq_self_eq_true] at z
        exact ⟨rfl, (Option.some.inj z).symm⟩
      · rw [show (y == ("__class__" : Str)) = false from beq_eq_false_iff_ne.mpr q] at z
        cases z
    refine ⟨rfl, fun y c z => ?_, fun a b c z1 z2 => (one a c z1).1.trans (one b c z2).1.symm, fun i y z => ?_⟩
    · obtain ⟨_, rfl⟩ := one y c z
      exact ⟨hcc, _, hic⟩
    · cases i with
      | zero =>
        have : y = "__class__" := (Option.some.inj z).symm
        subst this
        exact ⟨cc, by rw [List.lookup_cons, beq_self_eq_true], fun v q => by cases q⟩
      | succ i => cases z
  refine PySem.ks_codeAny_call_defAt (fd := PySem.W.fnX x qual params body scope [("__class__", cc)] dV kV doc pm an (.ref cda) ct) (body := body) (binds := ps.zip us) hr.depth (KX _ _ lk) rfl lim (PySem.W.codeRec_of KX hcd) rfl hb S.nocell (fun y hy => S.par y.1 (List.of_mem_zip hy).1) (fun h₁ hns kp => ?_) S.co S.gen S.kind
  obtain ⟨t, ht, hq⟩ := hbody A outer s H vs Q E (hr.deeper _) hsp
  have I : Inv (ncx CX P w K mg base N (nfU x qual params body scope cda cc) f A outer s H E) [] (startF N vs [none]) H { s with heap := h₁, toks := s.toks + (ps.zip us).length } := inv_startN S hr.hd e0 hl r C hns kp
  refine PySem.wpAt_mono (ht body [] _ (startF N vs [none]) H _ I hq) (fun fl s' hs => ?_) fun e s' hs => hs
  have fin : ∀ {σ' : L2.St} {H' : Hp} {v : V} {u : Value}, Inv (ncx CX P w K mg base N (nfU x qual params body scope cda cc) f A outer s H E) [] σ' H' s' → L2.RelV v u → Q v H' → CE outer P w H s Q u s' :=
    fun {σ' H' v u} J rv q => ⟨v, H', J.os, J.bare, J.base, J.hok, rv, q⟩
  cases fl with
  | ret u =>
    obtain ⟨v, σ', H', J, rv, q⟩ := hs
    exact fin J rv q
  | next =>
    obtain ⟨σ', H', J, q⟩ := hs
    exact fin (v := V.non) (u := Value.none) J rfl q
  | brk =>
    obtain ⟨_, _, _, q⟩ := hs
    exact False.elim q
  | cont =>
    obtain ⟨_, _, _, q⟩ := hs
    exact False.elim q
end
/-- super().m of an instance of the class at C, said in a def of the class at D, is the def at f2 -/
structure SupC (K : PySem.W.Frag) (C D : Addr) (m : Str) (f2 : Addr) : Prop where
  sub : PySem.W.mroIn K C (.ref D) = some true
  at_ : PySem.W.ks_superIn K C D m = some (some (.ref f2))
  ty : PySem.W.typeIn K (.ref f2) = some (.type "function")
  fi : PySem.W.fnIn K f2 = true
  op : PySem.W.nsIn K cStatics "thirdparty.any" = some none
  cD : (PySem.W.clsIn K D).isSome = true
/-- super().m(..): the promise of the def above at the object in slot 0 -/
def tSup (C : Addr) (sp : Sp) (E : XK) (t : TA) : TE := fun σ H Q => ∃ a dx fs, σ[0]? = some (some (.ref a)) ∧ H a = some (.ins C dx fs) ∧ t σ H fun vs H2 => sp (.ref a :: vs) H2 Q E
/-- the activation of such a def -/
structure EnvU (X : Cx) (f cda cc : Addr) : Prop where
  fn : X.env.func = some f
  co : X.env.code = .ref cda
  cl : X.env.cells.lookup ("__class__" : Str) = some cc
  ks : X.env.kindOf ("super" : Str) = some .globalImplicit
  kc : X.env.kindOf ("__class__" : Str) = some .free
  ka : X.env.kindOf ("self" : Str) = some .local
  n0 : X.N[0]? = some ("self" : Str)
section
variable {X : Cx} {CX : CXT} {x qual : Str} {params : Arguments} {body : List Stmt} {scope : Scope} {dvs : List V} {f C D cda cc f2 : Addr} {fd : FuncData} {k : Nat} {sp : Sp} {E : XK} {m : Str} {p0 p1 apos pos : Pos} {e : Expr} {es : List Expr} {t : TA} {pl : Sem Bool}
theorem boot_super : bootBuiltins "super" = some (.type "super") := by decide +kernel
/-- what super().m is: a bound method, new -/
theorem sup_bound {b : List Stmt} {pins : List (Addr × Obj)} {s : Shared} {σ : L2.St} {H : Hp} {a dx : Addr} {fs : List (Str × V)} {whole : Sem Value} {Q : Value × List Value → Shared → Prop} (F : FunU X.prog X.K x qual params body scope dvs f fd D cda cc) (V0 : EnvU X f cda cc) (hm : X.mg "super" = none)
    (S : SupC X.K C D m f2) (hn : (m == ("__class__" : Str)) = false) (I : Inv X pins σ H s) (ea : σ[0]? = some (some (.ref a))) (hH : H a = some (.ins C dx fs))
    (h : ∀ q s', Inv X ((q, PySem.W.methodObj (.ref f2) (.ref a)) :: pins) σ H s' → X.base.get? q = none → Q (.ref q, []) s') :
    PySem.wpAt (model X.prog X.w) X.A (.func b X.env) (attributeBase (.Call (.Name "super" p0) [] [] p1) m X.env whole) (fun ov s1 => wpAny (model X.prog X.w) X.A (getMethod ov m pl) Q X.xe s1) X.xe s := by
  obtain ⟨oc, od, dV, kV, doc, pm, an, ct, osl, ef, lk, hcd, _⟩ := F.ex
  obtain ⟨cl, cld, csl, hcell⟩ := F.cell
  obtain ⟨ccl, cdd, vs, ccs, file, tf, hcode, hvs, hfile⟩ := F.code
  obtain ⟨ar, har, hself⟩ := F.par
  have K0 := I.kIn
  obtain ⟨mb, b1, b2⟩ := I.mod.blt
  obtain ⟨mm, hns, hl⟩ := I.loc
  obtain ⟨u, ru, look⟩ := hl 0 "self" (.ref a) V0.n0 ea (.inl V0.ka)
  obtain rfl : u = Value.ref a := ru
  have hself2 : mm ("self" : Str) = some (.ref a) := by
    rcases look with ⟨_, z⟩ | ⟨z, _⟩
    · exact z
    · rw [V0.ka] at z
      rcases z with z | z <;> cases z
  obtain ⟨cdD, hcD⟩ := Option.isSome_iff_exists.mp S.cD
  obtain ⟨oD, hD1, hD2⟩ : ∃ oD, s.heap.get? D = some oD ∧ oD.data = .cls cdD := by
    unfold PySem.W.clsIn at hcD
    split at hcD
    · rename_i c d cd' sl ho
      cases hcD
      exact ⟨_, K0 _ _ ho, rfl⟩
    · cases hcD
  obtain ⟨mA, O, _, _, _⟩ := ins_get I.hok hH
  obtain ⟨odd, J, _⟩ := O.look
  refine PySem.ks_wpAt_super_base (f := f) V0.ks V0.kc hn V0.fn (K0 _ _ lk) rfl (by rw [ef]; exact har) V0.co (K0 _ _ hcode) rfl hvs hfile F.top ?_
  refine PySem.W.ks_loadName_global I.ok.kind V0.ks (Calls.loadGlobal_builtin (env := X.env) (mb := mb) (by rw [I.ok.glob]; exact I.mod.glob.keeps I.bk) hm (by rw [I.ok.blt]; exact b1.keeps I.bk) ((b2 _ (by decide)).trans boot_super) ⟨rfl, ?_⟩)
  refine wpAny_loadName_free I.ok.kind V0.kc V0.cl ⟨_, K0 _ _ hcell, rfl⟩ ?_
  rw [hself]
  refine wpAny_loadName_local I.ok.kind V0.ka hns hself2 ?_
  obtain ⟨hp, g, d, tk, os⟩ := s
  refine PySem.ks_wpAny_isType_cls hD1 hD2 ⟨rfl, ?_⟩
  refine PySem.ks_wpAny_call_super hD1 hD2 J.at_ J.cls (fun c z => ?_) (PySem.W.looks_mroIn K0 S.sub) (fun h' e1 k1 => ?_)
  · have := J.no
    unfold PySem.W.notCls at this
    rw [z] at this
    exact Bool.noConfusion this
  · have I1 : Inv X ((hp.objs.size, PySem.W.ks_superObj D a C) :: pins) σ H ⟨h', g, d, tk, os⟩ := ClX.pin_new (t' := tk) I k1 (Nat.le_refl _) e1 (fun v z => nomatch z)
    have K1 := I1.kIn
    cases hc : PySem.W.clsIn X.K C with
    | none =>
      have := S.at_
      unfold PySem.W.ks_superIn at this
      rw [hc] at this
      cases this
    | some cd =>
      have hm2 := S.at_
      unfold PySem.W.ks_superIn at hm2
      rw [hc] at hm2
      obtain ⟨of, hof, hofc⟩ : ∃ of, h'.get? f2 = some of ∧ of.cls = .type "function" := by
        have ht' : (X.K.lookup f2).map (·.cls) = some (.type "function") := S.ty
        cases z : X.K.lookup f2 with
        | none => rw [z] at ht'; cases ht'
        | some of => rw [z] at ht'; exact ⟨of, K1 _ _ z, Option.some.inj ht'⟩
      have hne : a ≠ C := PySem.W.ks_ne K0 J hc
      refine PySem.ks_wpAny_getMethod_super (ClX.pin_at I1) (PySem.W.looks_opaque K1 S.op) (l₀ := cd.mro) ?_ rfl K1 hm2 hof hofc hne hn ?_
      · exact fun A Q E s k q => wpAny_bind ((PySem.W.looks_clsIn K1 hc) A _ E s k (wpAny_pure q))
      · have I2 := ClX.pin_new (o := PySem.W.methodObj (.ref f2) (.ref a)) (t' := tk + 1) (ClX.unpin I1) (fun _ _ z => Heap.get?_push_of_some _ z) (Nat.le_refl _) (Heap.get?_push_size h' rfl) (fun v z => nomatch z)
        exact h _ _ I2 (ClX.base_none (ClX.unpin I1) (Nat.le_refl _))
theorem peu_super (F : FunU X.prog X.K x qual params body scope dvs f fd D cda cc) (V0 : EnvU X f cda cc) (hm : X.mg "super" = none) (S : SupC X.K C D m f2) (G : FnR X.prog X.w X.K X.mg X.base CX k f2 sp) (hr : Room k X.A) (hx : Passes CX X E) (ha : PA X (e :: es) t)
    (hn : (m == ("__class__" : Str)) = false := by decide) (hst : starEach (e :: es) X.env = (false, eval e X.env) :: starEach es X.env := by rfl) (hpl : (backTo pos (starEach es X.env)).any (·.1) = false := by rfl)
    (he : eval (.Call (.Attribute (.Call (.Name "super" p0) [] [] p1) m apos) (e :: es) [] pos) X.env = (do
      let ov ← attributeBase (.Call (.Name "super" p0) [] [] p1) m X.env (eval (.Call (.Name "super" p0) [] [] p1) X.env)
      standAt apos.atName
      let (f, first) ← holding [ov] (getMethod ov m pl)
      callWith pos f first (backTo pos (starEach (e :: es) X.env)) []) := by rfl) :
    PEU X (.Call (.Attribute (.Call (.Name "super" p0) [] [] p1) m apos) (e :: es) [] pos) (tSup C sp E t) := fun b pins s σ H Q I h => by
  obtain ⟨a, dx, fs, ea, hH, q⟩ := h
  refine PySem.ks_wpAt_MethodCall (pl := pl) (sup_bound F V0 hm S hn I ea hH fun qa s2 I2 hb => ?_) he
  have hL : qa ≠ X.env.locals := (I2.pin (qa, PySem.W.methodObj (.ref f2) (.ref a)) (List.mem_append_right _ List.mem_cons_self)).2.2.1
  refine PySem.W.callWith_M (K := X.K) (h₀ := X.base) (first := []) I.ok.mod.kin (news_at hL hb (ClX.pin_at I2)) List.mem_cons_self S.fi (thn (ha.run pos _ s2 σ H _ I2 q) fun us s3 ⟨vs, H2, I3, rv, q2⟩ => ⟨⟨ClX.pin_at I3, I3.kIn⟩, ?_⟩) hst hpl
  have z : wpAny (model X.prog X.w) X.A (call (.ref qa) us) (EP X ((qa, PySem.W.methodObj (.ref f2) (.ref a)) :: pins) σ Q) X.xe s3 :=
    wpAny_call (PySem.W.method_call (ClX.pin_at I3) (run_fnR (us := .ref a :: us) (vs := .ref a :: vs) G hr hx I3 (.cons rfl rv) q2))
  exact thn z fun _ _ y => ClX.unpinE y
/-- .. without arguments -/
theorem peu_super0 (F : FunU X.prog X.K x qual params body scope dvs f fd D cda cc) (V0 : EnvU X f cda cc) (hm : X.mg "super" = none) (S : SupC X.K C D m f2) (G : FnR X.prog X.w X.K X.mg X.base CX k f2 sp) (hr : Room k X.A) (hx : Passes CX X E)
    (hn : (m == ("__class__" : Str)) = false := by decide)
    (he : eval (.Call (.Attribute (.Call (.Name "super" p0) [] [] p1) m apos) [] [] pos) X.env = (do
      let ov ← attributeBase (.Call (.Name "super" p0) [] [] p1) m X.env (eval (.Call (.Name "super" p0) [] [] p1) X.env)
      standAt apos.atName
      let (f, first) ← holding [ov] (getMethod ov m pl)
      callWith pos f first (backTo pos (starEach [] X.env)) []) := by rfl) :
    PEU X (.Call (.Attribute (.Call (.Name "super" p0) [] [] p1) m apos) [] [] pos) (tSup C sp E tNil) := fun b pins s σ H Q I h => by
  obtain ⟨a, dx, fs, ea, hH, q⟩ := h
  refine PySem.ks_wpAt_MethodCall (pl := pl) (sup_bound F V0 hm S hn I ea hH fun qa s2 I2 hb => ?_) he
  refine PySem.W.callWith_M0 (K := X.K) (first := []) ⟨ClX.pin_at I2, I2.kIn⟩ S.fi ?_
  have z : wpAny (model X.prog X.w) X.A (call (.ref qa) []) (EP X ((qa, PySem.W.methodObj (.ref f2) (.ref a)) :: pins) σ Q) X.xe s2 :=
    wpAny_call (PySem.W.method_call (ClX.pin_at I2) (run_fnR (us := [.ref a]) (vs := [.ref a]) G hr hx I2 (.cons rfl .nil) q))
  exact thn z fun _ _ y => ClX.unpinE y
end
end PR
end

section
set_option maxHeartbeats 4000000
/-! len(o), x in o, for x in o, list(o) by own __len__, __contains__, __iter__ -/
namespace PR
open PySem L2 PySem.Spec PyProof.Rows NdefX ItX
section
variable {X : Cx} {CX : CXT} {k n : Nat} {C f fi fl : Addr} {sp : Sp} {E : XK} {pins : List (Addr × Obj)} {σ : L2.St} {H : Hp} {s : Shared}
/-- a call of the machine's own, a little deeper -/
theorem run_sub {A1 : Around} {Q : VK} {us : List Value} {vs : List V} (sb : Sub X n A1) (F : FnR X.prog X.w X.K X.mg X.base CX n f sp) (hx : Passes CX X E) (I : Inv X pins σ H s) (r : Vals vs us) (h : sp vs H Q E) :
    wpAny (model X.prog X.w) A1 (call (.ref f) us) (EP X pins σ Q) X.xe s := by
  have e0 : Env0 X.prog X.w X.K X.mg X.base A1 X.stack s H := by
    have e := I.env0
    exact ⟨sb.fr.trans e.frames, e.mod, e.bs, e.bsz, e.funs, e.frf, e.hok, e.bare⟩
  refine wpAny_call (codeAny_mono (F A1 X.stack s H us vs Q E sb.room e0 r h) fun t s' hq => ?_)
  cases t with
  | error e => exact hx pins σ H s e s' I hq
  | ok fl =>
    cases fl with
    | next => exact False.elim hq
    | brk => exact False.elim hq
    | cont => exact False.elim hq
    | ret u => exact I.after hq
/-- an own special method -/
structure SpM (K : PySem.W.Frag) (C : Addr) (m : Str) (f : Addr) : Prop where
  at_ : PySem.W.findIn K (.ref C) m = some (some (.ref f))
  fn : PySem.W.isFn K (.ref f) = true
def rLenO (C : Addr) (sp : Sp) (E : XK) : List V → Hp → VK → Prop := fun xs H Q => ∃ a dx fs, xs = [.ref a] ∧ H a = some (.ins C dx fs) ∧ sp [.ref a] H (fun v H' => ∃ n : Nat, v = .int (n : Nat) ∧ n ≤ sizeLine ∧ Q (.int (n : Nat)) H') E
theorem call_lenO (hl : SpM X.K C "__len__" f) (F : FnR X.prog X.w X.K X.mg X.base CX n f sp) (hr : Room (n + 1) X.A) (hx : Passes CX X E) : CallR X (.builtin "len") (rLenO C sp E) := by
  intro pins s σ H xs us Q I rv h
  obtain ⟨a, dx, fs, rfl, ha, q⟩ := h
  obtain ⟨u, rfl, ru⟩ := rv.one
  cases ru
  obtain ⟨mA, O, _⟩ := ins_get I.hok ha
  obtain ⟨od, J, _⟩ := O.look
  obtain ⟨m0, hF⟩ := I.fr
  have sb : Sub X n X.A.in1 := Sub.in1 (⟨hr, rfl⟩ : Sub X (n + 1) X.A)
  refine PySem.W.len_K hF I.ok.mod.kin J hl.at_ hl.fn (wpAny_mono (run_sub (vs := [.ref a]) sb F hx I (.cons rfl .nil) q) (fun u s' hu => ?_) fun _ _ z => z)
  obtain ⟨v, H', I', rv', z, ev, hz, q'⟩ := hu
  subst ev
  obtain ⟨t, rfl⟩ : ∃ t, u = .int (z : Nat) t := rv'
  refine ⟨⟨by omega, ?_⟩, .int (z : Nat), H', I'.tok _, ⟨_, rfl⟩, q'⟩
  have : sizeLine < 2 ^ 62 := by rw [sizeLine_eq]; decide
  omega
def rInO (C : Addr) (sp : Sp) (E : XK) (neg : Bool) : R2 := fun x y H Q => ∃ a dx fs, y = .ref a ∧ H a = some (.ins C dx fs) ∧ sp [.ref a, x] H (fun v H' => ∃ b, v = .bl b ∧ Q (.bl (if neg then !b else b)) H') E
theorem op_inO (hl : SpM X.K C "__contains__" f) (F : FnR X.prog X.w X.K X.mg X.base CX n f sp) (hr : Room n X.A) (hx : Passes CX X E) : OpR X (compareOp .In) (rInO C sp E false) := by
  intro pins s σ H x y v u Q I rx ry h
  obtain ⟨a, dx, fs, rfl, ha, q⟩ := h
  cases ry
  obtain ⟨mA, O, _⟩ := ins_get I.hok ha
  obtain ⟨od, J, _⟩ := O.look
  obtain ⟨m0, hF⟩ := I.fr
  refine PySem.W.in_K hF I.ok.mod.kin J hl.at_ hl.fn (wpAny_mono (run_sub (vs := [.ref a, x]) ⟨hr, rfl⟩ F hx I (.cons rfl (.cons rx .nil)) q) (fun u s' hu => ?_) fun _ _ z => z)
  obtain ⟨v', H', I', rv', b, ev, q'⟩ := hu
  subst ev
  obtain rfl : u = .bool b := rv'
  exact wpAny_of_eq (a := b) rfl ⟨.bl b, H', I', rfl, q'⟩
theorem op_notInO (hl : SpM X.K C "__contains__" f) (F : FnR X.prog X.w X.K X.mg X.base CX n f sp) (hr : Room n X.A) (hx : Passes CX X E) : OpR X (compareOp .NotIn) (rInO C sp E true) := by
  intro pins s σ H x y v u Q I rx ry h
  obtain ⟨a, dx, fs, rfl, ha, q⟩ := h
  cases ry
  obtain ⟨mA, O, _⟩ := ins_get I.hok ha
  obtain ⟨od, J, _⟩ := O.look
  obtain ⟨m0, hF⟩ := I.fr
  refine PySem.W.notIn_K hF I.ok.mod.kin J hl.at_ hl.fn (wpAny_mono (run_sub (vs := [.ref a, x]) ⟨hr, rfl⟩ F hx I (.cons rfl (.cons rx .nil)) q) (fun u s' hu => ?_) fun _ _ z => z)
  obtain ⟨v', H', I', rv', b, ev, q'⟩ := hu
  subst ev
  obtain rfl : u = .bool b := rv'
  exact wpAny_of_eq (a := b) rfl ⟨.bl (!b), H', I', rfl, q'⟩
/-- a promise that knows how large the heap was -/
def FnZ (P : Program) (w : World) (K : PySem.W.Frag) (mg : Str → Option Value) (base : Heap) (CX : CXT) (k : Nat) (f : Addr) (sp : Nat → Sp) : Prop := ∀ (A : Around) (outer : List Env) (s : Shared) (H : Hp) (us : List Value) (vs : List V) (Q : VK) (E : XK), Room k A → Env0 P w K mg base A outer s H → Vals vs us →
  sp s.heap.objs.size vs H Q E → codeAny (model P w) A (.call (.ref f) ⟨us, []⟩) (CR CX outer P w H s Q E) s
end
section
variable {P : Program} {w : World} {K : PySem.W.Frag} {mg : Str → Option Value} {base : Heap} {CX : CXT} {x qual : Str} {st : Stmt} {f : Addr} {fd : FuncData} {N ps : List Str} {k : Nat} {sp : Nat → Sp}
theorem fnZ_of (F : Fun K x qual st f fd) (S : NScope N ps [] (defScope st)) (len : ∀ n vs H Q E, sp n vs H Q E → vs.length = ps.length)
    (hbd : ∀ (kV doc pm : Value) (an : Option Addr) (cdv ct : Value) (us : List Value), us.length = ps.length → bindArgs (PySem.W.fnOf x qual (defArgs st) (defBody st) (defScope st) .none kV doc pm an cdv ct) ⟨us, []⟩ = pure (ps.zip us))
    (hbody : ∀ (cda : Addr) (A : Around) (outer : List Env) (s : Shared) (H : Hp) (vs : List V) (Q : VK) (E : XK), Room k (A.deeper (envF ⟨x, qual, defArgs st, defBody st, defScope st, [], cda⟩ f s.heap.objs.size)) → sp s.heap.objs.size vs H Q E →
      ∃ t, PSs (ncx CX P w K mg base N ⟨x, qual, defArgs st, defBody st, defScope st, [], cda⟩ f A outer s H E) (defBody st) t ∧ t { nx := fun _ H' => Q .non H', rt := Q } (startF N vs []) H) : FnZ P w K mg base CX (k + 1) f sp := by
  obtain ⟨oc, od, kV, doc, pm, an, cdv, ct, osl, e, lk, hcd⟩ := F.ex
  subst e
  intro A outer s H us vs Q E hr e0 r hsp
  have KX : K.In s.heap := e0.mod.kin.keeps fun b o z => (e0.bs b o z).1
  have hl := len _ _ _ _ _ hsp
  have lim : s.heap.NoLimit := e0.mod.nolimit.keeps fun b o z => (e0.bs b o z).1
  obtain ⟨cda, rfl⟩ : ∃ c, cdv = .ref c := by
    cases cdv with
    | ref c => exact ⟨c, rfl⟩
    | _ => cases hcd
  have C : CellsAt [] [] [] s.heap H := ⟨rfl, fun y c z => (by cases z), fun a b c z1 _ => (by cases z1), fun i y z => (by cases z)⟩
  have hul : us.length = ps.length := by rw [← r.length]; exact hl
  refine PySem.ks_codeAny_call_defAt (fd := PySem.W.fnOf x qual (defArgs st) (defBody st) (defScope st) .none kV doc pm an (.ref cda) ct) (body := defBody st) (binds := ps.zip us) hr.depth (KX _ _ lk) rfl lim (PySem.W.codeRec_of KX hcd) rfl (BindsTo.of_eq (hbd _ _ _ _ _ _ us hul)) S.nocell (fun y hy => S.par y.1 (List.of_mem_zip hy).1) (fun h₁ hns kp => ?_) S.co S.gen S.kind
  obtain ⟨t, ht, hq⟩ := hbody cda A outer s H vs Q E (hr.deeper _) hsp
  have I : Inv (ncx CX P w K mg base N ⟨x, qual, defArgs st, defBody st, defScope st, [], cda⟩ f A outer s H E) [] (startF N vs []) H { s with heap := h₁, toks := s.toks + (ps.zip us).length } := inv_startN S hr.hd e0 hl r C hns kp
  refine PySem.wpAt_of_wpAny (wpAny_mono (ht.run [] _ (startF N vs []) H _ I hq) (fun fl s' hs => ?_) fun e s' hs => hs)
  have fin : ∀ {σ' : L2.St} {H' : Hp} {v : V} {u : Value}, Inv (ncx CX P w K mg base N ⟨x, qual, defArgs st, defBody st, defScope st, [], cda⟩ f A outer s H E) [] σ' H' s' → L2.RelV v u → Q v H' → CE outer P w H s Q u s' :=
    fun {σ' H' v u} J rv q => ⟨v, H', J.os, J.bare, J.base, J.hok, rv, q⟩
  cases fl with
  | ret u =>
    obtain ⟨v, σ', H', J, rv, q⟩ := hs
    exact fin J rv q
  | next =>
    obtain ⟨σ', H', J, q⟩ := hs
    exact fin (v := V.non) (u := Value.none) J rfl q
  | brk =>
    obtain ⟨_, _, _, q⟩ := hs
    exact False.elim q
  | cont =>
    obtain ⟨_, _, _, q⟩ := hs
    exact False.elim q
end
section
variable {X : Cx} {CX : CXT} {k n : Nat} {C f fi fl : Addr} {sp : Nat → Sp} {E : XK} {pins : List (Addr × Obj)} {σ : L2.St} {H : Hp} {s : Shared}
theorem run_subZ {A1 : Around} {Q : VK} {us : List Value} {vs : List V} (sb : Sub X n A1) (F : FnZ X.prog X.w X.K X.mg X.base CX n f sp) (hx : Passes CX X E) (I : Inv X pins σ H s) (r : Vals vs us) (h : ∀ m, X.s_0.heap.objs.size ≤ m → sp m vs H Q E) :
    wpAny (model X.prog X.w) A1 (call (.ref f) us) (EP X pins σ Q) X.xe s := by
  have e0 : Env0 X.prog X.w X.K X.mg X.base A1 X.stack s H := by
    have e := I.env0
    exact ⟨sb.fr.trans e.frames, e.mod, e.bs, e.bsz, e.funs, e.frf, e.hok, e.bare⟩
  refine wpAny_call (codeAny_mono (F A1 X.stack s H us vs Q E sb.room e0 r (h _ I.sz)) fun t s' hq => ?_)
  cases t with
  | error e => exact hx pins σ H s e s' I hq
  | ok fl =>
    cases fl with
    | next => exact False.elim hq
    | brk => exact False.elim hq
    | cont => exact False.elim hq
    | ret u => exact I.after hq
/-- __iter__: a new iterator of a list -/
def spIt (K : PySem.W.Frag) (ok : Addr → Hp → Addr → Prop) (m : Nat) : Sp := fun vs H Q _ => ∃ a l, vs = [.ref a] ∧ ok a H l ∧ ∀ it, H it = none → m ≤ it → Q (.ref it) (upd H it (ItO l it 0))
/-- what is walked: an own object, by its __iter__ -/
def iOwn (K : PySem.W.Frag) (C : Addr) (ok : Addr → Hp → Addr → Prop) (te : TE) : TI := fun σ H R => te σ H fun x H1 => ∃ a dx fs l, x = .ref a ∧ H1 a = some (.ins C dx fs) ∧ ok a H1 l ∧ R (ItlF K l 0) H1
theorem drop_upd {H : Hp} {a : Addr} {o : HO} (h : H a = none) : dropH (upd H a o) a = H := by
  funext b
  by_cases e : b = a
  · rw [e, dropH_same, h]
  · rw [dropH_ne e, upd_ne e]
theorem pi_own {ok : Addr → Hp → Addr → Prop} {tg e : Expr} {te : TE} (he : PE X e te) (hi : SpM X.K C "__iter__" fi) (F : FnZ X.prog X.w X.K X.mg X.base CX n fi (spIt X.K ok)) (hr : Room n X.A) (hx : Passes CX X (fun _ _ _ => False)) : PI X tg e (iOwn X.K C ok te) := by
  refine ⟨fun pins s σ H R I h => ?_⟩
  refine thn (he.run pins s σ H _ I h) fun u s1 ⟨x, H1, I1, r1, a, dx, fs, l, ex, ha, hok, q⟩ => ?_
  subst ex
  cases r1
  obtain ⟨mA, O, _⟩ := ins_get I1.hok ha
  obtain ⟨od, J, _⟩ := O.look
  obtain ⟨m0, hF⟩ := I1.fr
  refine PySem.W.owit_iter hF I1.ok.mod.kin J hi.at_ hi.fn ?_
  refine wpAny_mono (run_subZ (vs := [.ref a]) (Q := fun v H2 => ∃ it, v = .ref it ∧ H1 it = none ∧ X.s_0.heap.objs.size ≤ it ∧ H2 = upd H1 it (ItO l it 0)) (E := fun _ _ _ => False) ⟨hr, rfl⟩ F hx I1 (.cons rfl .nil) fun m hm => ⟨a, l, rfl, hok, fun it hit hmi => ⟨it, rfl, hit, Nat.le_trans hm hmi, rfl⟩⟩) (fun u2 s2 hu => ?_) fun _ _ z => z
  obtain ⟨v, H2, I2, rv, it, ev, hit, hsz, eH⟩ := hu
  subst ev eH
  cases rv
  have eo := itO_get I2 upd_same
  have st : s2.heap.IsListIter it l (0 + 0) := ⟨_, eo, rfl, rfl⟩
  unfold PySem.W.OwitIt
  refine wpAny_specialOf (name := Str.ofString "__next__") st.typeIs slot_listiter_next.lookup ?_
  have eo2 : upd H1 it (ItO l it 0) it = some (ItO l it 0) := upd_same
  have e3 : dropH (upd H1 it (ItO l it 0)) it = H1 := drop_upd hit
  have I3 := inv_drop I2 (a := it) (by unfold ItO at eo2; exact eo2)
  have fp := inv_fp I2 eo2 hsz
  rw [e3] at I3 fp
  refine ⟨it, [it], _, _, H1, rfl, I3, turn_listF l it 0, st, fun b hb => ?_, q⟩
  have e : b = it := by simpa using hb
  rw [e]
  exact fp
/-! ### list(o) -/
section
variable {A1 : Around} {l it q : Addr} {ys : List V} {Rs : Result → Shared → Prop}
/-- the items come one by one -/
theorem ext_loop (sb : Sub X n A1) (hh : A1.handled = none) (hil : it ≠ l) (hiq : it ≠ q) (hl : SqL X.K H l ys) (hn : H q = none) (hdone : ∀ s, Inv X pins σ (upd H q (.lst ys)) s → Rs (.ok (.ret .none)) s) (hin : H it = none) :
    ∀ (m i : Nat) (s : Shared), m = ys.length - i → i ≤ ys.length → Inv X pins σ (upd H q (.lst (ys.take i))) s → s.heap.IsListIter it l i → FpOk X pins (upd H q (.lst (ys.take i))) it →
      codeAny (model X.prog X.w) A1 (.builtin "list.extend.loop" ⟨[.ref q, .ref it, .none], []⟩) Rs s := by
  intro m
  induction m with
  | zero =>
    intro i s hm hi I st fp
    obtain ⟨f0, f1, f2, f3, f4, f5⟩ := fp
    have hl' : SqL X.K (upd H q (.lst (ys.take i))) l ys := (same_upd hn).seq hl
    obtain ⟨its, rv, pl, hz⟩ := I.list hl'
    refine codeAny_builtin PySem.F.entry_extend_loop ?_
    rw [Around.under_plainId PySem.F.plain_extend_loop _]
    show wpAny _ A1.in1 (pyNext (.ref it) >>= _) _ _ s
    refine wpAny_bind (wpAny_pyNext_list_end hh st pl.isList (by
      have := rv.length
      simp; omega) fun h' eb => ?_)
    have e : i = ys.length := by omega
    subst e
    rw [List.take_length] at I
    rw [List.take_length] at f0
    exact wpAny_pure (hdone _ (I.turned (t' := s.toks) (fun b o hb e => eb b o hb e) f0 f1 f3 f4 f5))
  | succ m ih =>
    intro i s hm hi I st fp
    obtain ⟨f0, f1, f2, f3, f4, f5⟩ := fp
    have hl' : SqL X.K (upd H q (.lst (ys.take i))) l ys := (same_upd hn).seq hl
    obtain ⟨its, rv, pl, hz⟩ := I.list hl'
    have hlt : i < ys.length := by omega
    obtain ⟨v, hv⟩ : ∃ v, ys[i]? = some v := ⟨_, List.getElem?_eq_getElem hlt⟩
    obtain ⟨u, hu, ru⟩ := rv.get hv
    refine codeAny_builtin PySem.F.entry_extend_loop ?_
    rw [Around.under_plainId PySem.F.plain_extend_loop _]
    show wpAny _ A1.in1 (pyNext (.ref it) >>= _) _ _ s
    refine wpAny_bind (wpAny_pyNext_list_item st pl.isList (by rw [List.getElem?_toArray]; exact hu) fun h' st' sbt => ?_)
    have I1 : Inv X pins σ (upd H q (.lst (ys.take i))) { s with heap := h' } := I.turned (t' := s.toks) (fun b o hb e => (sbt.2 b hb).trans e) f0 f1 f3 f4 f5
    show wpAny _ A1.in1 (updateSeq q (·.push u) >>= _) _ _ _
    obtain ⟨z, its2, k2, r2, hl2, e2⟩ := I1.lstM upd_same
    have hil2 : its2.length = i := by rw [← hl2, List.length_take]; omega
    refine wpAny_bind (wpAny_updateSeq e2 rfl (wpAny_pure ⟨plainId_quiet PySem.F.plain_extend_loop _, ?_⟩) (by rw [List.size_toArray]; omega) (by show (its2.toArray.push u).size ≤ sizeLine + 1; rw [Array.size_push, List.size_toArray]; omega))
    have etake : ys.take (i + 1) = ys.take i ++ [v] := by rw [List.take_add_one, hv]; rfl
    have I2 := I1.lset (its' := its2 ++ [u]) (ys := ys.take (i + 1)) (f := (·.push u)) (t' := s.toks) upd_same e2 (by simp) (by rw [etake]; exact r2.append (.cons ru .nil)) (by rw [List.length_take]; omega)
    rw [upd_upd] at I2
    refine ih (i + 1) _ (by omega) hlt I2 ?_ ⟨?_, f1, f2, f3, f4, f5⟩
    · obtain ⟨o, ho, hc, hd⟩ := st'
      refine ⟨o, ?_, hc, hd⟩
      exact (Heap.get?_update_other h' (Obj.mapSeq _) hiq.symm).trans ho
    · rw [upd_ne hiq]; exact hin
/-- nothing is let out -/
def NoX (CX : CXT) : Prop := ∀ outer H s e s', CX outer H s (fun _ _ _ => False) e s' → False
theorem run_subF {sp : Sp} {Q : VK} {us : List Value} {vs : List V} {EE : Value → Shared → Prop} (sb : Sub X n A1) (F : FnR X.prog X.w X.K X.mg X.base CX n f sp) (hx : NoX CX) (I : Inv X pins σ H s) (r : Vals vs us) (h : sp vs H Q fun _ _ _ => False) :
    wpAny (model X.prog X.w) A1 (call (.ref f) us) (EP X pins σ Q) EE s := by
  have e0 : Env0 X.prog X.w X.K X.mg X.base A1 X.stack s H := by
    have e := I.env0
    exact ⟨sb.fr.trans e.frames, e.mod, e.bs, e.bsz, e.funs, e.frf, e.hok, e.bare⟩
  refine wpAny_call (codeAny_mono (F A1 X.stack s H us vs Q _ sb.room e0 r h) fun t s' hq => ?_)
  cases t with
  | error e => exact (hx _ _ _ _ _ hq).elim
  | ok fl =>
    cases fl with
    | next => exact False.elim hq
    | brk => exact False.elim hq
    | cont => exact False.elim hq
    | ret u => exact I.after hq
/-- the length that is asked for -/
theorem hintO {spl : Sp} {a dx : Addr} {fs : List (Str × V)} {Q : Bool → Shared → Prop} (sb : Sub X (n + 1) A1) (hl : SpM X.K C "__len__" fl) (F : FnR X.prog X.w X.K X.mg X.base CX n fl spl) (hx : NoX CX) (I : Inv X pins σ H s) (ha : H a = some (.ins C dx fs))
    (hsp : spl [.ref a] H (fun v H' => ∃ n : Nat, v = .int (n : Nat) ∧ n ≤ sizeLine ∧ H' = H) fun _ _ _ => False) (h : ∀ b s', Inv X pins σ H s' → Q b s') : wpAny (model X.prog X.w) A1 (Builtin.List.listLengthHint (.ref a)) Q X.xe s := by
  obtain ⟨mA, O, _⟩ := ins_get I.hok ha
  obtain ⟨od, J, _⟩ := O.look
  obtain ⟨m0, hF⟩ := I.fr
  unfold Builtin.List.listLengthHint
  refine wpAny_bind (wpAny_bind (J.type.here ((PySem.W.looks_findIn I.kIn hl.at_).here ?_)))
  refine PySem.W.KFB.if_not rfl ?_
  show wpAny _ _ (if (some (Value.ref fl)).isSome = true then _ else _) _ _ _
  rw [if_pos (show (some (Value.ref fl)).isSome = true from rfl)]
  refine wpAny_bind (wpAny_rule ?_)
  refine wpAny_bind (wpAny_attempt ?_)
  refine PySem.W.len_K hF I.ok.mod.kin J hl.at_ hl.fn (wpAny_mono (run_subF (vs := [.ref a]) (EE := fun _ _ => False) (Sub.in1 sb) F hx I (.cons rfl .nil) hsp) (fun u s' hu => ?_) fun _ _ z => z.elim)
  obtain ⟨v, H', I', rv', z, ev, hz, eH⟩ := hu
  subst ev eH
  obtain ⟨t, rfl⟩ : ∃ t, u = .int (z : Nat) t := rv'
  have : sizeLine < 2 ^ 62 := by rw [sizeLine_eq]; decide
  refine ⟨⟨by omega, by omega⟩, ?_⟩
  dsimp only
  refine wpAny_bind (wpAny_pure ?_)
  have nl : Builtin.List.listTooLong ((z : Nat) : Int).toNat = false := notLongL (by simpa using hz)
  dsimp only
  rw [if_neg (by rw [nl]; exact Bool.false_ne_true)]
  exact wpAny_pure (h _ _ (I'.tok _))
/-- list(o): the items of the list that __iter__ walks -/
def rListO (K : PySem.W.Frag) (C : Addr) (ok : Addr → Hp → Addr → Prop) (spl : Sp) : List V → Hp → VK → Prop := fun xs H Q => ∃ a dx fs l ys, xs = [.ref a] ∧ H a = some (.ins C dx fs) ∧ SqL K H l ys ∧
  (∀ H', Same H H' → ok a H' l ∧ spl [.ref a] H' (fun v H2 => ∃ n : Nat, v = .int (n : Nat) ∧ n ≤ sizeLine ∧ H2 = H') fun _ _ _ => False) ∧ ∀ q, H q = none → Q (.ref q) (upd H q (.lst ys))
theorem call_listO {ok : Addr → Hp → Addr → Prop} {spl : Sp} (hi : SpM X.K C "__iter__" fi) (hl : SpM X.K C "__len__" fl) (FI : FnZ X.prog X.w X.K X.mg X.base CX n fi (spIt X.K ok)) (FL : FnR X.prog X.w X.K X.mg X.base CX n fl spl) (hx : NoX CX) (hxI : Passes CX X fun _ _ _ => False)
    (hr : Room (n + 3) X.A) (hc : X.calm = true) : CallR X (.type "list") (rListO X.K C ok spl) := by
  intro pins s σ H xs us Q I rv h
  obtain ⟨a, dx, fs, l, ys, rfl, ha, hys, hok, hq⟩ := h
  obtain ⟨u, rfl, ru⟩ := rv.one
  cases ru
  have sb3 : Sub X (n + 3) X.A := ⟨hr, rfl⟩
  have sb2 : Sub X (n + 2) X.A.in1 := Sub.in1 sb3
  have sb1 : Sub X (n + 1) X.A.in1.in1 := Sub.in1 sb2
  refine callType_codes (Q₁ := fun ob z₁ => ob = .ref s.heap.objs.size ∧ z₁ = { s with heap := s.heap.push { cls := .type "list", data := .seq #[] } }) PySem.F.called_list (PySem.F.typeCall_list_1 _) PySem.F.entry_list_init (code_list_new _ ⟨rfl, rfl⟩) fun ob z₁ hz₁ => ?_
  obtain ⟨rfl, rfl⟩ := hz₁
  have hS : (s.heap.push { cls := .type "list", data := .seq #[] }).get? s.heap.objs.size = some { cls := .type "list", data := .seq #[] } := Heap.get?_push_size _ rfl
  refine ⟨⟨_, hS, rfl⟩, PySem.F.args_list_init_2 _ _, ?_⟩
  have fr : H s.heap.objs.size = none := I.hok.fresh (Nat.le_refl _)
  generalize hqa : s.heap.objs.size = q at fr hS
  have I1 : Inv X pins σ (upd H q (.lst [])) { s with heap := s.heap.push { cls := .type "list", data := .seq #[] } } := by
    rw [← hqa]
    exact I.lnew (its := []) (t' := s.toks) .nil (Nat.zero_le _)
  show wpAny _ _ (do let old ← Builtin.List.listItems (.ref q); Builtin.List.listUpdate (.ref q) (fun _ => #[]); letGo old.toList.reverse; Builtin.List.listExtendWith (.ref q) (.ref a) .none) _ _ _
  refine wpAny_bind ?_
  unfold Builtin.List.listItems
  refine wpAny_bind (wpAny_seqItems hS rfl (wpAny_pure ?_))
  show wpAny _ _ (updateSeq q (fun _ => #[]) >>= fun _ => letGo (#[] : Array Value).toList.reverse >>= fun _ => Builtin.List.listExtendWith (.ref q) (.ref a) .none) _ _ _
  refine wpAny_bind (wpAny_updateSeq hS rfl ?_)
  have I2 := I1.lset (f := fun _ => #[]) (its := []) (its' := []) (ys := []) (t' := s.toks) upd_same hS rfl .nil (Nat.zero_le _)
  rw [upd_upd] at I2
  refine wpAny_bind (wpAny_letGo ?_)
  have sq : Same H (upd H q (.lst [])) := same_upd fr
  have ha2 := sq _ _ ha
  have hne : q ≠ a := fun z => by rw [z, ha] at fr; cases fr
  obtain ⟨mA, O, _⟩ := ins_get I2.hok ha2
  obtain ⟨od, J, _⟩ := O.look
  obtain ⟨m0, hF⟩ := I2.fr
  unfold Builtin.List.listExtendWith
  refine wpAny_bind (J.type.here ?_)
  have e1 : Builtin.List.listSameRef (.ref q) (.ref a) = false := by simp [Builtin.List.listSameRef, hne]
  have e2 : (Value.ref C == Value.type "list") = false := rfl
  have e3 : (Value.ref C == Value.type "tuple") = false := rfl
  simp only [e1, e2, e3, Bool.or_false, Bool.false_eq_true, if_false]
  refine wpAny_bind (PySem.W.owit_iter hF I2.ok.mod.kin J hi.at_ hi.fn ?_)
  refine wpAny_mono (run_subZ (vs := [.ref a]) (Q := fun v H2 => ∃ it, v = .ref it ∧ upd H q (.lst []) it = none ∧ X.s_0.heap.objs.size ≤ it ∧ H2 = upd (upd H q (.lst [])) it (ItO l it 0)) (E := fun _ _ _ => False) (sb1.mono (by omega)) FI hxI I2 (.cons rfl .nil)
    fun m hm => ⟨a, l, rfl, (hok _ sq).1, fun it hit hmi => ⟨it, rfl, hit, Nat.le_trans hm hmi, rfl⟩⟩) (fun u2 s2 hu => ?_) fun _ s2 z => ?_
  rotate_left
  · exact z
  obtain ⟨v, H2, I3, rv, it, ev, hit, hsz, eH⟩ := hu
  subst ev eH
  cases rv
  have eo := itO_get I3 upd_same
  have st : s2.heap.IsListIter it l (0 + 0) := ⟨_, eo, rfl, rfl⟩
  unfold PySem.W.OwitIt
  refine wpAny_specialOf (name := Str.ofString "__next__") st.typeIs slot_listiter_next.lookup ?_
  have eo2 : upd (upd H q (.lst [])) it (ItO l it 0) it = some (ItO l it 0) := upd_same
  have e4 : dropH (upd (upd H q (.lst [])) it (ItO l it 0)) it = upd H q (.lst []) := drop_upd hit
  have I4 := inv_drop I3 (a := it) (by unfold ItO at eo2; exact eo2)
  have fp := inv_fp I3 eo2 hsz
  rw [e4] at I4 fp
  obtain ⟨g0, g1, g2, g3, g4, g5⟩ := id fp
  have I5 : Inv X ((it, GNX.itObj l 0) :: pins) σ (upd H q (.lst [])) s2 := I4.pins_of fun p hp => by
    rcases List.mem_cons.mp hp with e | e
    · rw [e]
      exact ⟨eo, g0, g1, g2, fun v z => by cases z⟩
    · exact I4.pin p (List.mem_append_right _ e)
  have hil : it ≠ l := fun z => by
    have hl2 := sq.seq hys
    obtain ⟨its, _, pl, _⟩ := I4.list hl2
    obtain ⟨o, ho, hc1, hd⟩ := st
    obtain ⟨o2, ho2, hc2, _⟩ := pl.isList
    rw [z] at ho
    have e0 := Option.some.inj (ho.symm.trans ho2)
    rw [← e0, hc1] at hc2
    have e9 : ("list_iterator" : String) = "list" := by injection hc2
    exact absurd e9 (by decide)
  have hiq : it ≠ q := fun z => by rw [z, upd_same] at hit; cases hit
  have hitH : H it = none := by rwa [upd_ne hiq] at hit
  show wpAny _ _ (holding [Value.ref it] (Builtin.List.listLengthHint (.ref a)) >>= _) _ _ _
  refine wpAny_bind (wpAny_holding (hintO (Q := fun b s3 => _) sb1 hl FL hx I5 ha2 (hok _ sq).2 fun b s3 I6 => ?_))
  have eo6 : s3.heap.get? it = some (GNX.itObj l 0) := ClX.pin_at I6
  have st6 : s3.heap.IsListIter it l 0 := ⟨_, eo6, rfl, rfl⟩
  have I7 : Inv X pins σ (upd H q (.lst [])) s3 := ClX.unpin I6
  have go : ∀ s4, Inv X pins σ (upd H q (.lst [])) s4 → s4.heap.IsListIter it l 0 → codeAny (model X.prog X.w) X.A.in1 (.builtin "list.extend.loop" ⟨[.ref q, .ref it, .none], []⟩) (wants (fun r z₂ => r = .none ∧ EP X pins σ Q (.ref q) z₂) X.xe) s4 := fun s4 I8 st8 =>
    ext_loop (ys := ys) (i := 0) sb2 (hr.in1.in1.hd) hil hiq hys fr (fun z4 I9 => ⟨rfl, .ref q, _, I9, rfl, hq q fr⟩) hitH ys.length s4 rfl (Nat.zero_le _) I8 st8 ⟨g0, g1, g2, g3, g4, g5⟩
  refine wpAny_ite_split (fun _ => ?_) (fun _ => wpAny_pure ⟨plainId_quiet PySem.F.plain_extend_loop _, go s3 I7 st6⟩)
  refine wpAny_bind (wpAny_rule ?_)
  refine wpAny_bind ?_
  show wpAny _ _ (updateSeq q (·.push .none) >>= fun _ => updateSeq q (·.pop)) _ _ _
  obtain ⟨z3, its3, k3, r3, hl3, e5⟩ := I7.lstM upd_same
  cases r3
  refine wpAny_bind (wpAny_updateSeq e5 rfl ?_)
  have J2 := I7.lset (f := (·.push Value.none)) (its' := [Value.none]) (ys := [.non]) (t' := s3.toks) upd_same e5 (by simp) (.cons rfl .nil) (by rw [List.length_singleton, sizeLine_eq]; decide)
  obtain ⟨z4, its4, k4, r4, hl4, e6⟩ := J2.lstM upd_same
  obtain ⟨u4, rfl, ru4⟩ := r4.one
  refine wpAny_updateSeq e6 rfl ?_ (by show 1 ≤ sizeLine; rw [sizeLine_eq]; decide) (by show 0 ≤ sizeLine + 1; exact Nat.zero_le _)
  have J3 := J2.lset (f := (·.pop)) (its := [u4]) (its' := []) (ys := []) (t' := s3.toks) upd_same e6 (by rfl) .nil (Nat.zero_le _)
  rw [upd_upd, upd_upd] at J3
  refine wpAny_pure ⟨plainId_quiet PySem.F.plain_extend_loop _, go _ J3 ?_⟩
  obtain ⟨o, ho, hc1, hd⟩ := st6
  refine ⟨o, ?_, hc1, hd⟩
  exact (Heap.get?_update_other _ (Obj.mapSeq _) hiq.symm).trans ((Heap.get?_update_other _ (Obj.mapSeq _) hiq.symm).trans ho)
end
end
end PR
end

section
set_option maxHeartbeats 4000000
/-! the head's facts: each one a Bool of the written part -/
namespace PR
open PySem L2 PySem.Spec PyProof.Rows PySem.EX
abbrev FK := PySem.W.Frag → Bool
def obK (fa : List He.Fa) (fn : List He5.DefA) (ex : List FK) (K : PySem.W.Frag) : He.AlD × Bool := (He5.obsA fa fn K, ex.all fun f => f K)
/-- what the module's names reach: classes, their tables, defs, properties, code -/
def rfV : Value → List Addr
  | .ref a => [a]
  | _ => []
def rfO (o : Obj) : List Addr := match o.data with
  | .seq its _ => its.toList.flatMap rfV
  | .dict es _ => es.toList.flatMap fun z => rfV z.val
  | .func fd => rfV fd.code ++ (rfV fd.defaults ++ (rfV fd.kwdefaults ++ fd.closure.map fun z => z.2))
  | .cls cd => [cd.ns]
  | _ => []
/-- a property's own defs -/
def rfP (o : Obj) : List Addr := match o.data with
  | .fields vs => (vs.toList.take 3).flatMap rfV
  | .func fd => rfV fd.code ++ (rfV fd.defaults ++ (rfV fd.kwdefaults ++ fd.closure.map fun z => z.2))
  | _ => []
def stepR (g : Addr → Option Obj) (r : Obj → List Addr) (as : List Addr) : List Addr := as.flatMap fun a => match g a with
  | some o => r o
  | none => []
def reachK (g : Addr → Option Obj) : List Addr :=
  (fun l1 => (fun l2 => (fun l3 => (fun l4 => [mainGlobals] ++ (l1 ++ (l2 ++ (l3 ++ (l4 ++ (stepR g rfP l4 ++ [cStatics])))))) (stepR g rfP l3)) (stepR g rfO l2)) (stepR g rfO l1)) (stepR g rfO [mainGlobals])
def obKG (n : Nat) (fa : List He.Fa) (fn : List He5.DefA) (ex : List FK) (g : Addr → Option Obj) : He.AlD × Bool := obK fa fn ex (He.frG g (reachK g))
def hookK (n : Nat) (fa : List He.Fa) (fn : List He5.DefA) (ex : List FK) : PySem.W.Hook where
  α := He.AlD × Bool
  obs := fun z => obKG n fa fn ex z.heap.get?
  val := fun _ => (He5.valA fn, true)
  says := fun _ hp => ∃ K : PySem.W.Frag, K.In hp ∧ obK fa fn ex K = (He5.valA fn, true)
  of := fun _ _ z => ⟨_, He.frG_in, z⟩
  keeps := fun _ _ _ ⟨K, hK, c⟩ k => ⟨K, PySem.W.Frag.In.keeps hK k, c⟩
theorem obKG_eq {n : Nat} {fa : List He.Fa} {fn : List He5.DefA} {ex : List FK} {g : Addr → Option Obj} {s : Shared} (h : ∀ a, g a = s.heap.get? a) : obKG n fa fn ex g = (hookK n fa fn ex).obs s := by
  have z : g = s.heap.get? := funext h
  rw [z] <;> rfl
section
variable {fa : List He.Fa} {fn : List He5.DefA} {ex : List FK} {K : PySem.W.Frag}
theorem obK_a (c : obK fa fn ex K = (He5.valA fn, true)) : He5.SaysA fa fn K := congrArg (fun z : He.AlD × Bool => z.1) c
theorem obK_x (c : obK fa fn ex K = (He5.valA fn, true)) (i : Nat) {f : FK} (h : ex[i]? = some f := by rfl) : f K = true :=
  List.all_eq_true.mp (show (ex.all fun f => f K) = true from congrArg (fun z : He.AlD × Bool => z.2) c) f (List.mem_of_getElem? h)
end
theorem bb {a b : Bool} (h : (a && b) = true) : a = true ∧ b = true := Bool.and_eq_true_iff.mp h
/-! ### the structures of facts, each as a Bool -/
section
variable {K : PySem.W.Frag} {C p : Addr} {f : Str}
def itemCB (K : PySem.W.Frag) (C : Addr) : Bool := He.eqO (PySem.W.findIn K (.ref C) "__getitem__") (some (some (.ref (He.ma K C "__getitem__")))) && (PySem.W.fnIn K (He.ma K C "__getitem__") && PySem.W.isFn K (.ref (He.ma K C "__getitem__")))
theorem itemCB_ok (h : itemCB K C = true) : ItemC K C (He.ma K C "__getitem__") := by
  obtain ⟨h1, h⟩ := bb h
  obtain ⟨h2, h3⟩ := bb h
  exact ⟨He.eqO_ok h1, h2, h3⟩
def withCB (K : PySem.W.Frag) (C : Addr) : Bool := He.eqO (PySem.W.findIn K (.ref C) "__enter__") (some (some (.ref (He.ma K C "__enter__")))) && (PySem.W.isFn K (.ref (He.ma K C "__enter__")) &&
  (He.eqO (PySem.W.findIn K (.ref C) "__exit__") (some (some (.ref (He.ma K C "__exit__")))) && PySem.W.isFn K (.ref (He.ma K C "__exit__"))))
theorem withCB_ok (h : withCB K C = true) : WithC K C (He.ma K C "__enter__") (He.ma K C "__exit__") := by
  obtain ⟨h1, h⟩ := bb h
  obtain ⟨h2, h⟩ := bb h
  obtain ⟨h3, h4⟩ := bb h
  exact ⟨He.eqO_ok h1, h2, He.eqO_ok h3, h4⟩
/-- a property's setter -/
def setAd (K : PySem.W.Frag) (C : Addr) (f : Str) : Addr := match PySem.W.recIn K (He.ma K C f) "property" with
  | some (_ :: .ref g :: _) => g
  | _ => 0
def propB (K : PySem.W.Frag) (C : Addr) (f : Str) : Bool := He.eqO (PySem.W.findIn K (.ref C) f) (some (some (.ref (He.ma K C f)))) && (He.eqO (PySem.W.specialIn K (.ref (He.ma K C f)) "__get__") (some (some (.builtin "property.__get__"))) &&
  (decide (PySem.W.takesIn K (.ref (He.ma K C f)) = some true) && (match PySem.W.recIn K (He.ma K C f) "property" with
    | some (.ref _ :: _) => true
    | _ => false)))
theorem propB_ok (h : propB K C f = true) : PropOf K C f (He.ma K C f) (He5.wf K C "property" f) := by
  obtain ⟨h1, h⟩ := bb h
  obtain ⟨h2, h⟩ := bb h
  obtain ⟨h3, h4⟩ := bb h
  refine ⟨He.eqO_ok h1, He.eqO_ok h2, of_decide_eq_true h3, ?_⟩
  unfold He5.wf
  split at h4
  · rename_i g r z
    exact ⟨r, by rw [z]⟩
  · cases h4
def setB (K : PySem.W.Frag) (C : Addr) (f : Str) : Bool := He.eqO (PySem.W.takerIn K C f) (some (some (.ref (He.ma K C f)))) && (decide (PySem.W.typeIn K (.ref (He.ma K C f)) = some (.type "property")) && (match PySem.W.recIn K (He.ma K C f) "property" with
    | some (_ :: .ref _ :: _) => true
    | _ => false))
theorem setB_ok (h : setB K C f = true) : SetOf K C f (He.ma K C f) (setAd K C f) := by
  obtain ⟨h1, h⟩ := bb h
  obtain ⟨h2, h3⟩ := bb h
  refine ⟨He.eqO_ok h1, of_decide_eq_true h2, ?_⟩
  unfold setAd
  split at h3
  · rename_i a g r z
    exact ⟨a, r, by rw [z]⟩
  · cases h3
/-- a class of exceptions, its base's own maker -/
def xclB (K : PySem.W.Frag) (C : Addr) (t : List Value → Bool) (nw : String) : Bool := match K.lookup C with
  | some ⟨.type u, _, .cls cd, sl⟩ => u == "type" && (match cd.mro, sl.toList with
    | .ref D :: bm, [_, _, _, _, some (.builtin n), _] => (D == C && n == nw) && ((cd.hasDict && !cd.hasDel) && t bm)
    | _, _ => false)
  | _ => false
theorem xclB_ok {t : List Value → Bool} {nw : String} (h : xclB K C t nw = true) : ∃ n q N bs bm sn sub ab col dd k0 k1 k2 k3 k5, K.lookup C = some (excClassObj n q C N bs bm true sn sub ab col dd k0 k1 k2 k3 k5 nw) ∧ t bm = true := by
  unfold xclB at h
  split at h
  · rename_i u dd cd sl ho
    obtain ⟨hu, h⟩ := bb h
    split at h
    · rename_i D bm k0 k1 k2 k3 n k5 hm hs
      obtain ⟨h1, h⟩ := bb h
      obtain ⟨h2, h3⟩ := bb h1
      obtain ⟨h4, h5⟩ := bb h
      obtain ⟨h6, h7⟩ := bb h4
      have e1 := eq_of_beq hu
      have e2 := eq_of_beq h2
      have e3 := eq_of_beq h3
      subst e1 e2 e3
      obtain ⟨x1, x2, x3, x4, x5, x6, x7, x8, x9, x10, x11⟩ := cd
      have e4 : x11 = false := by
        have : (!x11) = true := h7
        cases x11 <;> simp at this ⊢
      have e5 : x6 = true := h6
      have e6 : x3 = .ref D :: bm := hm
      subst e4 e5 e6
      have e7 : sl = #[k0, k1, k2, k3, some (.builtin n), k5] := by
        obtain ⟨l⟩ := sl
        have : l = _ := hs
        rw [this]
      subst e7
      exact ⟨x1, x5, x4, x2, bm, x7, x8, x9, x10, dd, k0, k1, k2, k3, k5, ho, h5⟩
    · cases h
  · cases h
/-- the def at f has no keyword defaults -/
def noKwB (K : PySem.W.Frag) (f : Addr) : Bool := match K.lookup f with
  | some ⟨_, _, .func fd, _⟩ => (match fd.kwdefaults with
    | .none => true
    | _ => false)
  | _ => false
def nmB (fl : Str) : Bool := !(fl == ("self" : Str)) && !(fl == ("__debug__" : Str))
def e1B (fl : Str) (bmB : List Value) (nw : String) (x : Str) : FK := fun K => nmB fl && (He.eqO (PySem.W.nsIn K mainGlobals x) (some (some (.ref (He.ga K x)))) && (xclB K (He.ga K x) (PySem.W.excTail bmB) nw && (PySem.W.excOver K (He.ga K x) bmB &&
  (He.eqO (PySem.W.findIn K (.ref (He.ga K x)) "__setattr__") (some (some (.builtin "object.__setattr__"))) && (xfB K (He.ga K x) && (He.eqO (PySem.W.findIn K (.ref (He.ga K x)) fl) (some none) &&
  (He.eqO (PySem.W.findIn K (.ref (He.ga K x)) "__init__") (some (some (.ref (He.ma K (He.ga K x) "__init__")))) && (decide (PySem.W.typeIn K (.ref (He.ma K (He.ga K x) "__init__")) = some (.type "function")) &&
  (PySem.W.keepIn K (.ref (He.ga K x)) && (decide (PySem.W.typeIn K (.ref (He.ga K x)) = some (.type "type")) && noKwB K (He.ma K (He.ga K x) "__init__")))))))))))
theorem e1B_ok {hp : Heap} {mg : Str → Option Value} {fl qual x : Str} {bmB : List Value} {nw : String} (X : K.In hp) (G : hp.Ns mainGlobals mg) (h : e1B fl bmB nw x K = true) {fd : FuncData} {p1 p2 q1 q2 q3 q4 : Pos}
    (bd : ∀ (p1 p2 q1 q2 q3 q4 : Pos) (doc pm : Value) (an : Option Addr) (cdv ct a v : Value), bindArgs (PySem.W.fnOf "__init__" qual (iA fl p1 p2) (iB fl q1 q2 q3 q4) (iS fl) .none .none doc pm an cdv ct) ⟨[a, v], []⟩ = pure [(("self" : Str), a), (fl, v)])
    (F : FunD K "__init__" qual (iA fl p1 p2) (iB fl q1 q2 q3 q4) (iS fl) [] [] (He.ma K (He.ga K x) "__init__") fd) : E1 K mg x fl qual bmB nw (He.ga K x) (He.ma K (He.ga K x) "__init__") := by
  obtain ⟨h0, h⟩ := bb h
  obtain ⟨h1, h⟩ := bb h
  obtain ⟨h2, h⟩ := bb h
  obtain ⟨h3, h⟩ := bb h
  obtain ⟨h4, h⟩ := bb h
  obtain ⟨h5, h⟩ := bb h
  obtain ⟨h6, h⟩ := bb h
  obtain ⟨h7, h⟩ := bb h
  obtain ⟨h8, h⟩ := bb h
  obtain ⟨h9, h⟩ := bb h
  obtain ⟨h10, h11⟩ := bb h
  obtain ⟨n1, n2⟩ := bb h0
  have xf := xfB_ok h5
  refine ⟨⟨by simpa using n1, by simpa using n2⟩, bd, PySem.W.mg_of X G (He.eqO_ok h1), xclB_ok h2, h3, He.eqO_ok h4, xf.ga, xf.gg, He.eqO_ok h6, He.eqO_ok h7, of_decide_eq_true h8, h9, xf.exC, of_decide_eq_true h10, xf.hdC, ?_⟩
  obtain ⟨oc, od, dV, kV, doc, pm, an, cdv, ct, osl, z, l, c, hd, _⟩ := F.ex
  have hd0 : dV = .none := by
    rcases hd with ⟨_, z⟩ | ⟨z, _⟩
    · exact z
    · exact absurd rfl z
  subst z hd0
  unfold noKwB at h11
  rw [l] at h11
  cases kV with
  | none => exact ⟨oc, od, doc, pm, an, cdv, ct, osl, p1, p2, q1, q2, q3, q4, l, c⟩
  | _ => cases h11
def oexB (x : Str) : FK := fun K => xclB K (He.ga K x) PySem.HandSPX.refsVE "ValueError.__new__" && (He.eqO (PySem.W.findIn K (.ref (He.ga K x)) "__setattr__") (some (some (.builtin "object.__setattr__"))) &&
  (decide (PySem.W.subIn K (.ref (He.ga K x)) (.type "BaseException") = some true) && (decide (PySem.W.typeIn K (.ref (He.ga K x)) = some (.type "type")) && PySem.W.keepIn K (.ref (He.ga K x)))))
theorem oexB_ok {x : Str} (h : oexB x K = true) : OexC K (He.ga K x) := by
  obtain ⟨h1, h⟩ := bb h
  obtain ⟨h2, h⟩ := bb h
  obtain ⟨h3, h⟩ := bb h
  obtain ⟨h4, h5⟩ := bb h
  exact ⟨xclB_ok h1, He.eqO_ok h2, of_decide_eq_true h3, of_decide_eq_true h4, h5⟩
def excB (x : Str) : FK := fun K => xfB K (He.ga K x) && (He.eqO (PySem.W.findIn K (.ref (He.ga K x)) "__class__") (some (some (.builtin "object.__class__"))) && (He.eqO (PySem.W.specialIn K (.builtin "object.__class__") "__get__") (some (some (.builtin "getset_descriptor.__get__"))) &&
  (decide (PySem.W.takesIn K (.builtin "object.__class__") = some true) && decide (PySem.W.mroIn K (He.ga K x) (.type "object") = some true))))
theorem excB_ok {x : Str} (h : excB x K = true) : ExcC K (He.ga K x) ∧ XfC K (He.ga K x) := by
  obtain ⟨h1, h⟩ := bb h
  obtain ⟨h2, h⟩ := bb h
  obtain ⟨h3, h⟩ := bb h
  obtain ⟨h4, h5⟩ := bb h
  have xf := xfB_ok h1
  exact ⟨⟨xf.ga, xf.gg, xf.exC, xf.hdC, He.eqO_ok h2, He.eqO_ok h3, of_decide_eq_true h4, of_decide_eq_true h5⟩, xf⟩
def fnB (x m : Str) : FK := fun K => He.eqO (PySem.W.findIn K (.ref (He.ga K x)) m) (some (some (.ref (He.ma K (He.ga K x) m)))) && decide (PySem.W.typeIn K (.ref (He.ma K (He.ga K x) m)) = some (.type "function"))
theorem fnB_ok {x m : Str} (h : fnB x m K = true) : PySem.W.findIn K (.ref (He.ga K x)) m = some (some (.ref (He.ma K (He.ga K x) m))) ∧ PySem.W.typeIn K (.ref (He.ma K (He.ga K x) m)) = some (.type "function") := by
  obtain ⟨h1, h2⟩ := bb h
  exact ⟨He.eqO_ok h1, of_decide_eq_true h2⟩
/-- isinstance by classes of the module -/
def kitGB (x y : Str) (b : Bool) : FK := fun K => decide (PySem.W.kitOne K (.ref (He.ga K x)) (.ref (He.ga K y)) = some b)
def kitTB (x : Str) (y : String) (b : Bool) : FK := fun K => decide (PySem.W.kitOne K (.ref (He.ga K x)) (.type y) = some b)
theorem kitGB_ok {x y : Str} {b : Bool} (h : kitGB x y b K = true) : PySem.W.kitOne K (.ref (He.ga K x)) (.ref (He.ga K y)) = some b := of_decide_eq_true h
theorem kitTB_ok {x : Str} {y : String} {b : Bool} (h : kitTB x y b K = true) : PySem.W.kitOne K (.ref (He.ga K x)) (.type y) = some b := of_decide_eq_true h
end
/-- the end: the law by such a promise, its errors told of the world -/
theorem walkE {l : PySem.W.OpenLaw} {n k : Nat} {q : Program} {lo : List Str} {XP : (Str → Option Value) → Heap → Prop} {YP : World → Heap → Prop} {d : DefRec} {CX : World → CXT} {x : Str} (hn : l.most = some n) (hn2 : n ≤ sizeLine) (hdf : d.params.defaults = []) (hr : Room k callerA)
    (F : ∀ (w : World) (mg : Str → Option Value) (fa : Addr) (h : Heap), YP w h → h.Ns mainGlobals mg → mg d.name = some (.ref fa) → ∃ (K : PySem.W.Frag) (fd : FuncData) (sp : Sp), K.In h ∧ (∀ (s : Shared) (u : Value), BindsTo s fd ⟨[u], []⟩ [(x, u)]) ∧
        (∀ (H : Hp) (a : Addr) (ns : List Int), ns.length ≤ n → Only H → SqL K H a (ns.map V.int) → sp [.ref a] H (fun v _ => v = .bl true) fun _ _ _ => False) ∧ ∀ bs : Heap, K.In bs → bs.Ns mainGlobals mg → FnOk l.prog w K mg bs (CX w) k fa fd [x] sp)
    (hCX : ∀ (w : World) (H : Hp) (s : Shared) (e : Value) (s' : Shared), CX w [] H s (fun _ _ _ => False) e s' → False) : PySem.W.WalkO q lo XP YP l.row.toRowW d [] (fun f vs => PySem.call f vs) := by
  refine Att.attach_call hn hdf fun w s0 s1 mg mb fa o pm cd doc a vs ns G Y ho hd hcd hmg hob hin hle hg => ?_
  obtain ⟨K, fd, sp, KX, hb, hs, hF⟩ := F w mg fa _ Y G.T.g hmg
  exact law_call KX G.T.g G.T.b G.T.builtins G.T.nolimit hg hob hin (Nat.le_trans hle hn2) hr hF hb (fun H hO hS => hs H a ns hle hO hS) fun H z u => hCX w H s1 z u
end PR
end

section
set_option maxHeartbeats 4000000
/-! the head's facts of defs that close over __class__, of inherited methods, of super() -/
namespace PR
open PySem L2 PySem.Spec PyProof.Rows PySem.EX
abbrev FnV : Type := Option (Str × Str × Arguments × FuncBody × Scope × Addr × Addr)
def fnV (K : PySem.W.Frag) (a : Addr) : FnV := match K.lookup a with
  | some ⟨_, _, .func fd, _⟩ => some (fd.name, fd.qualname, fd.params, fd.body, fd.scope, fd.globals, fd.builtins)
  | _ => none
def ccAt (K : PySem.W.Frag) (a : Addr) : Addr := match K.lookup a with
  | some ⟨_, _, .func fd, _⟩ => (match fd.closure with
    | [z] => z.2
    | _ => 0)
  | _ => 0
def cdAt (K : PySem.W.Frag) (a : Addr) : Addr := match K.lookup a with
  | some ⟨_, _, .func fd, _⟩ => (match fd.code with
    | .ref c => c
    | _ => 0)
  | _ => 0
/-- a def that closes over __class__ -/
structure DefU where
  at_ : PySem.W.Frag → Addr
  name : Str
  qual : Str
  params : Arguments
  body : List Stmt
  scope : Scope
  dfl : List He.Dv
  cls : PySem.W.Frag → Addr
def DefU.val (d : DefU) : FnV := some (d.name, d.qual, d.params, .stmts d.body, d.scope, mainGlobals, builtinsNs)
def DefU.dvs (K : PySem.W.Frag) (d : DefU) : List L2.V := d.dfl.map (He.Dv.v K)
def cellB (K : PySem.W.Frag) (c D : Addr) : Bool := match K.lookup c with
  | some ⟨_, _, .cell (some (.ref E)), _⟩ => decide (E = D)
  | _ => false
def fileB (K : PySem.W.Frag) (c : Addr) (F : Str) : Bool := match K.lookup c with
  | some ⟨_, _, .fields vs, _⟩ => (match (vs[2]? : Option Value) with
    | some (Value.str g _) => decide (g = F)
    | _ => false)
  | _ => false
def DefU.clB (F : Str) (K : PySem.W.Frag) (d : DefU) (dV : Value) : List (Str × Addr) → Value → Bool
  | [z], .ref c => decide (z.1 = ("__class__" : Str)) && (cellB K z.2 (d.cls K) && (PySem.W.codeIn K (.ref c) d.qual && (fileB K c F && He.dflB K dV (d.dvs K))))
  | _, _ => false
def DefU.ok (F : Str) (K : PySem.W.Frag) (d : DefU) : Bool := PySem.W.keepIn K (.ref (d.at_ K)) && (match K.lookup (d.at_ K) with
  | some ⟨_, _, .func fd, _⟩ => d.clB F K fd.defaults fd.closure fd.code
  | _ => false)
theorem DefU.funU {P : Program} {K : PySem.W.Frag} {d : DefU} {F : Str} (hF : (P.main.file : Str) = F) (htop : (P.main.scope.names.lookup ("super" : Str)).isSome = false) (hpar : ∃ ar : Arg, (d.params.posonlyargs ++ d.params.args).head? = some ar ∧ ar.arg = ("self" : Str)) (e : fnV K (d.at_ K) = d.val) (c : d.ok F K = true) :
    ∃ fd, FunU P K d.name d.qual d.params d.body d.scope (d.dvs K) (d.at_ K) fd (d.cls K) (cdAt K (d.at_ K)) (ccAt K (d.at_ K)) := by
  obtain ⟨kp, c2⟩ := bb c
  unfold fnV at e
  unfold cdAt ccAt
  cases q : K.lookup (d.at_ K) with
  | none =>
    rw [q] at c2
    cases c2
  | some o =>
    obtain ⟨oc, od, dt, osl⟩ := o
    rw [q] at c2 e
    cases dt with
    | func fd =>
      obtain ⟨n1, n2, n3, n4, n5, n6, n7, n8, n9, n10, n11, n12, n13, n14, n15⟩ := fd
      have e2 : (some (n1, n2, n3, n4, n5, n6, n15) : FnV) = some (d.name, d.qual, d.params, .stmts d.body, d.scope, mainGlobals, builtinsNs) := e
      simp only [Option.some.injEq, Prod.mk.injEq] at e2
      obtain ⟨h1, h2, h3, h4, h5, h6, h8⟩ := e2
      subst h1 h2 h3 h4 h5 h6 h8
      have c3 : d.clB F K n8 n7 n13 = true := c2
      unfold DefU.clB at c3
      split at c3
      · rename_i z cd
        obtain ⟨y, cc⟩ := z
        obtain ⟨k1, k⟩ := bb c3
        obtain ⟨k2, k⟩ := bb k
        obtain ⟨k3, k⟩ := bb k
        obtain ⟨k4, k5⟩ := bb k
        have ey : y = ("__class__" : Str) := of_decide_eq_true k1
        subst ey
        refine ⟨_, ⟨oc, od, n8, n9, n10, n11, n12, n14, osl, rfl, q, k3, He.dflB_ok k5⟩, kp, ?_, ?_, htop, hpar⟩
        · have k2' : cellB K cc (d.cls K) = true := k2
          unfold cellB at k2'
          split at k2'
          · rename_i cl cld E csl z
            have : E = d.cls K := of_decide_eq_true k2'
            exact ⟨cl, cld, csl, by rw [← this]; exact z⟩
          · cases k2'
        · have k4' : fileB K cd F = true := k4
          unfold fileB at k4'
          split at k4'
          · rename_i ccl cdd vs ccs z
            split at k4'
            · rename_i g tf z2
              have : g = F := of_decide_eq_true k4'
              exact ⟨ccl, cdd, vs, ccs, g, tf, z, z2, by rw [hF, this]; exact beq_self_eq_true _⟩
            · cases k4'
          · cases k4'
      · cases c3
    | _ => cases c2
/-- an inherited method -/
def methB (x y m : Str) : FK := fun K => He.eqO (PySem.W.findIn K (.ref (He.ga K x)) m) (some (some (.ref (He.ma K (He.ga K y) m)))) && (PySem.W.isFn K (.ref (He.ma K (He.ga K y) m)) && PySem.W.keepIn K (.ref (He.ma K (He.ga K y) m)))
theorem methB_ok {K : PySem.W.Frag} {x y m : Str} (h : methB x y m K = true) : Meth K (He.ga K x) m (He.ma K (He.ga K y) m) := by
  obtain ⟨h1, h⟩ := bb h
  obtain ⟨h2, h3⟩ := bb h
  exact ⟨He.eqO_ok h1, h2, h3⟩
theorem spmB_ok {K : PySem.W.Frag} {x y m : Str} (h : methB x y m K = true) : SpM K (He.ga K x) m (He.ma K (He.ga K y) m) := by
  obtain ⟨h1, h⟩ := bb h
  exact ⟨He.eqO_ok h1, (bb h).1⟩
/-- super().m in the class x, the def of the class y -/
def supB (x y m : Str) : FK := fun K => decide (PySem.W.mroIn K (He.ga K x) (.ref (He.ga K x)) = some true) && (He.eqO (PySem.W.ks_superIn K (He.ga K x) (He.ga K x) m) (some (some (.ref (He.ma K (He.ga K y) m)))) && (decide (PySem.W.typeIn K (.ref (He.ma K (He.ga K y) m)) = some (.type "function")) &&
  (PySem.W.fnIn K (He.ma K (He.ga K y) m) && (He.eqO (PySem.W.nsIn K cStatics "thirdparty.any") (some none) && (PySem.W.clsIn K (He.ga K x)).isSome))))
theorem supB_ok {K : PySem.W.Frag} {x y m : Str} (h : supB x y m K = true) : SupC K (He.ga K x) (He.ga K x) m (He.ma K (He.ga K y) m) := by
  obtain ⟨h1, h⟩ := bb h
  obtain ⟨h2, h⟩ := bb h
  obtain ⟨h3, h⟩ := bb h
  obtain ⟨h4, h⟩ := bb h
  obtain ⟨h5, h6⟩ := bb h
  exact ⟨of_decide_eq_true h1, He.eqO_ok h2, of_decide_eq_true h3, h4, He.eqO_ok h5, h6⟩
/-! ### the hook -/
abbrev AlU : Type := He.AlD × (List FnV × Bool)
def obU (F : Str) (fa : List He.Fa) (fn : List He5.DefA) (fu : List DefU) (ex : List FK) (K : PySem.W.Frag) : AlU := (He5.obsA fa fn K, (fu.map fun d => fnV K (d.at_ K), (ex.all fun f => f K) && fu.all fun d => d.ok F K))
def vaU (fn : List He5.DefA) (fu : List DefU) : AlU := (He5.valA fn, (fu.map DefU.val, true))
def obUG (F : Str) (fa : List He.Fa) (fn : List He5.DefA) (fu : List DefU) (ex : List FK) (g : Addr → Option Obj) : AlU := obU F fa fn fu ex (He.frG g (reachK g))
def hookU (F : Str) (fa : List He.Fa) (fn : List He5.DefA) (fu : List DefU) (ex : List FK) : PySem.W.Hook where
  α := AlU
  obs := fun z => obUG F fa fn fu ex z.heap.get?
  val := fun _ => vaU fn fu
  says := fun _ hp => ∃ K : PySem.W.Frag, K.In hp ∧ obU F fa fn fu ex K = vaU fn fu
  of := fun _ _ z => ⟨_, He.frG_in, z⟩
  keeps := fun _ _ _ ⟨K, hK, c⟩ k => ⟨K, PySem.W.Frag.In.keeps hK k, c⟩
theorem obUG_eq {F : Str} {fa : List He.Fa} {fn : List He5.DefA} {fu : List DefU} {ex : List FK} {g : Addr → Option Obj} {s : Shared} (h : ∀ a, g a = s.heap.get? a) : obUG F fa fn fu ex g = (hookU F fa fn fu ex).obs s := by
  have z : g = s.heap.get? := funext h
  rw [z] <;> rfl
section
variable {F : Str} {fa : List He.Fa} {fn : List He5.DefA} {fu : List DefU} {ex : List FK} {K : PySem.W.Frag}
theorem obU_a (c : obU F fa fn fu ex K = vaU fn fu) : He5.SaysA fa fn K := congrArg (fun z : AlU => z.1) c
theorem obU_b (c : obU F fa fn fu ex K = vaU fn fu) : ((ex.all fun f => f K) && fu.all fun d => d.ok F K) = true := congrArg (fun z : AlU => z.2.2) c
theorem obU_x (c : obU F fa fn fu ex K = vaU fn fu) (i : Nat) {f : FK} (h : ex[i]? = some f := by rfl) : f K = true :=
  List.all_eq_true.mp (bb (obU_b c)).1 f (List.mem_of_getElem? h)
theorem obU_u (c : obU F fa fn fu ex K = vaU fn fu) {P : Program} (hF : (P.main.file : Str) = F) (htop : (P.main.scope.names.lookup ("super" : Str)).isSome = false) (i : Nat) {d : DefU} (h : fu[i]? = some d) (hpar : ∃ ar : Arg, (d.params.posonlyargs ++ d.params.args).head? = some ar ∧ ar.arg = ("self" : Str)) :
    ∃ fd, FunU P K d.name d.qual d.params d.body d.scope (d.dvs K) (d.at_ K) fd (d.cls K) (cdAt K (d.at_ K)) (ccAt K (d.at_ K)) := by
  have e : fu.map (fun d => fnV K (d.at_ K)) = fu.map DefU.val := congrArg (fun z : AlU => z.2.1) c
  have e2 : (fu.map fun d => fnV K (d.at_ K))[i]? = (fu.map DefU.val)[i]? := by rw [e]
  rw [List.getElem?_map, List.getElem?_map, h] at e2
  exact DefU.funU hF htop hpar (Option.some.inj e2) (List.all_eq_true.mp (bb (obU_b c)).2 d (List.mem_of_getElem? h))
end
end PR
end

section
set_option maxHeartbeats 4000000
namespace PR
open PySem L2 PySem.Spec PyProof.Rows PySem.EX
local macro_rules | `(tactic| walk_at "st") => `(tactic| first | exact setAt_z | exact setAt_s (by walk_at "st"))
local macro_rules | `(tactic| walk_at "rd1") => `(tactic| first
  | with_reducible refine Rd.seq ?_
  | with_reducible refine Rd.nxE ?_
  | with_reducible refine Rd.rtE ?_
  | with_reducible refine Rd.ctE ?_
  | with_reducible refine Rd.bkE ?_
  | with_reducible refine Rd.asg ?_
  | ((with_reducible refine' Rd.gname ?hs ?_); (case hs => walk_at "st"))
  | with_reducible refine Rd.ifS ?_
  | with_reducible refine Rd.ret ?_
  | with_reducible refine Rd.retN ?_
  | with_reducible refine Rd.drop ?_
  | with_reducible refine Rd.next ?_
  | ((with_reducible refine' Rd.var ?hv ?_); (case hv => exact rfl))
  | with_reducible refine Rd.c ?_
  | with_reducible refine Rd.op ?_
  | with_reducible refine Rd.un ?_
  | with_reducible refine Rd.neg ?_
  | with_reducible refine Rd.i0 ?_
  | with_reducible refine Rd.test ?_
  | with_reducible refine Rd.chain ?_
  | with_reducible refine Rd.tB ?_
  | with_reducible refine Rd.bl ?_
  | with_reducible refine Rd.not ?_
  | with_reducible refine Rd.and ?_
  | with_reducible refine Rd.or ?_
  | with_reducible refine Rd.andV ?_
  | with_reducible refine Rd.orV ?_
  | with_reducible refine Rd.notV ?_
  | with_reducible refine Rd.nilA ?_
  | with_reducible refine Rd.consA ?_
  | with_reducible refine Rd.cb ?_
  | with_reducible refine Rd.int1 ?_
  | with_reducible refine Rd.abs1 ?_
  | with_reducible refine Rd.gsub ?_
  | with_reducible refine Rd.tpar ?_
  | ((with_reducible refine' Rd.par ?hs ?ht ?_); (case hs => walk_at "st"); (case ht => walk_at "st"))
  | with_reducible refine Rd.ttup ?_
  | with_reducible refine Rd.tlst ?_
  | with_reducible refine Rd.isN ?_
  | with_reducible refine Rd.call ?_
  | with_reducible refine Rd.sl ?_
  | with_reducible refine Rd.noPart ?_
  | with_reducible refine Rd.part ?_
  | with_reducible refine Rd.ex_int ?_
  | with_reducible refine Rd.bm ?_
  | with_reducible refine Rd.tfld ?_
  | with_reducible refine Rd.tfor ?_
  | with_reducible refine Rd.tlc ?_
  | with_reducible refine Rd.mk1 ?_
  | with_reducible refine Rd.tdc ?_
  | with_reducible refine Rd.sfld ?_
  | with_reducible refine Rd.methP ?_
  | with_reducible refine Rd.xf ?_

  | with_reducible refine Rd.itemP ?_
  | with_reducible refine Rd.ost ?_
  | with_reducible refine Rd.enumT ?_
  | ((with_reducible refine' Rd.enumTAt ?h1 ?_); (case h1 => walk_at "lk"))
  | with_reducible refine Rd.meth ?_
  | with_reducible refine Rd.make ?_
  | with_reducible refine Rd.prop ?_
  | with_reducible refine Rd.item ?_
  | with_reducible refine Rd.sprop ?_
  | with_reducible refine Rd.star ?_
  | ((with_reducible refine' Rd.starL ?h1 ?_); (case h1 => walk_at "lk"))
  | with_reducible refine Rd.tdget ?_
  | ((with_reducible refine' Rd.fld ?h1 ?h2 ?h3 ?h4 ?_); (case h1 => walk_at "lk"); (case h2 => walk_at "cl"); (case h3 => walk_at "na"); (case h4 => walk_at "fl"))
  | ((with_reducible refine' Rd.ty ?h1 ?_); (case h1 => walk_at "lk"))
  | with_reducible refine Rd.tyes ?_
  | with_reducible refine Rd.noN ?_
  | with_reducible refine Rd.noNr ?_
  | with_reducible refine Rd.yesN ?_
  | with_reducible refine Rd.yesI ?_
  | with_reducible refine Rd.yesR ?_
  | with_reducible refine Rd.noNN ?_
  | with_reducible refine Rd.yes rfl ?_
  | with_reducible refine Rd.no Bool.false_ne_true ?_
  | ((with_reducible refine' Rd.wp ?h1 ?_); (case h1 => exact rfl))
  | ((with_reducible refine' Rd.isi ?h1 ?h2 ?_); (case h1 => walk_at "lk"); (case h2 => first | exact kit_int (dp_nodict (by assumption)) | exact kit_bool (dp_nodict (by assumption))))
  | with_reducible refine Rd.enum ?_
  | ((with_reducible refine' Rd.enumAt ?h1 ?_); (case h1 => walk_at "lk"))
  | with_reducible refine Rd.rng1 ?_
  | with_reducible refine Rd.rng2 ?_
  | with_reducible refine Rd.ilist ?_
  | with_reducible refine Rd.itup ?_
  | ((with_reducible refine' Rd.ilistAt ?h1 ?_); (case h1 => walk_at "lk"))
  | ((with_reducible refine' Rd.itupAt ?h1 ?_); (case h1 => walk_at "lk"))
  | ((with_reducible refine' Rd.slL ?h1 (fun q H1 nq sq hq => ?_)); (case h1 => walk_at "lk"))
  | with_reducible refine Rd.gcons ?_
  | with_reducible refine Rd.gnil ?_
  | ((with_reducible refine' Rd.gtup ?h1 ?h2 ?_); (case h1 => walk_at "lk"); (case h2 => exact rfl))
  | ((with_reducible refine' Rd.lenL ?h1 ?_); (case h1 => walk_at "lk"))
  | ((with_reducible refine' Rd.lenT ?h1 ?_); (case h1 => walk_at "lk"))
  | ((with_reducible refine' Rd.ixA ?h1 ?h2 ?_); (case h1 => walk_at "lk"); (case h2 => exact rfl))
  | ((with_reducible refine' Rd.ixB ?h1 ?h2 ?_); (case h1 => walk_at "lk"); (case h2 => exact rfl))
  | ((with_reducible refine' Rd.ixL ?h1 ?h2 ?_); (case h1 => walk_at "lk"); (case h2 => exact rfl))
  | ((with_reducible refine' Rd.newAt ?h1 (fun p H1 np sp hp => ?_)); (case h1 => exact sz_small (Nat.le_of_ble_eq_true rfl)))
  | ((with_reducible refine' Rd.ic ?h1 ?_); (case h1 => walk_at "sd"))
  | ((with_reducible refine' Rd.setL ?h1 ?h2 ?h3 ?_); (case h1 => walk_at "lk"); (case h2 => exact rfl); (case h3 => walk_at "st")))
local macro_rules | `(tactic| walk_at "rd") => `(tactic| repeat walk_at "rd1")
local macro_rules | `(tactic| walk_at "lk") => `(tactic| first
  | assumption
  | exact upd_same
  | exact SqL.of upd_same
  | exact SqT.of upd_same
  | exact SqL.of (by assumption)
  | exact SqT.of (by assumption)
  | ((with_reducible refine' same_get ?lks ?lkh); (case lks => assumption); (case lkh => walk_at "lk"))
  | ((with_reducible refine' Same.seq ?lks ?lkh); (case lks => assumption); (case lkh => walk_at "lk"))
  | ((with_reducible refine' sqT_mono ?lks ?lkh); (case lks => assumption); (case lkh => walk_at "lk"))
  | ((with_reducible refine' dp_mono ?lks ?lkh); (case lks => assumption); (case lkh => walk_at "lk")))
local macro_rules | `(tactic| walk_at "sd") => `(tactic| first
  | assumption
  | decide
  | omega
  | exact Or.inl ⟨by decide, by decide⟩
  | exact ⟨by decide, by decide, by decide⟩
  | exact Or.inr ⟨by decide, by decide⟩
  | exact wide_div (by decide) (by decide : _ < 2 ^ 200) (by decide) (by decide)
  | exact wide_div (by assumption) (by assumption : _ < 2 ^ 200) (by decide) (by decide))

local macro_rules | `(tactic| walk_at "cl") => `(tactic| first | exact ct_k (by assumption) | exact cl_Tree (by assumption) | exact cl_Spot (by assumption) | exact cl_Edit (by assumption))
local macro_rules | `(tactic| walk_at "na") => `(tactic| first | exact ct_rows (by assumption) | exact ct_left (by assumption) | exact na_rows (by assumption) | exact na_left (by assumption) | exact na_tree (by assumption) | exact na_key (by assumption) | exact na_etree (by assumption) | exact na_saved (by assumption))
local macro_rules | `(tactic| walk_at "fl") => `(tactic| first | exact lk_head | exact lk_second (by decide +kernel))
local macro_rules | `(tactic| walk_at "wi") => `(tactic| first | (simp only [wipe, List.map_cons, List.map_nil, List.set_cons_succ, List.set_cons_zero]; done) | (simp only [wipe, List.map_cons, List.map_nil, List.set_cons_succ, List.set_cons_zero]; exact rfl))

def top (i : Nat) : Stmt := PySem.Challenge.pw_parentrows_k81_several_moves_all_or_none.main.body.getD i (.Pass ⟨0, 0, 0, 0⟩)
abbrev s_is_key : Stmt := top 14
abbrev s_has_key : Stmt := top 29
abbrev s_place_of : Stmt := top 30
abbrev s_end_of : Stmt := top 31
abbrev s_landing : Stmt := top 33
abbrev s_path_up : Stmt := top 34
theorem sc_is_key : FnScope ["thing"] ["thing"] (defScope s_is_key) := ⟨rfl, rfl, rfl, by decide +kernel, rfl, by decide +kernel, by decide +kernel⟩
theorem sc_has_key : FnScope ["rows", "key", "row"] ["rows", "key"] (defScope s_has_key) := ⟨rfl, rfl, rfl, by decide +kernel, rfl, by decide +kernel, by decide +kernel⟩
theorem sc_place_of : FnScope ["rows", "key", "row"] ["rows", "key"] (defScope s_place_of) := ⟨rfl, rfl, rfl, by decide +kernel, rfl, by decide +kernel, by decide +kernel⟩
theorem sc_end_of : FnScope ["rows", "place", "inside"] ["rows", "place"] (defScope s_end_of) := ⟨rfl, rfl, rfl, by decide +kernel, rfl, by decide +kernel, by decide +kernel⟩
theorem sc_landing : FnScope ["rows", "parent"] ["rows", "parent"] (defScope s_landing) := ⟨rfl, rfl, rfl, by decide +kernel, rfl, by decide +kernel, by decide +kernel⟩
theorem sc_path_up : FnScope ["rows", "key", "above", "own", "parent", "path"] ["rows", "key"] (defScope s_path_up) := ⟨rfl, rfl, rfl, by decide +kernel, rfl, by decide +kernel, by decide +kernel⟩
abbrev s_Edit___init__ : Stmt := inClass (top 36) 0
theorem sc_Edit___init__ : FnScope ["self", "tree"] ["self", "tree"] (defScope s_Edit___init__) := ⟨rfl, rfl, rfl, by decide +kernel, rfl, by decide +kernel, by decide +kernel⟩
abbrev s_Edit___enter__ : Stmt := inClass (top 36) 1
theorem sc_Edit___enter__ : FnScope ["self"] ["self"] (defScope s_Edit___enter__) := ⟨rfl, rfl, rfl, by decide +kernel, rfl, by decide +kernel, by decide +kernel⟩
abbrev s_Edit___exit__ : Stmt := inClass (top 36) 2
theorem sc_Edit___exit__ : FnScope ["self", "kind", "value", "trace"] ["self", "kind", "value", "trace"] (defScope s_Edit___exit__) := ⟨rfl, rfl, rfl, by decide +kernel, rfl, by decide +kernel, by decide +kernel⟩
abbrev s_Tree___init__ : Stmt := inClass (top 37) 0
theorem sc_Tree___init__ : FnScope ["self"] ["self"] (defScope s_Tree___init__) := ⟨rfl, rfl, rfl, by decide +kernel, rfl, by decide +kernel, by decide +kernel⟩
abbrev s_Tree_put : Stmt := inClass (top 37) 10
theorem sc_Tree_put : FnScope ["self", "key", "parent", "at"] ["self", "key", "parent"] (defScope s_Tree_put) := ⟨rfl, rfl, rfl, by decide +kernel, rfl, by decide +kernel, by decide +kernel⟩
abbrev s_Tree_move : Stmt := inClass (top 37) 11
theorem sc_Tree_move : FnScope ["self", "key", "parent", "start", "path", "end", "block", "others", "at"] ["self", "key", "parent"] (defScope s_Tree_move) := ⟨rfl, rfl, rfl, by decide +kernel, rfl, by decide +kernel, by decide +kernel⟩
abbrev s_Tree_move_all : Stmt := inClass (top 37) 13
theorem sc_Tree_move_all : FnScope ["self", "moves", "place", "key", "parent", "ring", "missing"] ["self", "moves"] (defScope s_Tree_move_all) := ⟨rfl, rfl, rfl, by decide +kernel, rfl, by decide +kernel, by decide +kernel⟩
abbrev s_Tree_edit : Stmt := inClass (top 37) 14
theorem sc_Tree_edit : FnScope ["self"] ["self"] (defScope s_Tree_edit) := ⟨rfl, rfl, rfl, by decide +kernel, rfl, by decide +kernel, by decide +kernel⟩
abbrev s_Tree___len__ : Stmt := inClass (top 37) 2
theorem sc_Tree___len__ : FnScope ["self"] ["self"] (defScope s_Tree___len__) := ⟨rfl, rfl, rfl, by decide +kernel, rfl, by decide +kernel, by decide +kernel⟩
abbrev s_Tree___iter__ : Stmt := inClass (top 37) 3
theorem sc_Tree___iter__ : FnScope ["self"] ["self"] (defScope s_Tree___iter__) := ⟨rfl, rfl, rfl, by decide +kernel, rfl, by decide +kernel, by decide +kernel⟩
abbrev s_LoggedTree___init__ : Stmt := inClass (top 38) 0
abbrev s_LoggedTree_put : Stmt := inClass (top 38) 1
abbrev s_LoggedTree_move : Stmt := inClass (top 38) 2
abbrev s_LoggedTree_move_all : Stmt := inClass (top 38) 4
abbrev s_Undone___init__ : Stmt := inClass (top 11) 0
theorem sc_Undone___init__ : FnScope ["self", "place", "why"] ["self", "place", "why"] (defScope s_Undone___init__) := ⟨rfl, rfl, rfl, by decide +kernel, rfl, by decide +kernel, by decide +kernel⟩
/-- where things stand -/
structure Ad where
  is_key : Addr
  has_key : Addr
  place_of : Addr
  end_of : Addr
  landing : Addr
  path_up : Addr
  d_is_key : FuncData
  d_has_key : FuncData
  d_place_of : FuncData
  d_end_of : FuncData
  d_landing : FuncData
  d_path_up : FuncData
  c_Edit : Addr
  c_Tree : Addr
  f_E_init : Addr
  d_E_init : FuncData
  f_E_enter : Addr
  d_E_enter : FuncData
  f_E_exit : Addr
  d_E_exit : FuncData
  f_T_init : Addr
  d_T_init : FuncData
  f_T_put : Addr
  d_T_put : FuncData
  f_T_move : Addr
  d_T_move : FuncData
  f_T_all : Addr
  d_T_all : FuncData
  f_T_edit : Addr
  d_T_edit : FuncData
  c_Log : Addr
  f_T_len : Addr
  d_T_len : FuncData
  f_T_iter : Addr
  d_T_iter : FuncData
  f_L_init : Addr
  d_L_init : FuncData
  cd_L_init : Addr
  cc_L_init : Addr
  f_L_put : Addr
  d_L_put : FuncData
  cd_L_put : Addr
  cc_L_put : Addr
  f_L_move : Addr
  d_L_move : FuncData
  cd_L_move : Addr
  cc_L_move : Addr
  f_L_all : Addr
  d_L_all : FuncData
  cd_L_all : Addr
  cc_L_all : Addr
  f_U_init : Addr
  d_U_init : FuncData
  c_BadKey : Addr
  i_BadKey : Addr
  c_KeyThere : Addr
  i_KeyThere : Addr
  c_Ring : Addr
  i_Ring : Addr
  c_Undone : Addr
  c_NoKey : Addr
  i_NoKey : Addr
/-- a class of trees: Tree or LoggedTree -/
structure ClsT (K : PySem.W.Frag) (C : Addr) : Prop where
  k : Cls K C
  rows : NoAttr K C "rows"
  left : NoAttr K C "left"
theorem ct_k {K : PySem.W.Frag} {C : Addr} (h : ClsT K C) : Cls K C := h.k
theorem ct_rows {K : PySem.W.Frag} {C : Addr} (h : ClsT K C) : NoAttr K C "rows" := h.rows
theorem ct_left {K : PySem.W.Frag} {C : Addr} (h : ClsT K C) : NoAttr K C "left" := h.left
abbrev leB : List Value := [.type "LookupError", .type "Exception", .type "BaseException", .type "object"]
abbrev veB : List Value := [.type "ValueError", .type "Exception", .type "BaseException", .type "object"]
structure Txt (P : Program) (K : PySem.W.Frag) (mg : Str → Option Value) (A : Ad) : Prop where
  n_len : mg "len" = none
  n_int : mg "int" = none
  n_bool : mg "bool" = none
  n_isinstance : mg "isinstance" = none
  g_BIG : ∃ t, mg "BIG" = some (.int bigK t)
  g_is_key : mg "is_key" = some (.ref A.is_key)
  g_has_key : mg "has_key" = some (.ref A.has_key)
  g_place_of : mg "place_of" = some (.ref A.place_of)
  F_is_key : Fun K "is_key" "is_key" s_is_key A.is_key A.d_is_key
  F_has_key : Fun K "has_key" "has_key" s_has_key A.has_key A.d_has_key
  F_place_of : Fun K "place_of" "place_of" s_place_of A.place_of A.d_place_of
  g_end_of : mg "end_of" = some (.ref A.end_of)
  F_end_of : Fun K "end_of" "end_of" s_end_of A.end_of A.d_end_of
  g_landing : mg "landing" = some (.ref A.landing)
  F_landing : Fun K "landing" "landing" s_landing A.landing A.d_landing
  g_path_up : mg "path_up" = some (.ref A.path_up)
  F_path_up : Fun K "path_up" "path_up" s_path_up A.path_up A.d_path_up
  F_E_init : Fun K "__init__" "Edit.__init__" s_Edit___init__ A.f_E_init A.d_E_init
  F_E_enter : Fun K "__enter__" "Edit.__enter__" s_Edit___enter__ A.f_E_enter A.d_E_enter
  F_E_exit : Fun K "__exit__" "Edit.__exit__" s_Edit___exit__ A.f_E_exit A.d_E_exit
  F_T_init : Fun K "__init__" "Tree.__init__" s_Tree___init__ A.f_T_init A.d_T_init
  F_T_put : FunD K "put" "Tree.put" (defArgs s_Tree_put) (defBody s_Tree_put) (defScope s_Tree_put) [V.non] [] A.f_T_put A.d_T_put
  F_T_move : Fun K "move" "Tree.move" s_Tree_move A.f_T_move A.d_T_move
  F_T_all : Fun K "move_all" "Tree.move_all" s_Tree_move_all A.f_T_all A.d_T_all
  F_T_edit : Fun K "edit" "Tree.edit" s_Tree_edit A.f_T_edit A.d_T_edit
  F_U_init : Fun K "__init__" "Undone.__init__" s_Undone___init__ A.f_U_init A.d_U_init
  F_T_len : Fun K "__len__" "Tree.__len__" s_Tree___len__ A.f_T_len A.d_T_len
  F_T_iter : Fun K "__iter__" "Tree.__iter__" s_Tree___iter__ A.f_T_iter A.d_T_iter
  F_L_init : FunU P K "__init__" "LoggedTree.__init__" (defArgs s_LoggedTree___init__) (defBody s_LoggedTree___init__) (defScope s_LoggedTree___init__) [] A.f_L_init A.d_L_init A.c_Log A.cd_L_init A.cc_L_init
  F_L_put : FunU P K "put" "LoggedTree.put" (defArgs s_LoggedTree_put) (defBody s_LoggedTree_put) (defScope s_LoggedTree_put) [V.non] A.f_L_put A.d_L_put A.c_Log A.cd_L_put A.cc_L_put
  F_L_move : FunU P K "move" "LoggedTree.move" (defArgs s_LoggedTree_move) (defBody s_LoggedTree_move) (defScope s_LoggedTree_move) [] A.f_L_move A.d_L_move A.c_Log A.cd_L_move A.cc_L_move
  F_L_all : FunU P K "move_all" "LoggedTree.move_all" (defArgs s_LoggedTree_move_all) (defBody s_LoggedTree_move_all) (defScope s_LoggedTree_move_all) [] A.f_L_all A.d_L_all A.c_Log A.cd_L_all A.cc_L_all
  n_super : mg "super" = none
  n_iter : mg "iter" = none
  sT_iter : SpM K A.c_Tree "__iter__" A.f_T_iter
  sL_iter : SpM K A.c_Log "__iter__" A.f_T_iter
  sT_len : SpM K A.c_Tree "__len__" A.f_T_len
  sL_len : SpM K A.c_Log "__len__" A.f_T_len
  ct_Tree : ClsT K A.c_Tree
  ct_Log : ClsT K A.c_Log
  a_log : NoAttr K A.c_Log "log"
  m_Tree : Mk K A.c_Tree A.f_T_init
  m_Log : Mk K A.c_Log A.f_L_init
  mT_put : Meth K A.c_Tree "put" A.f_T_put
  mL_put : Meth K A.c_Log "put" A.f_L_put
  mT_move : Meth K A.c_Tree "move" A.f_T_move
  mL_move : Meth K A.c_Log "move" A.f_L_move
  mT_all : Meth K A.c_Tree "move_all" A.f_T_all
  mL_all : Meth K A.c_Log "move_all" A.f_L_all
  mT_edit : Meth K A.c_Tree "edit" A.f_T_edit
  mL_edit : Meth K A.c_Log "edit" A.f_T_edit
  sp_init : SupC K A.c_Log A.c_Log "__init__" A.f_T_init
  sp_put : SupC K A.c_Log A.c_Log "put" A.f_T_put
  sp_move : SupC K A.c_Log A.c_Log "move" A.f_T_move
  sp_all : SupC K A.c_Log A.c_Log "move_all" A.f_T_all
  g_Log : mg "LoggedTree" = some (.ref A.c_Log)
  k_Edit : Cls K A.c_Edit
  g_Edit : mg "Edit" = some (.ref A.c_Edit)
  g_Tree : mg "Tree" = some (.ref A.c_Tree)
  a_etree : NoAttr K A.c_Edit "tree"
  a_saved : NoAttr K A.c_Edit "saved"
  m_Edit : Mk K A.c_Edit A.f_E_init
  w_Edit : WithC K A.c_Edit A.f_E_enter A.f_E_exit
  n_list : mg "list" = none
  n_tuple : mg "tuple" = none
  n_enumerate : mg "enumerate" = none
  X_BadKey : E1 K mg "BadKey" "key" "BadKey.__init__" veB "ValueError.__new__" A.c_BadKey A.i_BadKey
  X_KeyThere : E1 K mg "KeyThere" "key" "KeyThere.__init__" veB "ValueError.__new__" A.c_KeyThere A.i_KeyThere
  X_Ring : E1 K mg "Ring" "path" "Ring.__init__" veB "ValueError.__new__" A.c_Ring A.i_Ring
  g_Undone : mg "Undone" = some (.ref A.c_Undone)
  o_Undone : OexC K A.c_Undone
  u_init : PySem.W.findIn K (.ref A.c_Undone) "__init__" = some (some (.ref A.f_U_init))
  u_fn : PySem.W.typeIn K (.ref A.f_U_init) = some (.type "function")
  u_place : PySem.W.findIn K (.ref A.c_Undone) "place" = some none
  u_why : PySem.W.findIn K (.ref A.c_Undone) "why" = some none
  h_Ring : mg "Ring" = some (.ref A.c_Ring)
  h_NoKey : mg "NoKey" = some (.ref A.c_NoKey)
  x_RR : PySem.W.exmOne K (.ref A.c_Ring) (.ref A.c_Ring) = some true
  x_NR : PySem.W.exmOne K (.ref A.c_NoKey) (.ref A.c_Ring) = some false
  x_UU : PySem.W.exmOne K (.ref A.c_Undone) (.ref A.c_Undone) = some true
  x_NN : PySem.W.exmOne K (.ref A.c_NoKey) (.ref A.c_NoKey) = some true
  X_NoKey : E1 K mg "NoKey" "key" "NoKey.__init__" leB "LookupError.__new__" A.c_NoKey A.i_NoKey
section
variable {P : Program} {K : PySem.W.Frag} {mg : Str → Option Value} {A : Ad}
theorem cl_Edit (T : Txt P K mg A) : Cls K A.c_Edit := T.k_Edit
theorem na_etree (T : Txt P K mg A) : NoAttr K A.c_Edit "tree" := T.a_etree
theorem na_saved (T : Txt P K mg A) : NoAttr K A.c_Edit "saved" := T.a_saved
theorem lk_head {f : Str} {v : V} {r : List (Str × V)} : List.lookup f ((f, v) :: r) = some v := by rw [List.lookup_cons, beq_self_eq_true]
theorem lk_tail {f g : Str} {v : V} {r : List (Str × V)} (h : ¬ (g = f)) : List.lookup f ((g, v) :: r) = List.lookup f r := by
  rw [List.lookup_cons, show (f == g) = false from beq_eq_false_iff_ne.mpr (fun e => h e.symm)]
theorem lk_second {f g : Str} {v w : V} {r : List (Str × V)} (h : ¬ (g = f)) : List.lookup f ((g, v) :: (f, w) :: r) = some w := (lk_tail h).trans lk_head
end
end PR
end

section
set_option maxHeartbeats 4000000
namespace PR
open PySem L2 PySem.Spec PyProof.Rows
local macro_rules | `(tactic| walk_at "st") => `(tactic| first | exact setAt_z | exact setAt_s (by walk_at "st"))
local macro_rules | `(tactic| walk_at "rd1") => `(tactic| first
  | with_reducible refine Rd.seq ?_
  | with_reducible refine Rd.nxE ?_
  | with_reducible refine Rd.rtE ?_
  | with_reducible refine Rd.ctE ?_
  | with_reducible refine Rd.bkE ?_
  | with_reducible refine Rd.asg ?_
  | ((with_reducible refine' Rd.gname ?hs ?_); (case hs => walk_at "st"))
  | with_reducible refine Rd.ifS ?_
  | with_reducible refine Rd.ret ?_
  | with_reducible refine Rd.retN ?_
  | with_reducible refine Rd.drop ?_
  | with_reducible refine Rd.next ?_
  | ((with_reducible refine' Rd.var ?hv ?_); (case hv => exact rfl))
  | with_reducible refine Rd.c ?_
  | with_reducible refine Rd.op ?_
  | with_reducible refine Rd.un ?_
  | with_reducible refine Rd.neg ?_
  | with_reducible refine Rd.i0 ?_
  | with_reducible refine Rd.test ?_
  | with_reducible refine Rd.chain ?_
  | with_reducible refine Rd.tB ?_
  | with_reducible refine Rd.bl ?_
  | with_reducible refine Rd.not ?_
  | with_reducible refine Rd.and ?_
  | with_reducible refine Rd.or ?_
  | with_reducible refine Rd.andV ?_
  | with_reducible refine Rd.orV ?_
  | with_reducible refine Rd.notV ?_
  | with_reducible refine Rd.nilA ?_
  | with_reducible refine Rd.consA ?_
  | with_reducible refine Rd.cb ?_
  | with_reducible refine Rd.int1 ?_
  | with_reducible refine Rd.abs1 ?_
  | with_reducible refine Rd.gsub ?_
  | with_reducible refine Rd.tpar ?_
  | ((with_reducible refine' Rd.par ?hs ?ht ?_); (case hs => walk_at "st"); (case ht => walk_at "st"))
  | with_reducible refine Rd.ttup ?_
  | with_reducible refine Rd.tlst ?_
  | with_reducible refine Rd.isN ?_
  | with_reducible refine Rd.call ?_
  | with_reducible refine Rd.sl ?_
  | with_reducible refine Rd.noPart ?_
  | with_reducible refine Rd.part ?_
  | with_reducible refine Rd.ex_int ?_
  | with_reducible refine Rd.bm ?_
  | with_reducible refine Rd.tfld ?_
  | with_reducible refine Rd.tfor ?_
  | with_reducible refine Rd.tlc ?_
  | with_reducible refine Rd.mk1 ?_
  | with_reducible refine Rd.tdc ?_
  | with_reducible refine Rd.sfld ?_
  | with_reducible refine Rd.methP ?_
  | with_reducible refine Rd.xf ?_

  | with_reducible refine Rd.itemP ?_
  | with_reducible refine Rd.ost ?_
  | with_reducible refine Rd.enumT ?_
  | ((with_reducible refine' Rd.enumTAt ?h1 ?_); (case h1 => walk_at "lk"))
  | with_reducible refine Rd.meth ?_
  | with_reducible refine Rd.make ?_
  | with_reducible refine Rd.prop ?_
  | with_reducible refine Rd.item ?_
  | with_reducible refine Rd.sprop ?_
  | with_reducible refine Rd.star ?_
  | ((with_reducible refine' Rd.starL ?h1 ?_); (case h1 => walk_at "lk"))
  | with_reducible refine Rd.tdget ?_
  | ((with_reducible refine' Rd.fld ?h1 ?h2 ?h3 ?h4 ?_); (case h1 => walk_at "lk"); (case h2 => walk_at "cl"); (case h3 => walk_at "na"); (case h4 => walk_at "fl"))
  | ((with_reducible refine' Rd.ty ?h1 ?_); (case h1 => walk_at "lk"))
  | with_reducible refine Rd.tyes ?_
  | with_reducible refine Rd.noN ?_
  | with_reducible refine Rd.noNr ?_
  | with_reducible refine Rd.yesN ?_
  | with_reducible refine Rd.yesI ?_
  | with_reducible refine Rd.yesR ?_
  | with_reducible refine Rd.noNN ?_
  | with_reducible refine Rd.yes rfl ?_
  | with_reducible refine Rd.no Bool.false_ne_true ?_
  | ((with_reducible refine' Rd.wp ?h1 ?_); (case h1 => exact rfl))
  | ((with_reducible refine' Rd.isi ?h1 ?h2 ?_); (case h1 => walk_at "lk"); (case h2 => first | exact kit_int (dp_nodict (by assumption)) | exact kit_bool (dp_nodict (by assumption))))
  | with_reducible refine Rd.enum ?_
  | ((with_reducible refine' Rd.enumAt ?h1 ?_); (case h1 => walk_at "lk"))
  | with_reducible refine Rd.rng1 ?_
  | with_reducible refine Rd.rng2 ?_
  | with_reducible refine Rd.ilist ?_
  | with_reducible refine Rd.itup ?_
  | ((with_reducible refine' Rd.ilistAt ?h1 ?_); (case h1 => walk_at "lk"))
  | ((with_reducible refine' Rd.itupAt ?h1 ?_); (case h1 => walk_at "lk"))
  | ((with_reducible refine' Rd.slL ?h1 (fun q H1 nq sq hq => ?_)); (case h1 => walk_at "lk"))
  | with_reducible refine Rd.gcons ?_
  | with_reducible refine Rd.gnil ?_
  | ((with_reducible refine' Rd.gtup ?h1 ?h2 ?_); (case h1 => walk_at "lk"); (case h2 => exact rfl))
  | ((with_reducible refine' Rd.lenL ?h1 ?_); (case h1 => walk_at "lk"))
  | ((with_reducible refine' Rd.lenT ?h1 ?_); (case h1 => walk_at "lk"))
  | ((with_reducible refine' Rd.ixA ?h1 ?h2 ?_); (case h1 => walk_at "lk"); (case h2 => exact rfl))
  | ((with_reducible refine' Rd.ixB ?h1 ?h2 ?_); (case h1 => walk_at "lk"); (case h2 => exact rfl))
  | ((with_reducible refine' Rd.ixL ?h1 ?h2 ?_); (case h1 => walk_at "lk"); (case h2 => exact rfl))
  | ((with_reducible refine' Rd.newAt ?h1 (fun p H1 np sp hp => ?_)); (case h1 => exact sz_small (Nat.le_of_ble_eq_true rfl)))
  | ((with_reducible refine' Rd.ic ?h1 ?_); (case h1 => walk_at "sd"))
  | ((with_reducible refine' Rd.setL ?h1 ?h2 ?h3 ?_); (case h1 => walk_at "lk"); (case h2 => exact rfl); (case h3 => walk_at "st")))
local macro_rules | `(tactic| walk_at "rd") => `(tactic| repeat walk_at "rd1")
local macro_rules | `(tactic| walk_at "lk") => `(tactic| first
  | assumption
  | exact upd_same
  | exact SqL.of upd_same
  | exact SqT.of upd_same
  | exact SqL.of (by assumption)
  | exact SqT.of (by assumption)
  | ((with_reducible refine' same_get ?lks ?lkh); (case lks => assumption); (case lkh => walk_at "lk"))
  | ((with_reducible refine' Same.seq ?lks ?lkh); (case lks => assumption); (case lkh => walk_at "lk"))
  | ((with_reducible refine' sqT_mono ?lks ?lkh); (case lks => assumption); (case lkh => walk_at "lk"))
  | ((with_reducible refine' dp_mono ?lks ?lkh); (case lks => assumption); (case lkh => walk_at "lk")))
local macro_rules | `(tactic| walk_at "sd") => `(tactic| first
  | assumption
  | decide
  | omega
  | exact Or.inl ⟨by decide, by decide⟩
  | exact ⟨by decide, by decide, by decide⟩
  | exact Or.inr ⟨by decide, by decide⟩
  | exact wide_div (by decide) (by decide : _ < 2 ^ 200) (by decide) (by decide)
  | exact wide_div (by assumption) (by assumption : _ < 2 ^ 200) (by decide) (by decide))

local macro_rules | `(tactic| walk_at "cl") => `(tactic| first | exact ct_k (by assumption) | exact cl_Tree (by assumption) | exact cl_Spot (by assumption) | exact cl_Edit (by assumption))
local macro_rules | `(tactic| walk_at "na") => `(tactic| first | exact ct_rows (by assumption) | exact ct_left (by assumption) | exact na_rows (by assumption) | exact na_left (by assumption) | exact na_tree (by assumption) | exact na_key (by assumption) | exact na_etree (by assumption) | exact na_saved (by assumption))
local macro_rules | `(tactic| walk_at "fl") => `(tactic| first | exact lk_head | exact lk_second (by decide +kernel))
local macro_rules | `(tactic| walk_at "wi") => `(tactic| first | (simp only [wipe, List.map_cons, List.map_nil, List.set_cons_succ, List.set_cons_zero]; done) | (simp only [wipe, List.map_cons, List.map_nil, List.set_cons_succ, List.set_cons_zero]; exact rfl))

abbrev s__law_bag : Stmt := top 40
abbrev s__law_take : Stmt := top 41
theorem sc__law_bag : FnScope ["_law_script", "_law_at", "_law_cell", "_law_mixed", "_law_k", "_law_each"] ["_law_script", "_law_at"] (defScope s__law_bag) := ⟨rfl, rfl, rfl, by decide +kernel, rfl, by decide +kernel, by decide +kernel⟩
theorem sc__law_take : FnScope ["_law_bag_here", "_law_many", "_law_digit"] ["_law_bag_here", "_law_many"] (defScope s__law_take) := ⟨rfl, rfl, rfl, by decide +kernel, rfl, by decide +kernel, by decide +kernel⟩
/-- the built-in names that the text leaves alone -/
structure TxtB (K : PySem.W.Frag) (mg : Str → Option Value) : Prop where
  n_len : mg "len" = none
  n_int : mg "int" = none
  n_abs : mg "abs" = none
  n_enumerate : mg "enumerate" = none
section
variable {P : Program} {w : World} {K : PySem.W.Frag} {mg : Str → Option Value} {base : Heap} {f : Addr} {fd : FuncData}
theorem ok_take (T : TxtB K mg) (F : Fun K "_law_take" "_law_take" s__law_take f fd) : FnOk P w K mg base (L2.CX P w) 1 f fd ["_law_bag_here", "_law_many"] spTake := by
  refine F.okX sc__law_take (fun vs H Q E h => ?_) (fun cdv A outer s H vs Q E hr h => ?_)
  · obtain ⟨p, k, rfl, _⟩ := h
    rfl
  · obtain ⟨p, k, rfl, ⟨c, m, hc, hm, hm2, hp⟩, hk, hk2, q⟩ := h
    refine ⟨_, (pss_cons (ps_if (pt_cmpR op_gt (pe_ix (Kx.ix_seq (K := K) rfl) (pv 0) pe_int (fun _ _ => rfl)) pe_int (nomark _)) (pss_cons (ps_set (i := 2) sc__law_take.nd rfl (by first | exact Or.inl rfl | exact Or.inr rfl) (pe_op op_mod (pe_callTy call_int1 (by rfl) T.n_int boot_int (pa_cons (pe_ix (Kx.ix_seq (K := K) rfl) (pv 0) pe_int (fun _ _ => rfl)) pa_nil)) (pv 1)))
    (pss_cons (ps_asg (pe_op op_fdivW (pe_ix (Kx.ix_seq (K := K) rfl) (pv 0) pe_int (fun _ _ => rfl)) (pv 1)) (pg_sub (pv 0) pe_int set_list))
    (pss_one (ps_ret (pv 2))))) pss_nil)
    (pss_cons (ps_asg (pe_op op_mod (pe_callTy call_int1 (by rfl) T.n_int boot_int (pa_cons (pe_op op_mul (pe_ix (Kx.ix_seq (K := K) rfl) (pv 0) pe_int (fun _ _ => rfl)) pe_int) pa_nil)) pe_int) (pg_sub (pv 0) pe_int set_list))
    (pss_one (ps_ret (pe_op op_mod (pe_callTy call_int1 (by rfl) T.n_int boot_int (pa_cons (pe_op op_fdivW (pe_ix (Kx.ix_seq (K := K) rfl) (pv 0) pe_int (fun _ _ => rfl)) pe_int) pa_nil)) (pv 1)))))), ?_⟩
    try dsimp only [cxOf]
    rw [show L2.start ["_law_bag_here", "_law_many", "_law_digit"] [V.ref p, V.int k] = [some (V.ref p), some (V.int k), none] from rfl]
    have hL : SqL K H p [.int c, .int m] := SqL.of hp
    walk_at "rd"
    refine ite2 (fun hc0 => ?_) (fun hc0 => ?_)
    · walk_at "rd"
      have hc1 : 0 < c := of_decide_eq_true hc0
      exact q _ _ _ (Int.emod_nonneg _ (by omega)) (Int.emod_lt_of_pos _ hk) (Int.ediv_nonneg hc (by omega)) hm hm2
    · walk_at "rd"
      exact q _ _ _ (Int.emod_nonneg _ (by omega)) (Int.emod_lt_of_pos _ hk) hc (Int.emod_nonneg _ (by omega)) (by have := Int.emod_lt_of_pos (m * 630360016) (show (0 : Int) < 2147483647 by decide); omega)
theorem ok_bag (T : TxtB K mg) (F : Fun K "_law_bag" "_law_bag" s__law_bag f fd) : FnOk P w K mg base (L2.CX P w) 1 f fd ["_law_script", "_law_at"] (spBag K) := by
  refine F.okX sc__law_bag (fun vs H Q E h => ?_) (fun cdv A outer s H vs Q E hr h => ?_)
  · obtain ⟨a, ns, z, rfl, _⟩ := h
    rfl
  · obtain ⟨a, ns, z, rfl, hS, hz, hn, q0⟩ := h
    refine ⟨_, (pss_cons (ps_par (i := 2) (j := 3) rfl sc__law_bag.nd rfl rfl (by decide) rfl rfl (pa_cons (pe_ifExp (pt_cmpR op_lt (pv 1) (pe_callB (Kx.call_len (K := K) rfl) (by rfl) T.n_len PySem.boot_len (pa_cons (pv 0) pa_nil)) (nomark _)) (pe_callTy call_int1 (by rfl) T.n_int boot_int (pa_cons (pe_ix (Kx.ix_seq (K := K) rfl) (pv 0) (pv 1) (fun _ _ => rfl)) pa_nil)) pe_int) (pa_cons pe_int pa_nil)) (by rfl))
    (pss_cons (ps_for (passes_of rfl) rfl (pi_enum (by rfl) T.n_enumerate (pa_cons (pe_slice (Kx.sl_list (K := K) rfl) (pv 0) po_none (po_some pe_int)) pa_nil)) (Kx.pg_tup (K := K) (n := 2) rfl rfl (pgs_cons (pg_name (i := 4) sc__law_bag.nd rfl (by first | exact Or.inl rfl | exact Or.inr rfl)) (pgs_cons (pg_name (i := 5) sc__law_bag.nd rfl (by first | exact Or.inl rfl | exact Or.inr rfl)) pgs_nil))) (pss_one (ps_set (i := 3) sc__law_bag.nd rfl (by first | exact Or.inl rfl | exact Or.inr rfl) (pe_op op_mod (pe_callTy call_int1 (by rfl) T.n_int boot_int (pa_cons (pe_op op_add (pe_op op_add (pe_op op_add (pe_op op_add (pe_op op_mul (pv 3) pe_int) (pe_op op_mod (pe_callTy call_int1 (by rfl) T.n_int boot_int (pa_cons (pv 5) pa_nil)) pe_int)) (pe_op op_mul pe_int (pv 4))) pe_int) (pv 1)) pa_nil)) pe_int))))
    (pss_one (ps_ret (pe_lst (pa_cons (pe_ifExp (pt_cmpR op_ge (pe_callB call_abs (by rfl) T.n_abs (by decide +kernel) (pa_cons (pv 2) pa_nil)) (pe_op op_pow pe_int pe_int) (nomark _)) (pe_callB call_abs (by rfl) T.n_abs (by decide +kernel) (pa_cons (pv 2) pa_nil)) pe_int) (pa_cons (pv 3) pa_nil))))))), ?_⟩
    try dsimp only [cxOf]
    rw [show L2.start ["_law_script", "_law_at", "_law_cell", "_law_mixed", "_law_k", "_law_each"] [V.ref a, V.int z] = [some (V.ref a), some (V.int z), none, none, none, none] from rfl]
    walk_at "rd"
    refine Rd.cutE (P := fun v => ∃ c, v = .int c) (fun Q' k => ?_) ?_
    · refine Rd.ifE ?_
      walk_at "rd"
      refine ite2 (fun hc0 => ?_) (fun hc0 => ?_)
      · have hz' : z < ns.length := by
          have := of_decide_eq_true hc0
          rw [List.length_map] at this
          omega
        walk_at "rd"
        refine Rd.ixA hS (at_of (j := z) rfl (by rw [List.getElem?_map, List.getElem?_eq_getElem hz']; rfl)) ?_
        walk_at "rd"
        exact k _ ⟨_, rfl⟩
      · walk_at "rd"
        exact k _ ⟨_, rfl⟩
    · rintro _ ⟨c, rfl⟩
      walk_at "rd"
      rename_i q H1 nq sq hq
      refine for_it (walk_enum (xs := cutV (ns.map V.int) none (some 63))) (fun _ σ H2 => ∃ (m : Int) (u1 u2 : Option V), 0 ≤ m ∧ m < 2147483648 ∧ σ = [some (V.ref a), some (V.int z), some (V.int c), some (V.int m), u1, u2] ∧ Same H H2 ∧ SqL K H2 q (cutV (ns.map V.int) none (some 63)))
        ?_ (fun _ _ _ _ p => ?_) ?_ ?_
      · exact ⟨0, none, none, by decide, by decide, rfl, sq, SqL.of hq⟩
      · obtain ⟨_, _, _, _, _, _, _, h⟩ := p
        exact h
      · rintro i x σ H2 H3 hi ⟨m, u1, u2, hm, hm2, rfl, s2, hq2⟩ ⟨T, x1, y1, rfl, nT, rfl, e1, e2⟩
        cases e1
        have hy : ∃ n, y1 = .int n := by
          have h1 := List.mem_of_getElem? e2
          unfold cutV at h1
          have h2 := List.mem_of_mem_drop (List.mem_of_mem_take h1)
          obtain ⟨n, _, e⟩ := List.mem_map.mp h2
          exact ⟨n, e.symm⟩
        obtain ⟨y, rfl⟩ := hy
        walk_at "rd"
        refine ⟨_, _, _, Int.emod_nonneg _ (by decide), ?_, rfl, ?_, ?_⟩
        · refine Int.lt_trans (Int.emod_lt_of_pos _ (by decide)) (by decide)
        · exact s2.trans (same_upd nT)
        · exact (same_upd nT).seq hq2
      · rintro σ H2 ⟨m, u1, u2, hm, hm2, rfl, s2, hq2⟩
        walk_at "rd"
        refine Rd.cutE (P := fun v => ∃ c, 0 ≤ c ∧ v = .int c) (fun Q' k => ?_) ?_
        · refine Rd.ifE ?_
          walk_at "rd"
          refine ite2 (fun hc0 => ?_) (fun hc0 => ?_)
          · walk_at "rd"
            exact k _ ⟨_, by split <;> omega, rfl⟩
          · walk_at "rd"
            exact k _ ⟨_, by decide, rfl⟩
        · rintro _ ⟨c', hc', rfl⟩
          walk_at "rd"
          rename_i p H3 np sp hp
          exact q0 _ _ (s2.free np) (s2.trans sp) ⟨c', m, hc', hm, hm2, hp⟩
end
end PR
end

section
set_option maxHeartbeats 4000000
namespace PR
open PySem L2 PySem.Spec PyProof.Rows PySem.EX
local macro_rules | `(tactic| walk_at "st") => `(tactic| first | exact setAt_z | exact setAt_s (by walk_at "st"))
local macro_rules | `(tactic| walk_at "rd1") => `(tactic| first
  | with_reducible refine Rd.seq ?_
  | with_reducible refine Rd.nxE ?_
  | with_reducible refine Rd.rtE ?_
  | with_reducible refine Rd.ctE ?_
  | with_reducible refine Rd.bkE ?_
  | with_reducible refine Rd.asg ?_
  | ((with_reducible refine' Rd.gname ?hs ?_); (case hs => walk_at "st"))
  | with_reducible refine Rd.ifS ?_
  | with_reducible refine Rd.ret ?_
  | with_reducible refine Rd.retN ?_
  | with_reducible refine Rd.drop ?_
  | with_reducible refine Rd.next ?_
  | ((with_reducible refine' Rd.var ?hv ?_); (case hv => exact rfl))
  | with_reducible refine Rd.c ?_
  | with_reducible refine Rd.op ?_
  | with_reducible refine Rd.un ?_
  | with_reducible refine Rd.neg ?_
  | with_reducible refine Rd.i0 ?_
  | with_reducible refine Rd.test ?_
  | with_reducible refine Rd.chain ?_
  | with_reducible refine Rd.tB ?_
  | with_reducible refine Rd.bl ?_
  | with_reducible refine Rd.not ?_
  | with_reducible refine Rd.and ?_
  | with_reducible refine Rd.or ?_
  | with_reducible refine Rd.andV ?_
  | with_reducible refine Rd.orV ?_
  | with_reducible refine Rd.notV ?_
  | with_reducible refine Rd.nilA ?_
  | with_reducible refine Rd.consA ?_
  | with_reducible refine Rd.cb ?_
  | with_reducible refine Rd.int1 ?_
  | with_reducible refine Rd.abs1 ?_
  | with_reducible refine Rd.gsub ?_
  | with_reducible refine Rd.tpar ?_
  | ((with_reducible refine' Rd.par ?hs ?ht ?_); (case hs => walk_at "st"); (case ht => walk_at "st"))
  | with_reducible refine Rd.ttup ?_
  | with_reducible refine Rd.tlst ?_
  | with_reducible refine Rd.isN ?_
  | with_reducible refine Rd.call ?_
  | with_reducible refine Rd.sl ?_
  | with_reducible refine Rd.noPart ?_
  | with_reducible refine Rd.part ?_
  | with_reducible refine Rd.ex_int ?_
  | with_reducible refine Rd.bm ?_
  | with_reducible refine Rd.tfld ?_
  | with_reducible refine Rd.tfor ?_
  | with_reducible refine Rd.tlc ?_
  | with_reducible refine Rd.mk1 ?_
  | with_reducible refine Rd.tdc ?_
  | with_reducible refine Rd.sfld ?_
  | with_reducible refine Rd.methP ?_
  | with_reducible refine Rd.xf ?_

  | with_reducible refine Rd.itemP ?_
  | with_reducible refine Rd.ost ?_
  | with_reducible refine Rd.enumT ?_
  | ((with_reducible refine' Rd.enumTAt ?h1 ?_); (case h1 => walk_at "lk"))
  | with_reducible refine Rd.meth ?_
  | with_reducible refine Rd.make ?_
  | with_reducible refine Rd.prop ?_
  | with_reducible refine Rd.item ?_
  | with_reducible refine Rd.sprop ?_
  | with_reducible refine Rd.star ?_
  | ((with_reducible refine' Rd.starL ?h1 ?_); (case h1 => walk_at "lk"))
  | with_reducible refine Rd.tdget ?_
  | ((with_reducible refine' Rd.fld ?h1 ?h2 ?h3 ?h4 ?_); (case h1 => walk_at "lk"); (case h2 => walk_at "cl"); (case h3 => walk_at "na"); (case h4 => walk_at "fl"))
  | ((with_reducible refine' Rd.ty ?h1 ?_); (case h1 => walk_at "lk"))
  | with_reducible refine Rd.tyes ?_
  | with_reducible refine Rd.noN ?_
  | with_reducible refine Rd.noNr ?_
  | with_reducible refine Rd.yesN ?_
  | with_reducible refine Rd.yesI ?_
  | with_reducible refine Rd.yesR ?_
  | with_reducible refine Rd.noNN ?_
  | with_reducible refine Rd.yes rfl ?_
  | with_reducible refine Rd.no Bool.false_ne_true ?_
  | ((with_reducible refine' Rd.wp ?h1 ?_); (case h1 => exact rfl))
  | ((with_reducible refine' Rd.isi ?h1 ?h2 ?_); (case h1 => walk_at "lk"); (case h2 => first | exact kit_int (dp_nodict (by assumption)) | exact kit_bool (dp_nodict (by assumption))))
  | with_reducible refine Rd.enum ?_
  | ((with_reducible refine' Rd.enumAt ?h1 ?_); (case h1 => walk_at "lk"))
  | with_reducible refine Rd.rng1 ?_
  | with_reducible refine Rd.rng2 ?_
  | with_reducible refine Rd.ilist ?_
  | with_reducible refine Rd.itup ?_
  | ((with_reducible refine' Rd.ilistAt ?h1 ?_); (case h1 => walk_at "lk"))
  | ((with_reducible refine' Rd.itupAt ?h1 ?_); (case h1 => walk_at "lk"))
  | ((with_reducible refine' Rd.slL ?h1 (fun q H1 nq sq hq => ?_)); (case h1 => walk_at "lk"))
  | with_reducible refine Rd.gcons ?_
  | with_reducible refine Rd.gnil ?_
  | ((with_reducible refine' Rd.gtup ?h1 ?h2 ?_); (case h1 => walk_at "lk"); (case h2 => exact rfl))
  | ((with_reducible refine' Rd.lenL ?h1 ?_); (case h1 => walk_at "lk"))
  | ((with_reducible refine' Rd.lenT ?h1 ?_); (case h1 => walk_at "lk"))
  | ((with_reducible refine' Rd.ixA ?h1 ?h2 ?_); (case h1 => walk_at "lk"); (case h2 => exact rfl))
  | ((with_reducible refine' Rd.ixB ?h1 ?h2 ?_); (case h1 => walk_at "lk"); (case h2 => exact rfl))
  | ((with_reducible refine' Rd.ixL ?h1 ?h2 ?_); (case h1 => walk_at "lk"); (case h2 => exact rfl))
  | ((with_reducible refine' Rd.newAt ?h1 (fun p H1 np sp hp => ?_)); (case h1 => exact sz_small (Nat.le_of_ble_eq_true rfl)))
  | ((with_reducible refine' Rd.ic ?h1 ?_); (case h1 => walk_at "sd"))
  | ((with_reducible refine' Rd.setL ?h1 ?h2 ?h3 ?_); (case h1 => walk_at "lk"); (case h2 => exact rfl); (case h3 => walk_at "st")))
local macro_rules | `(tactic| walk_at "rd") => `(tactic| repeat walk_at "rd1")
local macro_rules | `(tactic| walk_at "lk") => `(tactic| first
  | assumption
  | exact upd_same
  | exact SqL.of upd_same
  | exact SqT.of upd_same
  | exact SqL.of (by assumption)
  | exact SqT.of (by assumption)
  | ((with_reducible refine' same_get ?lks ?lkh); (case lks => assumption); (case lkh => walk_at "lk"))
  | ((with_reducible refine' Same.seq ?lks ?lkh); (case lks => assumption); (case lkh => walk_at "lk"))
  | ((with_reducible refine' sqT_mono ?lks ?lkh); (case lks => assumption); (case lkh => walk_at "lk"))
  | ((with_reducible refine' dp_mono ?lks ?lkh); (case lks => assumption); (case lkh => walk_at "lk")))
local macro_rules | `(tactic| walk_at "sd") => `(tactic| first
  | assumption
  | decide
  | omega
  | exact Or.inl ⟨by decide, by decide⟩
  | exact ⟨by decide, by decide, by decide⟩
  | exact Or.inr ⟨by decide, by decide⟩
  | exact wide_div (by decide) (by decide : _ < 2 ^ 200) (by decide) (by decide)
  | exact wide_div (by assumption) (by assumption : _ < 2 ^ 200) (by decide) (by decide))

local macro_rules | `(tactic| walk_at "cl") => `(tactic| first | exact ct_k (by assumption) | exact cl_Tree (by assumption) | exact cl_Spot (by assumption) | exact cl_Edit (by assumption))
local macro_rules | `(tactic| walk_at "na") => `(tactic| first | exact ct_rows (by assumption) | exact ct_left (by assumption) | exact na_rows (by assumption) | exact na_left (by assumption) | exact na_tree (by assumption) | exact na_key (by assumption) | exact na_etree (by assumption) | exact na_saved (by assumption))
local macro_rules | `(tactic| walk_at "fl") => `(tactic| first | exact lk_head | exact lk_second (by decide +kernel))
local macro_rules | `(tactic| walk_at "wi") => `(tactic| first | (simp only [wipe, List.map_cons, List.map_nil, List.set_cons_succ, List.set_cons_zero]; done) | (simp only [wipe, List.map_cons, List.map_nil, List.set_cons_succ, List.set_cons_zero]; exact rfl))

section
variable {P : Program} {w : World} {K : PySem.W.Frag} {mg : Str → Option Value} {base : Heap} {A : Ad}
theorem passD {N : List Str} {qual : Str} {scope : Scope} {f : Addr} {cd : Value} {Ar : Around} {outer : List Env} {s : Shared} {H : Hp} {E : XK} : Passes (L2N.CX P w) (cxOf (L2N.CX P w) P w K mg base N qual scope f cd Ar outer s H E) E := passN
theorem hu65 {Ar : Around} {k : Nat} (hr : Room k Ar) : Ar.units + 65 < cLine := by have := hr.un; omega
def spIsKey (K : PySem.W.Frag) : Sp := fun vs H Q _ => ∃ v d, vs = [v] ∧ Dp K H v d ∧ Q (.bl (keyD d)) H
theorem ok_is_key (T : Txt P K mg A) : FnOk P w K mg base (L2N.CX P w) 1 A.is_key A.d_is_key ["thing"] (spIsKey K) := by
  refine T.F_is_key.okN sc_is_key (fun vs H Q E h => ?_) (fun cdv Ar outer s H vs Q E hr h => ?_)
  · obtain ⟨v, d, rfl, _⟩ := h
    rfl
  · obtain ⟨v, d, rfl, hd, q⟩ := h
    obtain ⟨tB, g_BIG⟩ := T.g_BIG
    refine ⟨_, (pss_one (ps_ret (pe_and (pe_callB (Kx.call_isi (K := K) rfl) (by rfl) T.n_isinstance (by decide +kernel) (pa_cons (pv 0) (pa_cons (pe_bltn (v := .ty "int") (by rfl) T.n_int (by decide +kernel) rfl) pa_nil))) (pe_and (pe_not (pe_callB (Kx.call_isi (K := K) rfl) (by rfl) T.n_isinstance (by decide +kernel) (pa_cons (pv 0) (pa_cons (pe_bltn (v := .ty "bool") (by rfl) T.n_bool (by decide +kernel) rfl) pa_nil)))) (pe_one (pe_chain op_lt op_lt (pe_un un_neg (pe_glob (v := .int bigK) (by rfl) g_BIG ⟨_, rfl⟩)) (pv 0) (pe_glob (v := .int bigK) (by rfl) g_BIG ⟨_, rfl⟩))))))), ?_⟩
    try dsimp only [cxOf]
    rw [show L2.start ["thing"] [v] = [some (v)] from rfl]
    walk_at "rd"
    have fin : isIntD d = false → keyD d = false := fun z => by cases d <;> first | rfl | cases z
    refine ite2 (fun h1 => ?_) (fun h1 => ?_)
    · walk_at "rd"
      cases d with
      | int i =>
        have ev := dp_int hd
        subst ev
        refine Rd.yes rfl ?_
        walk_at "rd"
        refine ite2 (fun h2 => ?_) (fun h2 => ?_)
        · walk_at "rd"
          have e : keyD (.int i) = decide (i < bigK) := by
            show (decide (-bigK < i) && decide (i < bigK)) = _
            rw [h2, Bool.true_and]
          rw [← e]
          exact q
        · have e : keyD (.int i) = false := by
            show (decide (-bigK < i) && decide (i < bigK)) = _
            rw [Bool.eq_false_iff.mpr h2, Bool.false_and]
          rw [e] at q
          exact q
      | bool b =>
        refine Rd.no (fun z => by cases z) ?_
        exact q
      | _ => cases h1
    · rw [fin (Bool.eq_false_iff.mpr h1)] at q
      exact q
def spHasKey (K : PySem.W.Frag) : Sp := fun vs H Q _ => ∃ a v rows d, vs = [.ref a, v] ∧ RowsAt K H a rows ∧ Dp K H v d ∧ rows.length ≤ 100000 ∧ ∀ H', Same H H' → Q (.bl (hasK rows d)) H'
theorem ok_has_key (T : Txt P K mg A) : FnOk P w K mg base (L2N.CX P w) 2 A.has_key A.d_has_key ["rows", "key"] (spHasKey K) := by
  have G_is_key := ok_is_key (P := P) (w := w) (base := base) T
  have b_is_key := T.F_is_key.binds (ps := ["thing"]) fun _ _ _ _ _ _ us hl => match us, hl with | [_], _ => rfl
  refine T.F_has_key.okN sc_has_key (fun vs H Q E h => ?_) (fun cdv Ar outer s H vs Q E hr h => ?_)
  · obtain ⟨a, v, rows, d, rfl, _⟩ := h
    rfl
  · obtain ⟨a, v, rows, d, rfl, hR, hd, hl, q⟩ := h
    have hu1 := hu65 hr
    refine ⟨_, (pss_one (ps_ret (pe_and (pe_call G_is_key (hr.mono (by decide)) rfl T.g_is_key T.F_is_key.kp b_is_key .nil passD (pa_cons (pv 1) pa_nil)) (pe_one (pe_cmpR (Kx.op_inD (K := K) rfl hu1) (pv 1) (pe_lc (own := [("row", 2)]) (g := gName 2) (tt := tYes) rfl sc_has_key.nd (Kx.pi_list (K := K) rfl (pv 0)) (blkOk_by (N := ["rows", "key", "row"]) (sc := defScope s_has_key) (by decide +kernel)) (fun _ _ _ _ _ => (pg_name (i := 2) sc_has_key.nd rfl (by first | exact Or.inl rfl | exact Or.inr rfl))) (fun _ _ _ _ _ => pts_nil) (fun _ _ _ _ _ => (pe_ix (Kx.ix_seq (K := K) rfl) (pv 2) pe_int (fun _ _ => rfl)))) (by with_unfolding_all rfl)))))), ?_⟩
    try dsimp only [cxOf]
    rw [show L2.start ["rows", "key", "row"] [V.ref a, v] = [some (V.ref a), some (v), none] from rfl]
    walk_at "rd"
    refine ⟨v, d, rfl, hd, ?_⟩
    walk_at "rd"
    have nk : keyD d = false → hasK rows d = false := fun z => by
      cases d with
      | int k =>
        show ((decide (-bigK < k) && decide (k < bigK)) && _) = false
        rw [show (decide (-bigK < k) && decide (k < bigK)) = false from z, Bool.false_and]
      | _ => rfl
    refine ite2 (fun h1 => ?_) (fun h1 => ?_)
    · obtain ⟨xs, hS, hX⟩ := hR
      have hlen : xs.length = rows.length := by rw [dpAll_len hX, List.length_map]
      walk_at "rd"
      intro D hD
      refine lcV walk_list (fun i => rows[i]?.map fun r => V.int r.1) hD (by rw [hlen]; exact Nat.lt_of_le_of_lt hl (by decide)) (fun H2 s2 => s2.seq hS) ?_ ?_
      · rintro i x H1 H2 hi s1 ⟨rfl, ex⟩
        refine ⟨Same.refl _, fun yes no hy hn => ?_⟩
        have hi' : i < rows.length := by omega
        obtain ⟨b, eb, hb⟩ := rows_at hX (List.getElem?_eq_getElem hi')
        rw [ex] at eb
        cases eb
        have hb1 := sqT_mono s1 hb
        walk_at "rd"
        exact hy _ _ (by rw [List.getElem?_eq_getElem hi']; rfl) (Same.refl _)
      · intro H' s2 hD2
        rw [hlen, filterMap_range rows (fun r => V.int r.1), vals_keys] at hD2
        have hDp : Dp K H' (.ref D) (.list ((keysOf rows).map PyData.int)) := .lst (SqL.of hD2) (dpAll_ints _)
        cases d with
        | int k =>
          have e : hasK rows (.int k) = decide (k ∈ keysOf rows) := by
            show ((decide (-bigK < k) && decide (k < bigK)) && _) = _
            rw [show (decide (-bigK < k) && decide (k < bigK)) = true from h1, Bool.true_and]
          refine Rd.inD (dp_mono s2 hd) hDp (shaped_int _) (shaped_ints _) ?_
          rw [any_ints, ← e]
          exact q _ s2
        | _ => cases h1
    · rw [← nk (Bool.eq_false_iff.mpr h1)]
      exact q _ (Same.refl _)
/-- an error of the class at C flies, its field f holds v -/
def ErrIs (C : Addr) (f : Str) (v : V) (H : Hp) (E : XK) : Prop := ∀ H' d, Same H H' → H' d = some (.xd [(f, v)]) → E (.ref C) (some d) H'
def spPlaceOf (K : PySem.W.Frag) (A : Ad) : Sp := fun vs H Q E => ∃ a v rows d, vs = [.ref a, v] ∧ RowsAt K H a rows ∧ Dp K H v d ∧ rows.length ≤ 100000 ∧
  (∀ k H', d = .int k → hasK rows d = true → Same H H' → Q (.int (idxK rows k : Nat)) H') ∧ (hasK rows d = false → ErrIs A.c_NoKey "key" v H E)
theorem hasK_int {rows : List Row} {d : PyData} (h : hasK rows d = true) : ∃ k, d = .int k ∧ k ∈ keysOf rows ∧ keyD d = true := by
  cases d with
  | int k =>
    obtain ⟨h1, h2⟩ := Bool.and_eq_true_iff.mp (show ((decide (-bigK < k) && decide (k < bigK)) && decide (k ∈ keysOf rows)) = true from h)
    exact ⟨k, rfl, of_decide_eq_true h2, h1⟩
  | _ => cases h
theorem ok_place_of (T : Txt P K mg A) : FnOk P w K mg base (L2N.CX P w) 3 A.place_of A.d_place_of ["rows", "key"] (spPlaceOf K A) := by
  have G_has_key := ok_has_key (P := P) (w := w) (base := base) T
  have b_has_key := T.F_has_key.binds (ps := ["rows", "key"]) fun _ _ _ _ _ _ us hl => match us, hl with | [_, _], _ => rfl
  refine T.F_place_of.okN sc_place_of (fun vs H Q E h => ?_) (fun cdv Ar outer s H vs Q E hr h => ?_)
  · obtain ⟨a, v, rows, d, rfl, _⟩ := h
    rfl
  · obtain ⟨a, v, rows, d, rfl, hR, hd, hl, q, qe⟩ := h
    have hu1 := hu65 hr
    refine ⟨_, (pss_cons (ps_if (pt_not (pt_val (pe_call G_has_key (hr.mono (by decide)) rfl T.g_has_key T.F_has_key.kp b_has_key .nil passD (pa_cons (pv 0) (pa_cons (pv 1) pa_nil))))) (pss_one (ps_raise1 rfl T.X_NoKey PySem.F.excBase_LookupError PySem.F.store_LookupError hr (L2N.takes_of rfl rfl rfl rfl) (pa_cons (pv 1) pa_nil))) pss_nil)
    (pss_one (ps_ret (pe_bm PySem.F.plainAttrs_list PySem.F.slot_list_index PySem.F.type_list_index (Kx.mt_indexD (K := K) rfl hu1) (pe_lc (own := [("row", 2)]) (g := gName 2) (tt := tYes) rfl sc_place_of.nd (Kx.pi_list (K := K) rfl (pv 0)) (blkOk_by (N := ["rows", "key", "row"]) (sc := defScope s_place_of) (by decide +kernel)) (fun _ _ _ _ _ => (pg_name (i := 2) sc_place_of.nd rfl (by first | exact Or.inl rfl | exact Or.inr rfl))) (fun _ _ _ _ _ => pts_nil) (fun _ _ _ _ _ => (pe_ix (Kx.ix_seq (K := K) rfl) (pv 2) pe_int (fun _ _ => rfl)))) (pa_cons (pv 1) pa_nil))))), ?_⟩
    try dsimp only [cxOf]
    rw [show L2.start ["rows", "key", "row"] [V.ref a, v] = [some (V.ref a), some (v), none] from rfl]
    walk_at "rd"
    refine ⟨a, v, rows, d, rfl, hR, hd, hl, fun H1 s1 => ?_⟩
    walk_at "rd"
    refine ite2 (fun h1 => ?_) (fun h1 => ?_)
    · have h2 : hasK rows d = false := by
        cases e : hasK rows d with
        | false => rfl
        | true => rw [e] at h1; cases h1
      walk_at "rd"
      refine Rd.errA fun D H2 nD sD hD => ?_
      exact qe h2 _ _ (s1.trans sD) hD
    · have h2 : hasK rows d = true := by
        cases e : hasK rows d with
        | false => rw [e] at h1; exact absurd rfl h1
        | true => rfl
      obtain ⟨k, rfl, hk, _⟩ := hasK_int h2
      have ev := dp_int hd
      subst ev
      obtain ⟨xs, hS, hX⟩ := rows_mono s1 hR
      have hlen : xs.length = rows.length := by rw [dpAll_len hX, List.length_map]
      walk_at "rd"
      intro D hD
      refine lcV walk_list (fun i => rows[i]?.map fun r => V.int r.1) hD (by rw [hlen]; exact Nat.lt_of_le_of_lt hl (by decide)) (fun H2 s2 => s2.seq hS) ?_ ?_
      · rintro i x H1 H2 hi s1 ⟨rfl, ex⟩
        refine ⟨Same.refl _, fun yes no hy hn => ?_⟩
        have hi' : i < rows.length := by omega
        obtain ⟨b, eb, hb⟩ := rows_at hX (List.getElem?_eq_getElem hi')
        rw [ex] at eb
        cases eb
        have hb1 := sqT_mono s1 hb
        walk_at "rd"
        exact hy _ _ (by rw [List.getElem?_eq_getElem hi']; rfl) (Same.refl _)
      · intro H' s2 hD2
        rw [hlen, filterMap_range rows (fun r => V.int r.1), vals_keys] at hD2
        walk_at "rd"
        refine Rd.indexI (SqL.of hD2) hk ?_
        exact q k _ rfl h2 (s1.trans s2)
end
end PR
end

section
set_option maxHeartbeats 4000000
namespace PR
open PySem L2 PySem.Spec PyProof.Rows PySem.EX
local macro_rules | `(tactic| walk_at "st") => `(tactic| first | exact setAt_z | exact setAt_s (by walk_at "st"))
local macro_rules | `(tactic| walk_at "rd1") => `(tactic| first
  | with_reducible refine Rd.seq ?_
  | with_reducible refine Rd.nxE ?_
  | with_reducible refine Rd.rtE ?_
  | with_reducible refine Rd.ctE ?_
  | with_reducible refine Rd.bkE ?_
  | with_reducible refine Rd.asg ?_
  | ((with_reducible refine' Rd.gname ?hs ?_); (case hs => walk_at "st"))
  | with_reducible refine Rd.ifS ?_
  | with_reducible refine Rd.ret ?_
  | with_reducible refine Rd.retN ?_
  | with_reducible refine Rd.drop ?_
  | with_reducible refine Rd.next ?_
  | ((with_reducible refine' Rd.var ?hv ?_); (case hv => exact rfl))
  | with_reducible refine Rd.c ?_
  | with_reducible refine Rd.op ?_
  | with_reducible refine Rd.un ?_
  | with_reducible refine Rd.neg ?_
  | with_reducible refine Rd.i0 ?_
  | with_reducible refine Rd.test ?_
  | with_reducible refine Rd.chain ?_
  | with_reducible refine Rd.tB ?_
  | with_reducible refine Rd.bl ?_
  | with_reducible refine Rd.not ?_
  | with_reducible refine Rd.and ?_
  | with_reducible refine Rd.or ?_
  | with_reducible refine Rd.andV ?_
  | with_reducible refine Rd.orV ?_
  | with_reducible refine Rd.notV ?_
  | with_reducible refine Rd.nilA ?_
  | with_reducible refine Rd.consA ?_
  | with_reducible refine Rd.cb ?_
  | with_reducible refine Rd.int1 ?_
  | with_reducible refine Rd.abs1 ?_
  | with_reducible refine Rd.gsub ?_
  | with_reducible refine Rd.tpar ?_
  | ((with_reducible refine' Rd.par ?hs ?ht ?_); (case hs => walk_at "st"); (case ht => walk_at "st"))
  | with_reducible refine Rd.ttup ?_
  | with_reducible refine Rd.tlst ?_
  | with_reducible refine Rd.isN ?_
  | with_reducible refine Rd.call ?_
  | with_reducible refine Rd.sl ?_
  | with_reducible refine Rd.noPart ?_
  | with_reducible refine Rd.part ?_
  | with_reducible refine Rd.ex_int ?_
  | with_reducible refine Rd.bm ?_
  | with_reducible refine Rd.tfld ?_
  | with_reducible refine Rd.tfor ?_
  | with_reducible refine Rd.tlc ?_
  | with_reducible refine Rd.mk1 ?_
  | with_reducible refine Rd.tdc ?_
  | with_reducible refine Rd.sfld ?_
  | with_reducible refine Rd.methP ?_
  | with_reducible refine Rd.xf ?_

  | with_reducible refine Rd.itemP ?_
  | with_reducible refine Rd.ost ?_
  | with_reducible refine Rd.enumT ?_
  | ((with_reducible refine' Rd.enumTAt ?h1 ?_); (case h1 => walk_at "lk"))
  | with_reducible refine Rd.meth ?_
  | with_reducible refine Rd.make ?_
  | with_reducible refine Rd.prop ?_
  | with_reducible refine Rd.item ?_
  | with_reducible refine Rd.sprop ?_
  | with_reducible refine Rd.star ?_
  | ((with_reducible refine' Rd.starL ?h1 ?_); (case h1 => walk_at "lk"))
  | with_reducible refine Rd.tdget ?_
  | ((with_reducible refine' Rd.fld ?h1 ?h2 ?h3 ?h4 ?_); (case h1 => walk_at "lk"); (case h2 => walk_at "cl"); (case h3 => walk_at "na"); (case h4 => walk_at "fl"))
  | ((with_reducible refine' Rd.ty ?h1 ?_); (case h1 => walk_at "lk"))
  | with_reducible refine Rd.tyes ?_
  | with_reducible refine Rd.noN ?_
  | with_reducible refine Rd.noNr ?_
  | with_reducible refine Rd.yesN ?_
  | with_reducible refine Rd.yesI ?_
  | with_reducible refine Rd.yesR ?_
  | with_reducible refine Rd.noNN ?_
  | with_reducible refine Rd.yes rfl ?_
  | with_reducible refine Rd.no Bool.false_ne_true ?_
  | ((with_reducible refine' Rd.wp ?h1 ?_); (case h1 => exact rfl))
  | ((with_reducible refine' Rd.isi ?h1 ?h2 ?_); (case h1 => walk_at "lk"); (case h2 => first | exact kit_int (dp_nodict (by assumption)) | exact kit_bool (dp_nodict (by assumption))))
  | with_reducible refine Rd.enum ?_
  | ((with_reducible refine' Rd.enumAt ?h1 ?_); (case h1 => walk_at "lk"))
  | with_reducible refine Rd.rng1 ?_
  | with_reducible refine Rd.rng2 ?_
  | with_reducible refine Rd.ilist ?_
  | with_reducible refine Rd.itup ?_
  | ((with_reducible refine' Rd.ilistAt ?h1 ?_); (case h1 => walk_at "lk"))
  | ((with_reducible refine' Rd.itupAt ?h1 ?_); (case h1 => walk_at "lk"))
  | ((with_reducible refine' Rd.slL ?h1 (fun q H1 nq sq hq => ?_)); (case h1 => walk_at "lk"))
  | with_reducible refine Rd.gcons ?_
  | with_reducible refine Rd.gnil ?_
  | ((with_reducible refine' Rd.gtup ?h1 ?h2 ?_); (case h1 => walk_at "lk"); (case h2 => exact rfl))
  | ((with_reducible refine' Rd.lenL ?h1 ?_); (case h1 => walk_at "lk"))
  | ((with_reducible refine' Rd.lenT ?h1 ?_); (case h1 => walk_at "lk"))
  | ((with_reducible refine' Rd.ixA ?h1 ?h2 ?_); (case h1 => walk_at "lk"); (case h2 => exact rfl))
  | ((with_reducible refine' Rd.ixB ?h1 ?h2 ?_); (case h1 => walk_at "lk"); (case h2 => exact rfl))
  | ((with_reducible refine' Rd.ixL ?h1 ?h2 ?_); (case h1 => walk_at "lk"); (case h2 => exact rfl))
  | ((with_reducible refine' Rd.newAt ?h1 (fun p H1 np sp hp => ?_)); (case h1 => exact sz_small (Nat.le_of_ble_eq_true rfl)))
  | ((with_reducible refine' Rd.ic ?h1 ?_); (case h1 => walk_at "sd"))
  | ((with_reducible refine' Rd.setL ?h1 ?h2 ?h3 ?_); (case h1 => walk_at "lk"); (case h2 => exact rfl); (case h3 => walk_at "st")))
local macro_rules | `(tactic| walk_at "rd") => `(tactic| repeat walk_at "rd1")
local macro_rules | `(tactic| walk_at "lk") => `(tactic| first
  | assumption
  | exact upd_same
  | exact SqL.of upd_same
  | exact SqT.of upd_same
  | exact SqL.of (by assumption)
  | exact SqT.of (by assumption)
  | ((with_reducible refine' same_get ?lks ?lkh); (case lks => assumption); (case lkh => walk_at "lk"))
  | ((with_reducible refine' Same.seq ?lks ?lkh); (case lks => assumption); (case lkh => walk_at "lk"))
  | ((with_reducible refine' sqT_mono ?lks ?lkh); (case lks => assumption); (case lkh => walk_at "lk"))
  | ((with_reducible refine' dp_mono ?lks ?lkh); (case lks => assumption); (case lkh => walk_at "lk")))
local macro_rules | `(tactic| walk_at "sd") => `(tactic| first
  | assumption
  | decide
  | omega
  | exact Or.inl ⟨by decide, by decide⟩
  | exact ⟨by decide, by decide, by decide⟩
  | exact Or.inr ⟨by decide, by decide⟩
  | exact wide_div (by decide) (by decide : _ < 2 ^ 200) (by decide) (by decide)
  | exact wide_div (by assumption) (by assumption : _ < 2 ^ 200) (by decide) (by decide))

local macro_rules | `(tactic| walk_at "cl") => `(tactic| first | exact ct_k (by assumption) | exact cl_Tree (by assumption) | exact cl_Spot (by assumption) | exact cl_Edit (by assumption))
local macro_rules | `(tactic| walk_at "na") => `(tactic| first | exact ct_rows (by assumption) | exact ct_left (by assumption) | exact na_rows (by assumption) | exact na_left (by assumption) | exact na_tree (by assumption) | exact na_key (by assumption) | exact na_etree (by assumption) | exact na_saved (by assumption))
local macro_rules | `(tactic| walk_at "fl") => `(tactic| first | exact lk_head | exact lk_second (by decide +kernel))
local macro_rules | `(tactic| walk_at "wi") => `(tactic| first | (simp only [wipe, List.map_cons, List.map_nil, List.set_cons_succ, List.set_cons_zero]; done) | (simp only [wipe, List.map_cons, List.map_nil, List.set_cons_succ, List.set_cons_zero]; exact rfl))

section
variable {P : Program} {w : World} {K : PySem.W.Frag} {mg : Str → Option Value} {base : Heap} {A : Ad}
def spEndOf (K : PySem.W.Frag) : Sp := fun vs H Q _ => ∃ a rows, ∃ p : Nat, vs = [.ref a, .int p] ∧ RowsAt K H a rows ∧ p < rows.length ∧ rows.length ≤ 100000 ∧ ∀ H', Same H H' → Q (.int (endF rows p : Nat)) H'
theorem any_opt (ks : List Int) (o : Option Int) : ((ks.map PyData.int).any fun z => PyData.eqv z (optD o)) = (match o with | none => false | some q => decide (q ∈ ks)) := by
  cases o with
  | none => exact any_ints_none ks
  | some q => exact any_ints ks q
theorem shaped_opt (o : Option Int) : SeqAt.shaped (optD o) = true := by
  cases o with
  | none => exact shaped_none
  | some q => exact shaped_int q
theorem spanL_cons (r : Row) (rest : List Row) (ins : List Int) : spanL (r :: rest) ins = if (match r.2 with | none => false | some q => decide (q ∈ ins)) = true then 1 + spanL rest (ins ++ [r.1]) else 0 := by
  obtain ⟨k, o⟩ := r
  cases o with
  | none => rfl
  | some q =>
    show (if q ∈ ins then _ else _) = if decide (q ∈ ins) = true then _ else _
    by_cases h : q ∈ ins
    · rw [if_pos h, if_pos (decide_eq_true h)]
    · rw [if_neg h, if_neg (by rw [decide_eq_false h]; exact Bool.false_ne_true)]
theorem ok_end_of (T : Txt P K mg A) : FnOk P w K mg base (L2N.CX P w) 1 A.end_of A.d_end_of ["rows", "place"] (spEndOf K) := by
  refine T.F_end_of.okN sc_end_of (fun vs H Q E h => ?_) (fun cdv Ar outer s H vs Q E hr h => ?_)
  · obtain ⟨a, rows, p, rfl, _⟩ := h
    rfl
  · obtain ⟨a, rows, p, rfl, hR, hp, hl, q⟩ := h
    have hu1 := hu65 hr
    refine ⟨_, (pss_cons (ps_set (i := 2) sc_end_of.nd rfl (by first | exact Or.inl rfl | exact Or.inr rfl) (pe_lst (pa_cons (pe_ix (Kx.ix_seq (K := K) rfl) (pe_ix (Kx.ix_seq (K := K) rfl) (pv 0) (pv 1) (fun _ _ => rfl)) pe_int (fun _ _ => rfl)) pa_nil)))
    (pss_cons (ps_while (passes_of rfl) (PW.pt (pw_and (pt_cmpR op_lt (pe_op op_add (pv 1) (pe_callB (Kx.call_len (K := K) rfl) (by rfl) T.n_len PySem.boot_len (pa_cons (pv 2) pa_nil))) (pe_callB (Kx.call_len (K := K) rfl) (by rfl) T.n_len PySem.boot_len (pa_cons (pv 0) pa_nil)) (nomark _)) (pw_and1 (pt_cmpR (Kx.op_inD (K := K) rfl hu1) (pe_ix (Kx.ix_seq (K := K) rfl) (pe_ix (Kx.ix_seq (K := K) rfl) (pv 0) (pe_op op_add (pv 1) (pe_callB (Kx.call_len (K := K) rfl) (by rfl) T.n_len PySem.boot_len (pa_cons (pv 2) pa_nil))) (fun _ _ => rfl)) pe_int (fun _ _ => rfl)) (pv 2) (by with_unfolding_all rfl))))) (pss_one (ps_expr (pe_bm PySem.F.plainAttrs_list PySem.F.slot_list_append PySem.F.type_list_append mt_append (pv 2) (pa_cons (pe_ix (Kx.ix_seq (K := K) rfl) (pe_ix (Kx.ix_seq (K := K) rfl) (pv 0) (pe_op op_add (pv 1) (pe_callB (Kx.call_len (K := K) rfl) (by rfl) T.n_len PySem.boot_len (pa_cons (pv 2) pa_nil))) (fun _ _ => rfl)) pe_int (fun _ _ => rfl)) pa_nil)))))
    (pss_one (ps_ret (pe_op op_add (pv 1) (pe_callB (Kx.call_len (K := K) rfl) (by rfl) T.n_len PySem.boot_len (pa_cons (pv 2) pa_nil))))))), ?_⟩
    try dsimp only [cxOf]
    rw [show L2.start ["rows", "place", "inside"] [V.ref a, V.int p] = [some (V.ref a), some (V.int p), none] from rfl]
    obtain ⟨xs, hS, hX⟩ := hR
    have hlen : xs.length = rows.length := by rw [dpAll_len hX, List.length_map]
    obtain ⟨b, eb, hb⟩ := rows_at hX (List.getElem?_eq_getElem hp)
    walk_at "rd"
    refine Rd.ixA hS (at_of rfl eb) ?_
    walk_at "rd"
    rename_i I H1 nI sI hI
    have hk : keyAt rows p = rows[p].1 := by
      unfold keyAt keysOf
      rw [List.getElem?_map, List.getElem?_eq_getElem hp]
      rfl
    refine ⟨fun m σ H2 => ∃ ins : List Int, σ = [some (V.ref a), some (V.int p), some (V.ref I)] ∧ Same H H2 ∧ H2 I = some (.lst (ins.map V.int)) ∧ p + ins.length ≤ rows.length ∧ p + ins.length + spanL (rows.drop (p + ins.length)) ins = endF rows p ∧ m = rows.length - (p + ins.length),
      ⟨_, [rows[p].1], rfl, sI, hI, hp, by unfold endF; rw [hk]; rfl, rfl⟩, ?_⟩
    rintro m σ H2 ⟨ins, rfl, s2, hI2, hle, hend, rfl⟩
    have hS2 := s2.seq hS
    have hX2 := dpAll_mono s2 hX
    walk_at "rd"
    rw [List.length_map, hlen]
    refine ite2 (fun h1 => ?_) (fun h1 => ?_)
    · have hlt : p + ins.length < rows.length := by have := of_decide_eq_true h1; omega
      obtain ⟨b2, eb2, hb2⟩ := rows_at hX2 (List.getElem?_eq_getElem hlt)
      generalize hr2 : rows[p + ins.length] = r2 at hb2
      have hdrop : rows.drop (p + ins.length) = r2 :: rows.drop (p + ins.length + 1) := by rw [List.drop_eq_getElem_cons hlt, hr2]
      rw [hdrop, spanL_cons] at hend
      walk_at "rd"
      refine Rd.ixA hS2 (at_of (j := p + ins.length) (by rw [List.length_map]; omega) eb2) ?_
      walk_at "rd"
      refine Rd.inD (optV_dp r2.2) (.lst (SqL.of hI2) (dpAll_ints _)) (shaped_opt _) (shaped_ints _) ?_
      rw [any_opt]
      walk_at "rd"
      refine ite2 (fun h2 => ?_) (fun h2 => ?_)
      · rw [if_pos h2] at hend
        refine ⟨_, fun σ' H' h => h, ?_⟩
        walk_at "rd"
        refine Rd.ixA hS2 (at_of (j := p + ins.length) (by rw [List.length_map]; omega) eb2) ?_
        walk_at "rd"
        refine Rd.app hI2 (by rw [List.length_map]; exact Nat.lt_of_lt_of_le (by omega : ins.length < 100000) (by decide)) ?_
        refine ⟨rows.length - (p + (ins.length + 1)), by omega, ins ++ [r2.1], rfl, ?_, ?_, ?_, ?_, ?_⟩
        · intro c o e
          rw [upd_ne (ne_of_none e nI)]
          exact s2 c o e
        · rw [upd_same, List.map_append]
          rfl
        · rw [List.length_append, List.length_singleton]; omega
        · rw [List.length_append, List.length_singleton]
          show p + ins.length + 1 + spanL (rows.drop (p + ins.length + 1)) (ins ++ [r2.1]) = _
          rw [← hend]
          omega
        · rw [List.length_append, List.length_singleton]
      · rw [if_neg h2] at hend
        walk_at "rd"
        have := q _ s2
        rw [← hend, Nat.add_zero, Int.natCast_add, ← List.length_map (f := V.int)] at this
        exact this
    · have he : p + ins.length = rows.length := by
        have h3 : ¬ ((p : Int) + (ins.length : Int) < (rows.length : Int)) := fun z => h1 (decide_eq_true z)
        omega
      have hz : rows.drop (p + ins.length) = [] := by rw [he]; exact List.drop_length
      rw [hz] at hend
      walk_at "rd"
      have := q _ s2
      rw [← hend, show spanL [] ins = 0 from rfl, Nat.add_zero, Int.natCast_add, ← List.length_map (f := V.int)] at this
      exact this

def spLanding (K : PySem.W.Frag) (A : Ad) : Sp := fun vs H Q E => ∃ a v rows d, vs = [.ref a, v] ∧ RowsAt K H a rows ∧ Dp K H v d ∧ rows.length ≤ 100000 ∧
  (∀ o H', d = optD o → (∀ q, o = some q → hasK rows (.int q) = true) → Same H H' → Q (.int (landF rows o : Nat)) H') ∧ (d ≠ .none → hasK rows d = false → ErrIs A.c_NoKey "key" v H E)
theorem hasK_mem {rows : List Row} {k : Int} (h : hasK rows (.int k) = true) : k ∈ keysOf rows := of_decide_eq_true (Bool.and_eq_true_iff.mp h).2
theorem ok_landing (T : Txt P K mg A) : FnOk P w K mg base (L2N.CX P w) 4 A.landing A.d_landing ["rows", "parent"] (spLanding K A) := by
  have G_end_of := ok_end_of (P := P) (w := w) (base := base) T
  have b_end_of := T.F_end_of.binds (ps := ["rows", "place"]) fun _ _ _ _ _ _ us hl => match us, hl with | [_, _], _ => rfl
  have G_place_of := ok_place_of (P := P) (w := w) (base := base) T
  have b_place_of := T.F_place_of.binds (ps := ["rows", "key"]) fun _ _ _ _ _ _ us hl => match us, hl with | [_, _], _ => rfl
  refine T.F_landing.okN sc_landing (fun vs H Q E h => ?_) (fun cdv Ar outer s H vs Q E hr h => ?_)
  · obtain ⟨a, v, rows, d, rfl, _⟩ := h
    rfl
  · obtain ⟨a, v, rows, d, rfl, hR, hd, hl, q, qe⟩ := h
    have hu1 := hu65 hr
    refine ⟨_, (pss_one (ps_ret (pe_ifExp (pt_cmpR op_isN (pv 1) pe_non (nomark _)) (pe_callB (Kx.call_len (K := K) rfl) (by rfl) T.n_len PySem.boot_len (pa_cons (pv 0) pa_nil)) (pe_call G_end_of (hr.mono (by decide)) rfl T.g_end_of T.F_end_of.kp b_end_of .nil passD (pa_cons (pv 0) (pa_cons (pe_call G_place_of (hr.mono (by decide)) rfl T.g_place_of T.F_place_of.kp b_place_of .nil passD (pa_cons (pv 0) (pa_cons (pv 1) pa_nil))) pa_nil)))))), ?_⟩
    try dsimp only [cxOf]
    rw [show L2.start ["rows", "parent"] [V.ref a, v] = [some (V.ref a), some (v)] from rfl]
    obtain ⟨xs, hS, hlen⟩ := rows_len hR
    walk_at "rd"
    refine Rd.ifE ?_
    walk_at "rd"
    refine ite2 (fun h1 => ?_) (fun h1 => ?_)
    · have ed := (dp_non hd).mp (of_decide_eq_true h1)
      walk_at "rd"
      rw [hlen]
      exact q none _ ed (fun q z => by cases z) (Same.refl _)
    · have nd : d ≠ .none := fun z => h1 (decide_eq_true ((dp_non hd).mpr z))
      walk_at "rd"
      refine ⟨a, v, rows, d, rfl, hR, hd, hl, fun k H1 e hk s1 => ?_, fun z => qe nd z⟩
      subst e
      walk_at "rd"
      refine ⟨a, rows, idxK rows k, rfl, rows_mono s1 hR, idxK_lt (hasK_mem hk), hl, fun H2 s2 => ?_⟩
      exact q (some k) _ rfl (fun q z => by cases z; exact hk) (s1.trans s2)
def spPathUp (K : PySem.W.Frag) (A : Ad) : Sp := fun vs H Q E => ∃ a v rows d, vs = [.ref a, v] ∧ RowsAt K H a rows ∧ Dp K H v d ∧ Tr rows ∧ rows.length ≤ 100000 ∧
  (∀ k ps p H', d = .int k → hasK rows d = true → Up rows k ps → H p = none → Same H H' → H' p = some (.lst (ps.map V.int)) → Q (.ref p) H') ∧ (hasK rows d = false → ErrIs A.c_NoKey "key" v H E)
theorem ok_path_up (T : Txt P K mg A) : FnOk P w K mg base (L2N.CX P w) 4 A.path_up A.d_path_up ["rows", "key"] (spPathUp K A) := by
  have G_place_of := ok_place_of (P := P) (w := w) (base := base) T
  have b_place_of := T.F_place_of.binds (ps := ["rows", "key"]) fun _ _ _ _ _ _ us hl => match us, hl with | [_, _], _ => rfl
  refine T.F_path_up.okN sc_path_up (fun vs H Q E h => ?_) (fun cdv Ar outer s H vs Q E hr h => ?_)
  · obtain ⟨a, v, rows, d, rfl, _⟩ := h
    rfl
  · obtain ⟨a, v, rows, d, rfl, hR, hd, ht, hl, q, qe⟩ := h
    have hu1 := hu65 hr
    have hu0 : (Ar.deeper (envOfC "path_up" (defScope s_path_up) s.heap.objs.size A.path_up cdv)).units + 1 < cLine := by omega
    refine ⟨_, (pss_cons (ps_expr (pe_call G_place_of (hr.mono (by decide)) rfl T.g_place_of T.F_place_of.kp b_place_of .nil passD (pa_cons (pv 0) (pa_cons (pv 1) pa_nil))))
    (pss_cons (ps_setDc (i := 2) (own := [("own", 3), ("parent", 4)]) (g := gTup K 2 (gCons (gName 3) (gCons (gName 4) (gNil)))) (tt := tYes) rfl sc_path_up.nd rfl rfl (sw_trueD rfl rfl rfl rfl) (Kx.pi_list (K := K) rfl (pv 0)) (blkOk_by (N := ["rows", "key", "above", "own", "parent", "path"]) (sc := defScope s_path_up) (by decide +kernel)) (fun _ _ _ _ _ => (Kx.pg_tup (K := K) (n := 2) rfl rfl (pgs_cons (pg_name (i := 3) sc_path_up.nd rfl (by first | exact Or.inl rfl | exact Or.inr rfl)) (pgs_cons (pg_name (i := 4) sc_path_up.nd rfl (by first | exact Or.inl rfl | exact Or.inr rfl)) pgs_nil)))) (fun _ _ _ _ _ => pts_nil) (fun _ _ _ _ _ => (pv 3)) (fun _ _ _ _ _ => (pv 4)))
    (pss_cons (ps_set (i := 5) sc_path_up.nd rfl (by first | exact Or.inl rfl | exact Or.inr rfl) (pe_lst (pa_cons (pv 1) pa_nil)))
    (pss_cons (ps_while (passes_of rfl) (pt_cmpR op_notN (pe_dget hu0 (pv 2) (pe_ix (Kx.ix_seq (K := K) rfl) (pv 5) (pe_un un_neg pe_int) (fun _ _ => rfl)) (fun _ _ => rfl)) pe_non (nomark _)) (pss_one (ps_expr (pe_bm PySem.F.plainAttrs_list PySem.F.slot_list_append PySem.F.type_list_append mt_append (pv 5) (pa_cons (pe_dget hu0 (pv 2) (pe_ix (Kx.ix_seq (K := K) rfl) (pv 5) (pe_un un_neg pe_int) (fun _ _ => rfl)) (fun _ _ => rfl)) pa_nil)))))
    (pss_one (ps_ret (pv 5))))))), ?_⟩
    try dsimp only [cxOf]
    rw [show L2.start ["rows", "key", "above", "own", "parent", "path"] [V.ref a, v] = [some (V.ref a), some (v), none, none, none, none] from rfl]
    walk_at "rd"
    refine ⟨a, v, rows, d, rfl, hR, hd, hl, fun k H1 ed hk s1 => ?_, qe⟩
    subst ed
    have ev := dp_int hd
    subst ev
    obtain ⟨xs, hS, hX⟩ := rows_mono s1 hR
    have hlen : xs.length = rows.length := by rw [dpAll_len hX, List.length_map]
    obtain ⟨ps, hps⟩ := ht.up k (hasK_mem hk)
    walk_at "rd"
    intro D hD
    refine dc_it walk_list (fun i H2 => Same H1 H2 ∧ H2 D = some (.dK (dictOf (rows.take i)))) ⟨same_upd hD, upd_same⟩ (fun i H2 _ p => p.1.seq hS) ?_ ?_
    · rintro i x H2 H3 hi ⟨s2, hD2⟩ ⟨rfl, ex⟩
      have hi' : i < rows.length := by omega
      obtain ⟨b, eb, hb⟩ := rows_at hX (List.getElem?_eq_getElem hi')
      rw [ex] at eb
      cases eb
      have hb2 := sqT_mono s2 hb
      walk_at "rd"
      refine ⟨_, .inl rows[i].1, rfl, hD2, ?_, ?_, ?_⟩
      · refine Nat.lt_of_le_of_lt ?_ (Nat.lt_of_lt_of_le (by omega : rows.length < 100001) (by decide))
        unfold dictOf
        rw [List.length_map, List.length_take]
        omega
      · intro c o e
        rw [upd_ne (ne_of_none e hD)]
        exact s2 c o e
      · rw [upd_same, dictOf_take ht.nd (List.getElem?_eq_getElem hi')]
    · rintro H2 ⟨s2, hD2⟩
      rw [hlen, List.take_length] at hD2
      walk_at "rd"
      rename_i I H3 nI sI hI
      have hD3 := sI _ _ hD2
      obtain ⟨tl, etl⟩ := hps.head
      refine ⟨fun m σ H4 => ∃ (done : List Int) (kk : Int) (rest : List Int), σ = [some (V.ref a), some (V.int k), some (V.ref D), none, none, some (V.ref I)] ∧ Same H2 H4 ∧ H4 I = some (.lst (done.map V.int ++ [V.int kk])) ∧ Up rows kk (kk :: rest) ∧ ps = done ++ kk :: rest ∧ m = rest.length,
        ⟨_, [], k, tl, rfl, sI, hI, by rw [← etl]; exact hps, etl, rfl⟩, ?_⟩
      rintro m σ H4 ⟨done, kk, rest, rfl, s4, hI4, hup, eps, rfl⟩
      have hD4 := s4 _ _ hD2
      have hix : ∀ Qx : VK, Qx (.int kk) H4 → rIx K (.ref I) (.int (-1)) H4 Qx := fun Qx h => Rd.ixA (SqL.of hI4) (atI_last _ _) h
      have hpl := ht.len_path hps
      generalize hrest : kk :: rest = full at hup
      cases hup with
      | root hm =>
        cases hrest
        walk_at "rd"
        refine hix _ ?_
        refine Rd.dgetI hD4 (dictOf_some ht.nd hm) ?_
        dsimp only [optV]
        walk_at "rd"
        refine q k ps I H4 rfl hk hps ?_ ((s1.trans s2).trans s4) ?_
        · exact (s1.trans s2).free nI
        · rw [hI4, eps, List.map_append]; rfl
      | @step _ q' ps' hm hup' =>
        have e1 : rest = ps' := by injection hrest
        subst e1
        obtain ⟨t', et⟩ := hup'.head
        walk_at "rd"
        refine hix _ ?_
        refine Rd.dgetI hD4 (dictOf_some ht.nd hm) ?_
        dsimp only [optV]
        walk_at "rd"
        refine ⟨_, fun σ' H' h => h, ?_⟩
        walk_at "rd"
        refine hix _ ?_
        refine Rd.dgetI hD4 (dictOf_some ht.nd hm) ?_
        dsimp only [optV]
        walk_at "rd"
        refine Rd.app hI4 ?_ ?_
        · rw [List.length_append, List.length_map]
          have : done.length + 1 ≤ 100000 := by
            have h1 := congrArg List.length eps
            rw [List.length_append, List.length_cons] at h1
            omega
          exact Nat.lt_of_le_of_lt this (by decide)
        · refine ⟨t'.length, by rw [et, List.length_cons]; omega, done ++ [kk], q', t', rfl, ?_, ?_, ?_, ?_, rfl⟩
          · intro c o e
            rw [upd_ne (ne_of_none e nI)]
            exact s4 c o e
          · rw [upd_same, List.map_append]; rfl
          · rw [← et]; exact hup'
          · rw [eps, et, List.append_assoc]; rfl
end
end PR
end

section
set_option maxHeartbeats 4000000
namespace PR
open PySem L2 PySem.Spec PyProof.Rows PySem.EX
local macro_rules | `(tactic| walk_at "st") => `(tactic| first | exact setAt_z | exact setAt_s (by walk_at "st"))
local macro_rules | `(tactic| walk_at "rd1") => `(tactic| first
  | with_reducible refine Rd.seq ?_
  | with_reducible refine Rd.nxE ?_
  | with_reducible refine Rd.rtE ?_
  | with_reducible refine Rd.ctE ?_
  | with_reducible refine Rd.bkE ?_
  | with_reducible refine Rd.asg ?_
  | ((with_reducible refine' Rd.gname ?hs ?_); (case hs => walk_at "st"))
  | with_reducible refine Rd.ifS ?_
  | with_reducible refine Rd.ret ?_
  | with_reducible refine Rd.retN ?_
  | with_reducible refine Rd.drop ?_
  | with_reducible refine Rd.next ?_
  | ((with_reducible refine' Rd.var ?hv ?_); (case hv => exact rfl))
  | with_reducible refine Rd.c ?_
  | with_reducible refine Rd.op ?_
  | with_reducible refine Rd.un ?_
  | with_reducible refine Rd.neg ?_
  | with_reducible refine Rd.i0 ?_
  | with_reducible refine Rd.test ?_
  | with_reducible refine Rd.chain ?_
  | with_reducible refine Rd.tB ?_
  | with_reducible refine Rd.bl ?_
  | with_reducible refine Rd.not ?_
  | with_reducible refine Rd.and ?_
  | with_reducible refine Rd.or ?_
  | with_reducible refine Rd.andV ?_
  | with_reducible refine Rd.orV ?_
  | with_reducible refine Rd.notV ?_
  | with_reducible refine Rd.nilA ?_
  | with_reducible refine Rd.consA ?_
  | with_reducible refine Rd.cb ?_
  | with_reducible refine Rd.int1 ?_
  | with_reducible refine Rd.abs1 ?_
  | with_reducible refine Rd.gsub ?_
  | with_reducible refine Rd.tpar ?_
  | ((with_reducible refine' Rd.par ?hs ?ht ?_); (case hs => walk_at "st"); (case ht => walk_at "st"))
  | with_reducible refine Rd.ttup ?_
  | with_reducible refine Rd.tlst ?_
  | with_reducible refine Rd.isN ?_
  | with_reducible refine Rd.call ?_
  | with_reducible refine Rd.sl ?_
  | with_reducible refine Rd.noPart ?_
  | with_reducible refine Rd.part ?_
  | with_reducible refine Rd.ex_int ?_
  | with_reducible refine Rd.bm ?_
  | with_reducible refine Rd.tfld ?_
  | with_reducible refine Rd.tfor ?_
  | with_reducible refine Rd.tlc ?_
  | with_reducible refine Rd.mk1 ?_
  | with_reducible refine Rd.tdc ?_
  | with_reducible refine Rd.sfld ?_
  | with_reducible refine Rd.methP ?_
  | with_reducible refine Rd.xf ?_

  | with_reducible refine Rd.itemP ?_
  | with_reducible refine Rd.ost ?_
  | with_reducible refine Rd.enumT ?_
  | ((with_reducible refine' Rd.enumTAt ?h1 ?_); (case h1 => walk_at "lk"))
  | with_reducible refine Rd.meth ?_
  | with_reducible refine Rd.make ?_
  | with_reducible refine Rd.prop ?_
  | with_reducible refine Rd.item ?_
  | with_reducible refine Rd.sprop ?_
  | with_reducible refine Rd.star ?_
  | ((with_reducible refine' Rd.starL ?h1 ?_); (case h1 => walk_at "lk"))
  | with_reducible refine Rd.tdget ?_
  | ((with_reducible refine' Rd.fld ?h1 ?h2 ?h3 ?h4 ?_); (case h1 => walk_at "lk"); (case h2 => walk_at "cl"); (case h3 => walk_at "na"); (case h4 => walk_at "fl"))
  | ((with_reducible refine' Rd.ty ?h1 ?_); (case h1 => walk_at "lk"))
  | with_reducible refine Rd.tyes ?_
  | with_reducible refine Rd.noN ?_
  | with_reducible refine Rd.noNr ?_
  | with_reducible refine Rd.yesN ?_
  | with_reducible refine Rd.yesI ?_
  | with_reducible refine Rd.yesR ?_
  | with_reducible refine Rd.noNN ?_
  | with_reducible refine Rd.yes rfl ?_
  | with_reducible refine Rd.no Bool.false_ne_true ?_
  | ((with_reducible refine' Rd.wp ?h1 ?_); (case h1 => exact rfl))
  | ((with_reducible refine' Rd.isi ?h1 ?h2 ?_); (case h1 => walk_at "lk"); (case h2 => first | exact kit_int (dp_nodict (by assumption)) | exact kit_bool (dp_nodict (by assumption))))
  | with_reducible refine Rd.enum ?_
  | ((with_reducible refine' Rd.enumAt ?h1 ?_); (case h1 => walk_at "lk"))
  | with_reducible refine Rd.rng1 ?_
  | with_reducible refine Rd.rng2 ?_
  | with_reducible refine Rd.ilist ?_
  | with_reducible refine Rd.itup ?_
  | ((with_reducible refine' Rd.ilistAt ?h1 ?_); (case h1 => walk_at "lk"))
  | ((with_reducible refine' Rd.itupAt ?h1 ?_); (case h1 => walk_at "lk"))
  | ((with_reducible refine' Rd.slL ?h1 (fun q H1 nq sq hq => ?_)); (case h1 => walk_at "lk"))
  | with_reducible refine Rd.gcons ?_
  | with_reducible refine Rd.gnil ?_
  | ((with_reducible refine' Rd.gtup ?h1 ?h2 ?_); (case h1 => walk_at "lk"); (case h2 => exact rfl))
  | ((with_reducible refine' Rd.lenL ?h1 ?_); (case h1 => walk_at "lk"))
  | ((with_reducible refine' Rd.lenT ?h1 ?_); (case h1 => walk_at "lk"))
  | ((with_reducible refine' Rd.ixA ?h1 ?h2 ?_); (case h1 => walk_at "lk"); (case h2 => exact rfl))
  | ((with_reducible refine' Rd.ixB ?h1 ?h2 ?_); (case h1 => walk_at "lk"); (case h2 => exact rfl))
  | ((with_reducible refine' Rd.ixL ?h1 ?h2 ?_); (case h1 => walk_at "lk"); (case h2 => exact rfl))
  | ((with_reducible refine' Rd.newAt ?h1 (fun p H1 np sp hp => ?_)); (case h1 => exact sz_small (Nat.le_of_ble_eq_true rfl)))
  | ((with_reducible refine' Rd.ic ?h1 ?_); (case h1 => walk_at "sd"))
  | ((with_reducible refine' Rd.setL ?h1 ?h2 ?h3 ?_); (case h1 => walk_at "lk"); (case h2 => exact rfl); (case h3 => walk_at "st")))
local macro_rules | `(tactic| walk_at "rd") => `(tactic| repeat walk_at "rd1")
local macro_rules | `(tactic| walk_at "lk") => `(tactic| first
  | assumption
  | exact upd_same
  | exact SqL.of upd_same
  | exact SqT.of upd_same
  | exact SqL.of (by assumption)
  | exact SqT.of (by assumption)
  | ((with_reducible refine' same_get ?lks ?lkh); (case lks => assumption); (case lkh => walk_at "lk"))
  | ((with_reducible refine' Same.seq ?lks ?lkh); (case lks => assumption); (case lkh => walk_at "lk"))
  | ((with_reducible refine' sqT_mono ?lks ?lkh); (case lks => assumption); (case lkh => walk_at "lk"))
  | ((with_reducible refine' dp_mono ?lks ?lkh); (case lks => assumption); (case lkh => walk_at "lk")))
local macro_rules | `(tactic| walk_at "sd") => `(tactic| first
  | assumption
  | decide
  | omega
  | exact Or.inl ⟨by decide, by decide⟩
  | exact ⟨by decide, by decide, by decide⟩
  | exact Or.inr ⟨by decide, by decide⟩
  | exact wide_div (by decide) (by decide : _ < 2 ^ 200) (by decide) (by decide)
  | exact wide_div (by assumption) (by assumption : _ < 2 ^ 200) (by decide) (by decide))

local macro_rules | `(tactic| walk_at "cl") => `(tactic| first | exact ct_k (by assumption) | exact cl_Tree (by assumption) | exact cl_Spot (by assumption) | exact cl_Edit (by assumption))
local macro_rules | `(tactic| walk_at "na") => `(tactic| first | exact ct_rows (by assumption) | exact ct_left (by assumption) | exact na_rows (by assumption) | exact na_left (by assumption) | exact na_tree (by assumption) | exact na_key (by assumption) | exact na_etree (by assumption) | exact na_saved (by assumption))
local macro_rules | `(tactic| walk_at "fl") => `(tactic| first | exact lk_head | exact lk_second (by decide +kernel))
local macro_rules | `(tactic| walk_at "wi") => `(tactic| first | (simp only [wipe, List.map_cons, List.map_nil, List.set_cons_succ, List.set_cons_zero]; done) | (simp only [wipe, List.map_cons, List.map_nil, List.set_cons_succ, List.set_cons_zero]; exact rfl))

section
variable {P : Program} {w : World} {K : PySem.W.Frag} {mg : Str → Option Value} {base : Heap} {A : Ad} {C : Addr}
/-! ### a tree's fields -/
structure RestOk (rest : List (Str × V)) : Prop where
  len : rest.length ≤ 8
  no : ∀ m : Str, m ≠ "left" → m ≠ "log" → rest.lookup m = none
theorem n_lr : ¬ (("left" : Str) = "rows") := by decide +kernel
theorem n_rl : ¬ (("rows" : Str) = "left") := by decide +kernel
theorem n_tk : ¬ (("tree" : Str) = "key") := by decide +kernel
theorem n_ts : ¬ (("tree" : Str) = "saved") := by decide +kernel
theorem put_head {f : Str} {v y : V} {r : List (Str × V)} : putF f y ((f, v) :: r) = (f, y) :: r := by
  show (if f = f then _ else _) = _
  rw [if_pos rfl]
theorem put_tail {f g : Str} {v y : V} {r : List (Str × V)} (h : ¬ (g = f)) : putF f y ((g, v) :: r) = (g, v) :: putF f y r := by
  show (if g = f then _ else _) = _
  rw [if_neg h]
theorem rest_left (l : V) : RestOk [("left", l)] := ⟨(by decide : 1 ≤ 8), fun m h1 h2 => by rw [lk_tail (fun e => h1 e.symm)]; rfl⟩
def TreeAt (K : PySem.W.Frag) (C dx : Addr) (rest : List (Str × V)) (H : Hp) (t : Addr) (rows : List Row) : Prop := RestOk rest ∧ ∃ a, H t = some (.ins C dx (("rows", .ref a) :: rest)) ∧ RowsAt K H a rows
theorem TreeAt.mono {C dx : Addr} {rest : List (Str × V)} {H H1 : Hp} {t : Addr} {rows : List Row} (h : TreeAt K C dx rest H t rows) (s : Same H H1) : TreeAt K C dx rest H1 t rows := by
  obtain ⟨r, a, e, h⟩ := h
  exact ⟨r, a, s _ _ e, rows_mono s h⟩
theorem TreeAt.noM {C dx : Addr} {rest : List (Str × V)} {H : Hp} {t : Addr} {rows : List Row} (h : TreeAt K C dx rest H t rows) {v : V} {m : Str} (h1 : ¬ (("rows" : Str) = m)) (h2 : m ≠ "left") (h3 : m ≠ "log") : List.lookup m (("rows", v) :: rest) = none := by
  rw [lk_tail h1]
  exact h.1.no m h2 h3
/-- a tree whose rows don't lean on the places S -/
def TreeS (K : PySem.W.Frag) (S : List Addr) (C dx : Addr) (rest : List (Str × V)) (H : Hp) (t : Addr) (rows : List Row) : Prop := RestOk rest ∧ ∃ a, H t = some (.ins C dx (("rows", .ref a) :: rest)) ∧ RowsAt K (hid S H) a rows
theorem TreeS.mono {S : List Addr} {dx : Addr} {rest : List (Str × V)} {H H1 : Hp} {t : Addr} {rows : List Row} (h : TreeS K S C dx rest H t rows) (s : Same H H1) : TreeS K S C dx rest H1 t rows := by
  obtain ⟨r, a, e, h⟩ := h
  exact ⟨r, a, s _ _ e, rows_mono (Same.hid s) h⟩
theorem TreeS.at {S : List Addr} {dx : Addr} {rest : List (Str × V)} {H : Hp} {t : Addr} {rows : List Row} (h : TreeS K S C dx rest H t rows) : TreeAt K C dx rest H t rows := by
  obtain ⟨r, a, e, h⟩ := h
  exact ⟨r, a, e, rows_mono hid_same h⟩
theorem hid_nil {H : Hp} : hid [] H = H := by
  funext b
  exact hid_out (by simp)
theorem TreeAt.s {dx : Addr} {rest : List (Str × V)} {H : Hp} {t : Addr} {rows : List Row} (h : TreeAt K C dx rest H t rows) : TreeS K [] C dx rest H t rows := by
  obtain ⟨r, a, e, h⟩ := h
  exact ⟨r, a, e, by rw [hid_nil]; exact h⟩
theorem TreeS.noM {S : List Addr} {dx : Addr} {rest : List (Str × V)} {H : Hp} {t : Addr} {rows : List Row} (h : TreeS K S C dx rest H t rows) {v : V} {m : Str} (h1 : ¬ (("rows" : Str) = m)) (h2 : m ≠ "left") (h3 : m ≠ "log") : List.lookup m (("rows", v) :: rest) = none := by
  rw [lk_tail h1]
  exact h.1.no m h2 h3
def spTInit (K : PySem.W.Frag) (C : Addr) : Sp := fun vs H Q _ => ∃ t dx S, vs = [.ref t] ∧ H t = some (.ins C dx []) ∧ OkS S H ∧ t ∉ S ∧ ∀ H' z, Fr1 t H H' → H z = none → H' z = some (.lst []) → TreeS K S C dx [("left", .ref z)] H' t [] → Q .non H'
theorem ok_T_init (T : Txt P K mg A) (hCT : ClsT K C) : FnOk P w K mg base (L2N.CX P w) 1 A.f_T_init A.d_T_init ["self"] (spTInit K C) := by
  refine T.F_T_init.okN sc_Tree___init__ (fun vs H Q E h => ?_) (fun cdv Ar outer s H vs Q E hr h => ?_)
  · obtain ⟨t, dx, S, rfl, _⟩ := h
    rfl
  · obtain ⟨t, dx, S, rfl, ht, okS, ntS, q⟩ := h
    refine ⟨_, (pss_cons (Kx.ps_fld (K := K) rfl (pv 0) (pe_lst pa_nil) rfl)
    (pss_one (Kx.ps_fld (K := K) rfl (pv 0) (pe_lst pa_nil) rfl))), ?_⟩
    try dsimp only [cxOf]
    rw [show L2.start ["self"] [V.ref t] = [some (V.ref t)] from rfl]
    walk_at "rd"
    rename_i r H1 nr sr hr1
    refine Rd.sput (sr _ _ ht) hCT.k hCT.rows (Nat.le_of_ble_eq_true rfl) (fs' := [("rows", .ref r)]) rfl fun H2 f2 e2 => ?_
    walk_at "rd"
    rename_i l H3 nl sl hl
    refine Rd.sput (sl _ _ e2) hCT.k hCT.left (Nat.le_of_ble_eq_true rfl) (put_tail n_rl) fun H4 f4 e4 => ?_
    walk_at "rd"
    have ntr : r ≠ t := fun e => by rw [e, ht] at nr; cases nr
    have ntl : l ≠ t := fun e => by rw [e, e2] at nl; cases nl
    have nl0 : H l = none := by
      cases z : H l with
      | none => rfl
      | some o => rw [f2 l o ntl (sr _ _ z)] at nl; cases nl
    refine q H4 l (fun b o n e => f4 b o n (sl b o (f2 b o n (sr b o e)))) nl0 (f4 l _ ntl hl) ⟨rest_left _, r, e4, [], SqL.of ((hid_out (okS.new nr)).trans (f4 r _ ntr (sl r _ (f2 r _ ntr hr1)))), .nil⟩
/-- put: a good one, and the three errors -/
def spPut (K : PySem.W.Frag) (A : Ad) (C : Addr) : Sp := fun vs H Q E => ∃ t v p S dx rest rows d e, vs = [.ref t, v, p] ∧ TreeS K S C dx rest H t rows ∧ OkS S H ∧ t ∉ S ∧ Dp K H v d ∧ Dp K H p e ∧ rows.length ≤ 90000 ∧
  (∀ k o H', d = .int k → e = optD o → keyD d = true → hasK rows d = false → (∀ q, o = some q → hasK rows (.int q) = true) → Fr1 t H H' → TreeS K S C dx rest H' t (putR rows k o) → Q .non H') ∧
  (keyD d = false → ErrIs A.c_BadKey "key" v H E) ∧ (hasK rows d = true → ErrIs A.c_KeyThere "key" v H E) ∧ (keyD d = true → hasK rows d = false → e ≠ .none → hasK rows e = false → ErrIs A.c_NoKey "key" p H E)
theorem keyD_int {d : PyData} (h : keyD d = true) : ∃ k, d = .int k := by cases d <;> first | exact ⟨_, rfl⟩ | cases h
theorem hasK_int' {rows : List Row} {d : PyData} (h : hasK rows d = true) : ∃ k, d = .int k := let ⟨k, e, _⟩ := hasK_int h; ⟨k, e⟩
theorem is_opt {rows : List Row} {e : PyData} (h : e = .none ∨ hasK rows e = true) : ∃ o, e = optD o ∧ ∀ q, o = some q → hasK rows (.int q) = true := by
  rcases h with h | h
  · exact ⟨none, h, fun q z => by cases z⟩
  · obtain ⟨k, rfl⟩ := hasK_int' h
    exact ⟨some k, rfl, fun q z => by cases z; exact h⟩
theorem ok_T_put (T : Txt P K mg A) (hCT : ClsT K C) : FnOk P w K mg base (L2N.CX P w) 5 A.f_T_put A.d_T_put ["self", "key", "parent"] (spPut K A C) := by
  have G_is_key := ok_is_key (P := P) (w := w) (base := base) T
  have b_is_key := T.F_is_key.binds (ps := ["thing"]) fun _ _ _ _ _ _ us hl => match us, hl with | [_], _ => rfl
  have G_has_key := ok_has_key (P := P) (w := w) (base := base) T
  have b_has_key := T.F_has_key.binds (ps := ["rows", "key"]) fun _ _ _ _ _ _ us hl => match us, hl with | [_, _], _ => rfl
  have G_landing := ok_landing (P := P) (w := w) (base := base) T
  have b_landing := T.F_landing.binds (ps := ["rows", "parent"]) fun _ _ _ _ _ _ us hl => match us, hl with | [_, _], _ => rfl
  refine FunD.okN T.F_T_put sc_Tree_put (fun vs H Q E h => ?_) (fun cdv Ar outer s H vs Q E hr h => ?_)
  · obtain ⟨t, v, p, S, dx, rest, rows, d, e, rfl, _⟩ := h
    rfl
  · obtain ⟨t, v, p, S, dx, rest, rows, d, e, rfl, ⟨hrest, a, ht, hRS⟩, okS, ntS, hd, he, hl, q, q1, q2, q3⟩ := h
    have hR : RowsAt K H a rows := rows_mono hid_same hRS
    have hu1 := hu65 hr
    refine ⟨_, (pss_cons (ps_if (pt_not (pt_val (pe_call G_is_key (hr.mono (by decide)) rfl T.g_is_key T.F_is_key.kp b_is_key .nil passD (pa_cons (pv 1) pa_nil)))) (pss_one (ps_raise1 rfl T.X_BadKey PySem.F.excBase_ValueError PySem.F.store_ValueError hr (L2N.takes_of rfl rfl rfl rfl) (pa_cons (pv 1) pa_nil))) pss_nil)
    (pss_cons (ps_if (pt_val (pe_call G_has_key (hr.mono (by decide)) rfl T.g_has_key T.F_has_key.kp b_has_key .nil passD (pa_cons (Kx.pe_fld (K := K) rfl (pv 0) rfl) (pa_cons (pv 1) pa_nil)))) (pss_one (ps_raise1 rfl T.X_KeyThere PySem.F.excBase_ValueError PySem.F.store_ValueError hr (L2N.takes_of rfl rfl rfl rfl) (pa_cons (pv 1) pa_nil))) pss_nil)
    (pss_cons (ps_set (i := 3) sc_Tree_put.nd rfl (by first | exact Or.inl rfl | exact Or.inr rfl) (pe_call G_landing (hr.mono (by decide)) rfl T.g_landing T.F_landing.kp b_landing .nil passD (pa_cons (Kx.pe_fld (K := K) rfl (pv 0) rfl) (pa_cons (pv 2) pa_nil))))
    (pss_one (Kx.ps_fld (K := K) rfl (pv 0) (pe_lst (StX.pa_star (pe_slice (Kx.sl_list (K := K) rfl) (Kx.pe_fld (K := K) rfl (pv 0) rfl) po_none (po_some (pv 3))) (pa_cons (pe_tup (pa_cons (pv 1) (pa_cons (pv 2) pa_nil))) (StX.pa_star (pe_slice (Kx.sl_list (K := K) rfl) (Kx.pe_fld (K := K) rfl (pv 0) rfl) (po_some (pv 3)) po_none) pa_nil)))) rfl))))), ?_⟩
    try dsimp only [cxOf]
    rw [show L2.start ["self", "key", "parent", "at"] [V.ref t, v, p] = [some (V.ref t), some (v), some (p), none] from rfl]
    walk_at "rd"
    refine ⟨v, d, rfl, hd, ?_⟩
    walk_at "rd"
    refine ite2 (fun h1 => ?_) (fun h1 => ?_)
    · have kd : keyD d = false := by simpa using h1
      walk_at "rd"
      refine Rd.errA fun D H2 nD sD hD => q1 kd _ _ sD hD
    · have kd : keyD d = true := by simpa using h1
      walk_at "rd"
      refine ⟨a, v, rows, d, rfl, hR, hd, by omega, fun H1 s1 => ?_⟩
      walk_at "rd"
      refine ite2 (fun h2 => ?_) (fun h2 => ?_)
      · walk_at "rd"
        refine Rd.errA fun D H2 nD sD hD => q2 h2 _ _ (s1.trans sD) hD
      · have hk : hasK rows d = false := Bool.eq_false_iff.mpr h2
        walk_at "rd"
        refine ⟨a, p, rows, e, rfl, rows_mono s1 hR, dp_mono s1 he, by omega, fun o H2 eo ho s2 => ?_, fun ne nh H2 D sD hD => q3 kd hk ne nh _ _ (s1.trans sD) hD⟩
        obtain ⟨k, rfl⟩ := keyD_int kd
        have ev := dp_int hd
        subst ev eo
        have ep := dp_opt he
        subst ep
        have s12 := s1.trans s2
        have hland : landF rows o ≤ rows.length := landF_le fun q z => hasK_mem (ho q z)
        obtain ⟨xs, hS0, hXS⟩ := rows_mono (Same.hid s12) hRS
        have hS := hid_same.seq hS0
        have hX := dpAll_mono hid_same hXS
        have hlen : xs.length = rows.length := by rw [dpAll_len hX, List.length_map]
        walk_at "rd"
        rename_i qa Ha na sa ha b Hb nb sb hb qc Hc nc sc hc
        have sac : Same _ Hc := (sa.trans sb).trans sc
        refine Rd.newAt (by
          rw [List.length_append, List.length_cons, List.append_nil]
          have h1 := cutV_length xs none (some (landF rows o : Int))
          have h2 := cutV_length xs (some (landF rows o : Int)) none
          exact Nat.le_trans (by omega : _ ≤ 200001) (by decide)) fun z Hz nz sz hz => ?_
        walk_at "rd"
        have s2z : Same H Hz := (s12.trans sac).trans sz
        refine Rd.sput (s2z _ _ ht) hCT.k hCT.rows (Nat.lt_of_le_of_lt (Nat.succ_le_succ hrest.len) (by decide)) put_head fun H4 f4 e4 => ?_
        walk_at "rd"
        have nzS : z ∉ S := (okS.same (s12.trans sac)).new nz
        have nbS : b ∉ S := ((okS.same s12).same sa).new nb
        refine q k o H4 rfl rfl kd hk ho ((Same.fr1 s2z).trans f4) ⟨hrest, z, e4, _, SqL.of ((hid_out nzS).trans (f4 z _ (fun e => by rw [e, s2z _ _ ht] at hz; cases hz) hz)), ?_⟩
        rw [cut_to, cut_from (by omega), List.append_nil]
        unfold putR
        rw [List.map_append, List.map_take, List.map_cons, List.map_drop]
        have htS := (hid_out (H := Hz) ntS).trans (s2z _ _ ht)
        have hXz := dpAll_fr1 (Fr1.hid (S := S) f4) htS trivial (dpAll_mono (Same.hid (sac.trans sz)) hXS)
        have hbz : SqT K (hid S H4) b [.int k, optV o] := sqT_fr1 (Fr1.hid f4) htS trivial (SqT.of ((hid_out nbS).trans (sz _ _ (sc _ _ hb))))
        exact dpAll_app (dpAll_take _ hXz) (.cons (row_dp (r := (k, o)) hbz) (dpAll_drop _ hXz))
end
end PR
end

section
set_option maxHeartbeats 4000000
namespace PR
open PySem L2 PySem.Spec PyProof.Rows PySem.EX
local macro_rules | `(tactic| walk_at "st") => `(tactic| first | exact setAt_z | exact setAt_s (by walk_at "st"))
local macro_rules | `(tactic| walk_at "rd1") => `(tactic| first
  | with_reducible refine Rd.seq ?_
  | with_reducible refine Rd.nxE ?_
  | with_reducible refine Rd.rtE ?_
  | with_reducible refine Rd.ctE ?_
  | with_reducible refine Rd.bkE ?_
  | with_reducible refine Rd.asg ?_
  | ((with_reducible refine' Rd.gname ?hs ?_); (case hs => walk_at "st"))
  | with_reducible refine Rd.ifS ?_
  | with_reducible refine Rd.ret ?_
  | with_reducible refine Rd.retN ?_
  | with_reducible refine Rd.drop ?_
  | with_reducible refine Rd.next ?_
  | ((with_reducible refine' Rd.var ?hv ?_); (case hv => exact rfl))
  | with_reducible refine Rd.c ?_
  | with_reducible refine Rd.op ?_
  | with_reducible refine Rd.un ?_
  | with_reducible refine Rd.neg ?_
  | with_reducible refine Rd.i0 ?_
  | with_reducible refine Rd.test ?_
  | with_reducible refine Rd.chain ?_
  | with_reducible refine Rd.tB ?_
  | with_reducible refine Rd.bl ?_
  | with_reducible refine Rd.not ?_
  | with_reducible refine Rd.and ?_
  | with_reducible refine Rd.or ?_
  | with_reducible refine Rd.andV ?_
  | with_reducible refine Rd.orV ?_
  | with_reducible refine Rd.notV ?_
  | with_reducible refine Rd.nilA ?_
  | with_reducible refine Rd.consA ?_
  | with_reducible refine Rd.cb ?_
  | with_reducible refine Rd.int1 ?_
  | with_reducible refine Rd.abs1 ?_
  | with_reducible refine Rd.gsub ?_
  | with_reducible refine Rd.tpar ?_
  | ((with_reducible refine' Rd.par ?hs ?ht ?_); (case hs => walk_at "st"); (case ht => walk_at "st"))
  | with_reducible refine Rd.ttup ?_
  | with_reducible refine Rd.tlst ?_
  | with_reducible refine Rd.isN ?_
  | with_reducible refine Rd.call ?_
  | with_reducible refine Rd.sl ?_
  | with_reducible refine Rd.noPart ?_
  | with_reducible refine Rd.part ?_
  | with_reducible refine Rd.ex_int ?_
  | with_reducible refine Rd.bm ?_
  | with_reducible refine Rd.tfld ?_
  | with_reducible refine Rd.tfor ?_
  | with_reducible refine Rd.tlc ?_
  | with_reducible refine Rd.mk1 ?_
  | with_reducible refine Rd.tdc ?_
  | with_reducible refine Rd.sfld ?_
  | with_reducible refine Rd.methP ?_
  | with_reducible refine Rd.xf ?_

  | with_reducible refine Rd.itemP ?_
  | with_reducible refine Rd.ost ?_
  | with_reducible refine Rd.enumT ?_
  | ((with_reducible refine' Rd.enumTAt ?h1 ?_); (case h1 => walk_at "lk"))
  | with_reducible refine Rd.meth ?_
  | with_reducible refine Rd.make ?_
  | with_reducible refine Rd.prop ?_
  | with_reducible refine Rd.item ?_
  | with_reducible refine Rd.sprop ?_
  | with_reducible refine Rd.star ?_
  | ((with_reducible refine' Rd.starL ?h1 ?_); (case h1 => walk_at "lk"))
  | with_reducible refine Rd.tdget ?_
  | ((with_reducible refine' Rd.fld ?h1 ?h2 ?h3 ?h4 ?_); (case h1 => walk_at "lk"); (case h2 => walk_at "cl"); (case h3 => walk_at "na"); (case h4 => walk_at "fl"))
  | ((with_reducible refine' Rd.ty ?h1 ?_); (case h1 => walk_at "lk"))
  | with_reducible refine Rd.tyes ?_
  | with_reducible refine Rd.noN ?_
  | with_reducible refine Rd.noNr ?_
  | with_reducible refine Rd.yesN ?_
  | with_reducible refine Rd.yesI ?_
  | with_reducible refine Rd.yesR ?_
  | with_reducible refine Rd.noNN ?_
  | with_reducible refine Rd.yes rfl ?_
  | with_reducible refine Rd.no Bool.false_ne_true ?_
  | ((with_reducible refine' Rd.wp ?h1 ?_); (case h1 => exact rfl))
  | ((with_reducible refine' Rd.isi ?h1 ?h2 ?_); (case h1 => walk_at "lk"); (case h2 => first | exact kit_int (dp_nodict (by assumption)) | exact kit_bool (dp_nodict (by assumption))))
  | with_reducible refine Rd.enum ?_
  | ((with_reducible refine' Rd.enumAt ?h1 ?_); (case h1 => walk_at "lk"))
  | with_reducible refine Rd.rng1 ?_
  | with_reducible refine Rd.rng2 ?_
  | with_reducible refine Rd.ilist ?_
  | with_reducible refine Rd.itup ?_
  | ((with_reducible refine' Rd.ilistAt ?h1 ?_); (case h1 => walk_at "lk"))
  | ((with_reducible refine' Rd.itupAt ?h1 ?_); (case h1 => walk_at "lk"))
  | ((with_reducible refine' Rd.slL ?h1 (fun q H1 nq sq hq => ?_)); (case h1 => walk_at "lk"))
  | with_reducible refine Rd.gcons ?_
  | with_reducible refine Rd.gnil ?_
  | ((with_reducible refine' Rd.gtup ?h1 ?h2 ?_); (case h1 => walk_at "lk"); (case h2 => exact rfl))
  | ((with_reducible refine' Rd.lenL ?h1 ?_); (case h1 => walk_at "lk"))
  | ((with_reducible refine' Rd.lenT ?h1 ?_); (case h1 => walk_at "lk"))
  | ((with_reducible refine' Rd.ixA ?h1 ?h2 ?_); (case h1 => walk_at "lk"); (case h2 => exact rfl))
  | ((with_reducible refine' Rd.ixB ?h1 ?h2 ?_); (case h1 => walk_at "lk"); (case h2 => exact rfl))
  | ((with_reducible refine' Rd.ixL ?h1 ?h2 ?_); (case h1 => walk_at "lk"); (case h2 => exact rfl))
  | ((with_reducible refine' Rd.newAt ?h1 (fun p H1 np sp hp => ?_)); (case h1 => exact sz_small (Nat.le_of_ble_eq_true rfl)))
  | ((with_reducible refine' Rd.ic ?h1 ?_); (case h1 => walk_at "sd"))
  | ((with_reducible refine' Rd.setL ?h1 ?h2 ?h3 ?_); (case h1 => walk_at "lk"); (case h2 => exact rfl); (case h3 => walk_at "st")))
local macro_rules | `(tactic| walk_at "rd") => `(tactic| repeat walk_at "rd1")
local macro_rules | `(tactic| walk_at "lk") => `(tactic| first
  | assumption
  | exact upd_same
  | exact SqL.of upd_same
  | exact SqT.of upd_same
  | exact SqL.of (by assumption)
  | exact SqT.of (by assumption)
  | ((with_reducible refine' same_get ?lks ?lkh); (case lks => assumption); (case lkh => walk_at "lk"))
  | ((with_reducible refine' Same.seq ?lks ?lkh); (case lks => assumption); (case lkh => walk_at "lk"))
  | ((with_reducible refine' sqT_mono ?lks ?lkh); (case lks => assumption); (case lkh => walk_at "lk"))
  | ((with_reducible refine' dp_mono ?lks ?lkh); (case lks => assumption); (case lkh => walk_at "lk")))
local macro_rules | `(tactic| walk_at "sd") => `(tactic| first
  | assumption
  | decide
  | omega
  | exact Or.inl ⟨by decide, by decide⟩
  | exact ⟨by decide, by decide, by decide⟩
  | exact Or.inr ⟨by decide, by decide⟩
  | exact wide_div (by decide) (by decide : _ < 2 ^ 200) (by decide) (by decide)
  | exact wide_div (by assumption) (by assumption : _ < 2 ^ 200) (by decide) (by decide))

local macro_rules | `(tactic| walk_at "cl") => `(tactic| first | exact ct_k (by assumption) | exact cl_Tree (by assumption) | exact cl_Spot (by assumption) | exact cl_Edit (by assumption))
local macro_rules | `(tactic| walk_at "na") => `(tactic| first | exact ct_rows (by assumption) | exact ct_left (by assumption) | exact na_rows (by assumption) | exact na_left (by assumption) | exact na_tree (by assumption) | exact na_key (by assumption) | exact na_etree (by assumption) | exact na_saved (by assumption))
local macro_rules | `(tactic| walk_at "fl") => `(tactic| first | exact lk_head | exact lk_second (by decide +kernel))
local macro_rules | `(tactic| walk_at "wi") => `(tactic| first | (simp only [wipe, List.map_cons, List.map_nil, List.set_cons_succ, List.set_cons_zero]; done) | (simp only [wipe, List.map_cons, List.map_nil, List.set_cons_succ, List.set_cons_zero]; exact rfl))

section
variable {P : Program} {w : World} {K : PySem.W.Frag} {mg : Str → Option Value} {base : Heap} {A : Ad} {C : Addr}
def RingIs (A : Ad) (ps : List Int) (k : Int) (H : Hp) (E : XK) : Prop := ∀ H' D T, H T = none → Same H H' → H' D = some (.xd [("path", .ref T)]) → H' T = some (.tup ((ps.take (ps.idxOf k + 1)).map V.int)) → E (.ref A.c_Ring) (some D) H'
def spMove (K : PySem.W.Frag) (A : Ad) (C : Addr) : Sp := fun vs H Q E => ∃ t v p S dx rest rows d e, vs = [.ref t, v, p] ∧ TreeS K S C dx rest H t rows ∧ OkS S H ∧ t ∉ S ∧ Dp K H v d ∧ Dp K H p e ∧ Tr rows ∧ rows.length ≤ 90000 ∧
  (∀ k o H', d = .int k → e = optD o → hasK rows d = true → (∀ q, o = some q → hasK rows (.int q) = true ∧ ∃ ps, Up rows q ps ∧ k ∉ ps) → Fr1 t H H' → TreeS K S C dx rest H' t (moveF rows k o) → Q .non H') ∧
  (hasK rows d = false → ErrIs A.c_NoKey "key" v H E) ∧ (hasK rows d = true → e ≠ .none → hasK rows e = false → ErrIs A.c_NoKey "key" p H E) ∧
  (∀ k q ps, d = .int k → e = .int q → hasK rows d = true → hasK rows e = true → Up rows q ps → k ∈ ps → RingIs A ps k H E)
theorem hasK_of {rows : List Row} {k : Int} (h1 : hasK rows (.int k) = true) {rows' : List Row} (h : k ∈ keysOf rows') : hasK rows' (.int k) = true := by
  obtain ⟨h2, _⟩ := Bool.and_eq_true_iff.mp (show ((decide (-bigK < k) && decide (k < bigK)) && decide (k ∈ keysOf rows)) = true from h1)
  show ((decide (-bigK < k) && decide (k < bigK)) && decide (k ∈ keysOf rows')) = true
  rw [h2, decide_eq_true h]
  rfl
theorem ok_T_move (T : Txt P K mg A) (hCT : ClsT K C) : FnOk P w K mg base (L2N.CX P w) 5 A.f_T_move A.d_T_move ["self", "key", "parent"] (spMove K A C) := by
  have G_place_of := ok_place_of (P := P) (w := w) (base := base) T
  have b_place_of := T.F_place_of.binds (ps := ["rows", "key"]) fun _ _ _ _ _ _ us hl => match us, hl with | [_, _], _ => rfl
  have G_end_of := ok_end_of (P := P) (w := w) (base := base) T
  have b_end_of := T.F_end_of.binds (ps := ["rows", "place"]) fun _ _ _ _ _ _ us hl => match us, hl with | [_, _], _ => rfl
  have G_path_up := ok_path_up (P := P) (w := w) (base := base) T
  have b_path_up := T.F_path_up.binds (ps := ["rows", "key"]) fun _ _ _ _ _ _ us hl => match us, hl with | [_, _], _ => rfl
  have G_landing := ok_landing (P := P) (w := w) (base := base) T
  have b_landing := T.F_landing.binds (ps := ["rows", "parent"]) fun _ _ _ _ _ _ us hl => match us, hl with | [_, _], _ => rfl
  refine T.F_T_move.okN sc_Tree_move (fun vs H Q E h => ?_) (fun cdv Ar outer s H vs Q E hr h => ?_)
  · obtain ⟨t, v, p, S, dx, rest, rows, d, e, rfl, _⟩ := h
    rfl
  · obtain ⟨t, v, p, S, dx, rest, rows, d, e, rfl, ⟨hrest, a, ht, hRS⟩, okS, ntS, hd, he, hT, hl, q, q1, q2, q3⟩ := h
    have hR : RowsAt K H a rows := rows_mono hid_same hRS
    have hu1 := hu65 hr
    refine ⟨_, (pss_cons (ps_set (i := 3) sc_Tree_move.nd rfl (by first | exact Or.inl rfl | exact Or.inr rfl) (pe_call G_place_of (hr.mono (by decide)) rfl T.g_place_of T.F_place_of.kp b_place_of .nil passD (pa_cons (Kx.pe_fld (K := K) rfl (pv 0) rfl) (pa_cons (pv 1) pa_nil))))
    (pss_consM (ps_if (pt_cmpR op_notN (pv 2) pe_non (nomark _)) (pss_cons (ps_set (i := 4) sc_Tree_move.nd rfl (by first | exact Or.inl rfl | exact Or.inr rfl) (pe_call G_path_up (hr.mono (by decide)) rfl T.g_path_up T.F_path_up.kp b_path_up .nil passD (pa_cons (Kx.pe_fld (K := K) rfl (pv 0) rfl) (pa_cons (pv 2) pa_nil))))
    (pss_one (ps_if (pt_cmpR (Kx.op_inD (K := K) rfl hu1) (pv 1) (pv 4) (by with_unfolding_all rfl)) (pss_one (ps_raise1 rfl T.X_Ring PySem.F.excBase_ValueError PySem.F.store_ValueError hr (L2N.takes_of rfl rfl rfl rfl) (pa_cons (pe_callTy (Kx.call_tuple_of (K := K) rfl) (by rfl) T.n_tuple (by decide +kernel) (pa_cons (pe_slice (Kx.sl_list (K := K) rfl) (pv 4) po_none (po_some (pe_op op_add (pe_bm PySem.F.plainAttrs_list PySem.F.slot_list_index PySem.F.type_list_index (Kx.mt_indexD (K := K) rfl hu1) (pv 4) (pa_cons (pv 1) pa_nil)) pe_int))) pa_nil)) pa_nil))) pss_nil))) pss_nil)
    (pss_cons (ps_set (i := 5) sc_Tree_move.nd rfl (by first | exact Or.inl rfl | exact Or.inr rfl) (pe_call G_end_of (hr.mono (by decide)) rfl T.g_end_of T.F_end_of.kp b_end_of .nil passD (pa_cons (Kx.pe_fld (K := K) rfl (pv 0) rfl) (pa_cons (pv 3) pa_nil))))
    (pss_cons (ps_set (i := 6) sc_Tree_move.nd rfl (by first | exact Or.inl rfl | exact Or.inr rfl) (pe_lst (pa_cons (pe_tup (pa_cons (pv 1) (pa_cons (pv 2) pa_nil))) (StX.pa_star (pe_slice (Kx.sl_list (K := K) rfl) (Kx.pe_fld (K := K) rfl (pv 0) rfl) (po_some (pe_op op_add (pv 3) pe_int)) (po_some (pv 5))) pa_nil))))
    (pss_cons (ps_set (i := 7) sc_Tree_move.nd rfl (by first | exact Or.inl rfl | exact Or.inr rfl) (pe_op op_cat (pe_slice (Kx.sl_list (K := K) rfl) (Kx.pe_fld (K := K) rfl (pv 0) rfl) po_none (po_some (pv 3))) (pe_slice (Kx.sl_list (K := K) rfl) (Kx.pe_fld (K := K) rfl (pv 0) rfl) (po_some (pv 5)) po_none)))
    (pss_cons (ps_set (i := 8) sc_Tree_move.nd rfl (by first | exact Or.inl rfl | exact Or.inr rfl) (pe_call G_landing (hr.mono (by decide)) rfl T.g_landing T.F_landing.kp b_landing .nil passD (pa_cons (pv 7) (pa_cons (pv 2) pa_nil))))
    (pss_one (Kx.ps_fld (K := K) rfl (pv 0) (pe_op op_cat (pe_op op_cat (pe_slice (Kx.sl_list (K := K) rfl) (pv 7) po_none (po_some (pv 8))) (pv 6)) (pe_slice (Kx.sl_list (K := K) rfl) (pv 7) (po_some (pv 8)) po_none)) rfl)))))))), ?_⟩
    try dsimp only [cxOf]
    rw [show L2.start ["self", "key", "parent", "start", "path", "end", "block", "others", "at"] [V.ref t, v, p] = [some (V.ref t), some (v), some (p), none, none, none, none, none, none] from rfl]
    walk_at "rd"
    refine ⟨a, v, rows, d, rfl, hR, hd, by omega, fun k H1 ed hk s1 => ?_, q1⟩
    subst ed
    have ev := dp_int hd
    subst ev
    walk_at "rd"
    refine Rd.seqM (fun σ H2 => ∃ u o, Same H H2 ∧ e = optD o ∧ (∀ q, o = some q → hasK rows (.int q) = true ∧ ∃ ps, Up rows q ps ∧ k ∉ ps) ∧ σ = [some (V.ref t), some (V.int k), some p, some (V.int (idxK rows k : Nat)), u, none, none, none, none]) (fun nx hnx => ?_) ?_
    · walk_at "rd"
      refine ite2 (fun h1 => ?_) (fun h1 => ?_)
      · have ne : e ≠ .none := fun z => by
          rw [(dp_non he).mpr z, decide_eq_true rfl] at h1
          cases h1
        walk_at "rd"
        refine ⟨a, p, rows, e, rfl, rows_mono s1 hR, dp_mono s1 he, hT, by omega, fun kq ps pp H2 eq hkq hup npp s2 hpp => ?_, fun z H2 D sD hD => q2 hk ne z _ _ (s1.trans sD) hD⟩
        subst eq
        have ep := dp_int he
        subst ep
        walk_at "rd"
        refine Rd.inD (.int k) (.lst (SqL.of hpp) (dpAll_ints _)) (shaped_int _) (shaped_ints _) ?_
        rw [any_ints]
        walk_at "rd"
        refine ite2 (fun h2 => ?_) (fun h2 => ?_)
        · have hin : k ∈ ps := of_decide_eq_true h2
          walk_at "rd"
          refine Rd.indexI (SqL.of hpp) hin ?_
          walk_at "rd"
          rename_i z Hz nz sz hz
          refine ⟨z, _, rfl, .inl ⟨SqL.of hz, fun T nT => ?_⟩⟩
          walk_at "rd"
          refine Rd.errA fun D HD nD sD hD => ?_
          refine q3 k kq ps rfl rfl hk hkq hup hin _ _ T (((s1.trans s2).trans sz).free nT) (((s1.trans s2).trans sz).trans ((same_upd nT).trans sD)) hD (sD _ _ ?_)
          rw [upd_same]
          have e1 : ((ps.idxOf k : Nat) : Int) + 1 = ((ps.idxOf k + 1 : Nat) : Int) := by omega
          rw [e1, cut_to, List.map_take]
        · have hno : k ∉ ps := fun z => h2 (decide_eq_true z)
          walk_at "rd"
          exact hnx _ _ ⟨_, some kq, s1.trans s2, rfl, (fun q z => by cases z; exact ⟨hkq, ps, hup, hno⟩), rfl⟩
      · have ne : e = .none := by
          refine (dp_non he).mp ?_
          by_cases z : p = .non
          · exact z
          · rw [decide_eq_false z] at h1
            exact absurd rfl h1
        walk_at "rd"
        exact hnx _ _ ⟨_, none, s1, ne, (fun q z => by cases z), rfl⟩
    · rintro σ H2 ⟨u, o, s2, eo, ho, rfl⟩
      walk_at "rd"
      subst eo
      have ep := dp_opt he
      subst ep
      have hkm := hasK_mem hk
      have hilt := idxK_lt hkm
      have hele := endF_le hilt
      have hegt := endF_gt (rows := rows) (p := idxK rows k)
      refine ⟨a, rows, idxK rows k, rfl, rows_mono s2 hR, hilt, by omega, fun H3 s3 => ?_⟩
      have s23 := s2.trans s3
      obtain ⟨xs, hS0, hXS⟩ := rows_mono (Same.hid s23) hRS
      have hS := hid_same.seq hS0
      have hX := dpAll_mono hid_same hXS
      have hlen : xs.length = rows.length := by rw [dpAll_len hX, List.length_map]
      walk_at "rd"
      rename_i b Hb nb sb hb qc Hc nc sc hc
      have e1 : ((idxK rows k : Nat) : Int) + 1 = ((idxK rows k + 1 : Nat) : Int) := by omega
      rw [e1, cut_mid (by omega) (by omega)] at hc
      rw [e1, cut_mid (by omega) (by omega)]
      refine Rd.newAt (by
        rw [List.length_cons, List.append_nil, List.length_take, List.length_drop]
        exact Nat.le_trans (by omega : _ ≤ 200001) (by decide)) fun B HB nB sB hB => ?_
      have hSB : SqL K HB a xs := ((sb.trans sc).trans sB).seq hS
      have htB : HB t = some (.ins C dx (("rows", .ref a) :: rest)) := sB _ _ (sc _ _ (sb _ _ (s23 _ _ ht)))
      walk_at "rd"
      rename_i q1a H1a n1a s1a h1a q1b H1b n1b s1b h1b
      rw [cut_to] at h1a
      rw [cut_from (by omega)] at h1b
      refine Rd.cat (s1b _ _ h1a) h1b (by
        rw [List.length_take, List.length_drop]
        exact Nat.le_trans (by omega : _ ≤ 200001) (by decide)) fun O HO_ nO sO hO => ?_
      have sBO : Same HB HO_ := (s1a.trans s1b).trans sO
      have sO_ : Same H HO_ := (((s23.trans sb).trans sc).trans sB).trans sBO
      have hXO : DpAll K HO_ xs (rows.map rowD) := dpAll_mono (((sb.trans sc).trans sB).trans sBO) hX
      have hXOS : DpAll K (hid S HO_) xs (rows.map rowD) := dpAll_mono (Same.hid (((sb.trans sc).trans sB).trans sBO)) hXS
      have nOS : O ∉ S := (okS.same (((((s23.trans sb).trans sc).trans sB).trans s1a).trans s1b)).new nO
      have hROS : RowsAt K (hid S HO_) O (othersF rows k) := by
        refine ⟨_, SqL.of ((hid_out nOS).trans hO), ?_⟩
        unfold othersF
        rw [List.map_append, List.map_take, List.map_drop]
        exact dpAll_app (dpAll_take _ hXOS) (dpAll_drop _ hXOS)
      have hRO : RowsAt K HO_ O (othersF rows k) := rows_mono hid_same hROS
      have hOl : (othersF rows k).length ≤ rows.length := by
        unfold othersF
        rw [List.length_append, List.length_take, List.length_drop]
        omega
      have hlandOk : ∀ q, o = some q → hasK (othersF rows k) (.int q) = true := fun q eq => by
        obtain ⟨h1, ps, hup, hno⟩ := ho q eq
        exact hasK_of h1 (others_key hT hkm hup hno)
      have hland : landF (othersF rows k) o ≤ (othersF rows k).length := landF_le fun q z => hasK_mem (hlandOk q z)
      walk_at "rd"
      refine ⟨O, optV o, othersF rows k, optD o, rfl, hRO, optV_dp o, by omega, fun o' H4 eo' ho' s4 => ?_, fun ne nh => ?_⟩
      · have eo2 : o' = o := by cases o <;> cases o' <;> first | rfl | (cases eo'; rfl) | cases eo'
        subst eo2
        obtain ⟨ys, hSO0, hYOS⟩ := rows_mono (Same.hid s4) hROS
        have hSO := hid_same.seq hSO0
        have hYO := dpAll_mono hid_same hYOS
        have hlenO : ys.length = (othersF rows k).length := by rw [dpAll_len hYO, List.length_map]
        have hB4 := s4 _ _ (sBO _ _ hB)
        have ht4 := s4 _ _ (sBO _ _ htB)
        have hb4 := s4 _ _ (sBO _ _ (sB _ _ (sc _ _ hb)))
        have hX4 := dpAll_mono s4 hXO
        have sH4 : Same H H4 := sO_.trans s4
        walk_at "rd"
        rename_i q2a H2a n2a s2a h2a
        rw [cut_to] at h2a
        refine Rd.cat h2a (s2a _ _ hB4) (by
          rw [List.length_take, List.length_cons, List.append_nil, List.length_take, List.length_drop]
          exact Nat.le_trans (by omega : _ ≤ 400001) (by decide)) fun C1 HC nC sC hC => ?_
        have hSOC : SqL K HC O ys := (s2a.trans sC).seq hSO
        walk_at "rd"
        rename_i q2b H2b n2b s2b h2b
        rw [cut_from (by omega)] at h2b
        refine Rd.cat (s2b _ _ hC) h2b (by
          rw [List.length_append, List.length_take, List.length_cons, List.append_nil, List.length_take, List.length_drop, List.length_drop]
          exact Nat.le_trans (by omega : _ ≤ 600001) (by decide)) fun Z HZ nZ sZ hZ => ?_
        have s4Z : Same H4 HZ := ((s2a.trans sC).trans s2b).trans sZ
        walk_at "rd"
        have sHZ : Same H HZ := sH4.trans s4Z
        refine Rd.sput (sHZ _ _ ht) hCT.k hCT.rows (Nat.lt_of_le_of_lt (Nat.succ_le_succ hrest.len) (by decide)) put_head fun H9 f9 e9 => ?_
        walk_at "rd"
        have nZS : Z ∉ S := (okS.same (sH4.trans ((s2a.trans sC).trans s2b))).new nZ
        have nbS : b ∉ S := (okS.same s23).new nb
        refine q k o' H9 rfl rfl hk (fun q z => by obtain ⟨h1, ps, hup, hno⟩ := ho q z; exact ⟨h1, ps, hup, hno⟩) ((Same.fr1 sHZ).trans f9) ⟨hrest, Z, e9, _, SqL.of ((hid_out nZS).trans <| f9 Z _ (fun e => by rw [e, sHZ _ _ ht] at hZ; cases hZ) hZ), ?_⟩
        have htZ := sHZ _ _ ht
        have htZS := (hid_out (H := HZ) ntS).trans htZ
        have hX9 := dpAll_fr1 (Fr1.hid (S := S) f9) htZS trivial (dpAll_mono (Same.hid (s4.trans s4Z)) hXOS)
        have hY9 := dpAll_fr1 (Fr1.hid (S := S) f9) htZS trivial (dpAll_mono (Same.hid s4Z) hYOS)
        have hb9 : SqT K (hid S H9) b [.int k, optV o'] := sqT_fr1 (Fr1.hid f9) htZS trivial (SqT.of ((hid_out nbS).trans (s4Z _ _ hb4)))
        unfold moveF blockF
        rw [List.map_append, List.map_append, List.map_take, List.map_cons, List.map_take, List.map_drop, List.map_drop, List.append_nil]
        exact dpAll_app (dpAll_app (dpAll_take _ hY9) (.cons (row_dp (r := (k, o')) hb9) (dpAll_take _ (dpAll_drop _ hX9)))) (dpAll_drop _ hY9)
      · obtain ⟨q0, eq0⟩ : ∃ q0, o = some q0 := by
          cases o with
          | none => exact absurd rfl ne
          | some q0 => exact ⟨q0, rfl⟩
        subst eq0
        have := hlandOk q0 rfl
        rw [show optD (some q0) = PyData.int q0 from rfl, this] at nh
        cases nh
end
end PR
end

section
set_option maxHeartbeats 4000000
namespace PR
open PySem L2 PySem.Spec PyProof.Rows PySem.EX
local macro_rules | `(tactic| walk_at "st") => `(tactic| first | exact setAt_z | exact setAt_s (by walk_at "st"))
local macro_rules | `(tactic| walk_at "rd1") => `(tactic| first
  | with_reducible refine Rd.seq ?_
  | with_reducible refine Rd.nxE ?_
  | with_reducible refine Rd.rtE ?_
  | with_reducible refine Rd.ctE ?_
  | with_reducible refine Rd.bkE ?_
  | with_reducible refine Rd.asg ?_
  | ((with_reducible refine' Rd.gname ?hs ?_); (case hs => walk_at "st"))
  | with_reducible refine Rd.ifS ?_
  | with_reducible refine Rd.ret ?_
  | with_reducible refine Rd.retN ?_
  | with_reducible refine Rd.drop ?_
  | with_reducible refine Rd.next ?_
  | ((with_reducible refine' Rd.var ?hv ?_); (case hv => exact rfl))
  | with_reducible refine Rd.c ?_
  | with_reducible refine Rd.op ?_
  | with_reducible refine Rd.un ?_
  | with_reducible refine Rd.neg ?_
  | with_reducible refine Rd.i0 ?_
  | with_reducible refine Rd.test ?_
  | with_reducible refine Rd.chain ?_
  | with_reducible refine Rd.tB ?_
  | with_reducible refine Rd.bl ?_
  | with_reducible refine Rd.not ?_
  | with_reducible refine Rd.and ?_
  | with_reducible refine Rd.or ?_
  | with_reducible refine Rd.andV ?_
  | with_reducible refine Rd.orV ?_
  | with_reducible refine Rd.notV ?_
  | with_reducible refine Rd.nilA ?_
  | with_reducible refine Rd.consA ?_
  | with_reducible refine Rd.cb ?_
  | with_reducible refine Rd.int1 ?_
  | with_reducible refine Rd.abs1 ?_
  | with_reducible refine Rd.gsub ?_
  | with_reducible refine Rd.tpar ?_
  | ((with_reducible refine' Rd.par ?hs ?ht ?_); (case hs => walk_at "st"); (case ht => walk_at "st"))
  | with_reducible refine Rd.ttup ?_
  | with_reducible refine Rd.tlst ?_
  | with_reducible refine Rd.isN ?_
  | with_reducible refine Rd.call ?_
  | with_reducible refine Rd.sl ?_
  | with_reducible refine Rd.noPart ?_
  | with_reducible refine Rd.part ?_
  | with_reducible refine Rd.ex_int ?_
  | with_reducible refine Rd.bm ?_
  | with_reducible refine Rd.tfld ?_
  | with_reducible refine Rd.tfor ?_
  | with_reducible refine Rd.tlc ?_
  | with_reducible refine Rd.mk1 ?_
  | with_reducible refine Rd.tdc ?_
  | with_reducible refine Rd.sfld ?_
  | with_reducible refine Rd.methP ?_
  | with_reducible refine Rd.xf ?_

  | with_reducible refine Rd.itemP ?_
  | with_reducible refine Rd.ost ?_
  | with_reducible refine Rd.enumT ?_
  | ((with_reducible refine' Rd.enumTAt ?h1 ?_); (case h1 => walk_at "lk"))
  | with_reducible refine Rd.meth ?_
  | with_reducible refine Rd.make ?_
  | with_reducible refine Rd.prop ?_
  | with_reducible refine Rd.item ?_
  | with_reducible refine Rd.sprop ?_
  | with_reducible refine Rd.star ?_
  | ((with_reducible refine' Rd.starL ?h1 ?_); (case h1 => walk_at "lk"))
  | with_reducible refine Rd.tdget ?_
  | ((with_reducible refine' Rd.fld ?h1 ?h2 ?h3 ?h4 ?_); (case h1 => walk_at "lk"); (case h2 => walk_at "cl"); (case h3 => walk_at "na"); (case h4 => walk_at "fl"))
  | ((with_reducible refine' Rd.ty ?h1 ?_); (case h1 => walk_at "lk"))
  | with_reducible refine Rd.tyes ?_
  | with_reducible refine Rd.noN ?_
  | with_reducible refine Rd.noNr ?_
  | with_reducible refine Rd.yesN ?_
  | with_reducible refine Rd.yesI ?_
  | with_reducible refine Rd.yesR ?_
  | with_reducible refine Rd.noNN ?_
  | with_reducible refine Rd.yes rfl ?_
  | with_reducible refine Rd.no Bool.false_ne_true ?_
  | ((with_reducible refine' Rd.wp ?h1 ?_); (case h1 => exact rfl))
  | ((with_reducible refine' Rd.isi ?h1 ?h2 ?_); (case h1 => walk_at "lk"); (case h2 => first | exact kit_int (dp_nodict (by assumption)) | exact kit_bool (dp_nodict (by assumption))))
  | with_reducible refine Rd.enum ?_
  | ((with_reducible refine' Rd.enumAt ?h1 ?_); (case h1 => walk_at "lk"))
  | with_reducible refine Rd.rng1 ?_
  | with_reducible refine Rd.rng2 ?_
  | with_reducible refine Rd.ilist ?_
  | with_reducible refine Rd.itup ?_
  | ((with_reducible refine' Rd.ilistAt ?h1 ?_); (case h1 => walk_at "lk"))
  | ((with_reducible refine' Rd.itupAt ?h1 ?_); (case h1 => walk_at "lk"))
  | ((with_reducible refine' Rd.slL ?h1 (fun q H1 nq sq hq => ?_)); (case h1 => walk_at "lk"))
  | with_reducible refine Rd.gcons ?_
  | with_reducible refine Rd.gnil ?_
  | ((with_reducible refine' Rd.gtup ?h1 ?h2 ?_); (case h1 => walk_at "lk"); (case h2 => exact rfl))
  | ((with_reducible refine' Rd.lenL ?h1 ?_); (case h1 => walk_at "lk"))
  | ((with_reducible refine' Rd.lenT ?h1 ?_); (case h1 => walk_at "lk"))
  | ((with_reducible refine' Rd.ixA ?h1 ?h2 ?_); (case h1 => walk_at "lk"); (case h2 => exact rfl))
  | ((with_reducible refine' Rd.ixB ?h1 ?h2 ?_); (case h1 => walk_at "lk"); (case h2 => exact rfl))
  | ((with_reducible refine' Rd.ixL ?h1 ?h2 ?_); (case h1 => walk_at "lk"); (case h2 => exact rfl))
  | ((with_reducible refine' Rd.newAt ?h1 (fun p H1 np sp hp => ?_)); (case h1 => exact sz_small (Nat.le_of_ble_eq_true rfl)))
  | ((with_reducible refine' Rd.ic ?h1 ?_); (case h1 => walk_at "sd"))
  | ((with_reducible refine' Rd.setL ?h1 ?h2 ?h3 ?_); (case h1 => walk_at "lk"); (case h2 => exact rfl); (case h3 => walk_at "st")))
local macro_rules | `(tactic| walk_at "rd") => `(tactic| repeat walk_at "rd1")
local macro_rules | `(tactic| walk_at "lk") => `(tactic| first
  | assumption
  | exact upd_same
  | exact SqL.of upd_same
  | exact SqT.of upd_same
  | exact SqL.of (by assumption)
  | exact SqT.of (by assumption)
  | ((with_reducible refine' same_get ?lks ?lkh); (case lks => assumption); (case lkh => walk_at "lk"))
  | ((with_reducible refine' Same.seq ?lks ?lkh); (case lks => assumption); (case lkh => walk_at "lk"))
  | ((with_reducible refine' sqT_mono ?lks ?lkh); (case lks => assumption); (case lkh => walk_at "lk"))
  | ((with_reducible refine' dp_mono ?lks ?lkh); (case lks => assumption); (case lkh => walk_at "lk")))
local macro_rules | `(tactic| walk_at "sd") => `(tactic| first
  | assumption
  | decide
  | omega
  | exact Or.inl ⟨by decide, by decide⟩
  | exact ⟨by decide, by decide, by decide⟩
  | exact Or.inr ⟨by decide, by decide⟩
  | exact wide_div (by decide) (by decide : _ < 2 ^ 200) (by decide) (by decide)
  | exact wide_div (by assumption) (by assumption : _ < 2 ^ 200) (by decide) (by decide))

local macro_rules | `(tactic| walk_at "cl") => `(tactic| first | exact ct_k (by assumption) | exact cl_Tree (by assumption) | exact cl_Spot (by assumption) | exact cl_Edit (by assumption))
local macro_rules | `(tactic| walk_at "na") => `(tactic| first | exact ct_rows (by assumption) | exact ct_left (by assumption) | exact na_rows (by assumption) | exact na_left (by assumption) | exact na_tree (by assumption) | exact na_key (by assumption) | exact na_etree (by assumption) | exact na_saved (by assumption))
local macro_rules | `(tactic| walk_at "fl") => `(tactic| first | exact lk_head | exact lk_second (by decide +kernel))
local macro_rules | `(tactic| walk_at "wi") => `(tactic| first | (simp only [wipe, List.map_cons, List.map_nil, List.set_cons_succ, List.set_cons_zero]; done) | (simp only [wipe, List.map_cons, List.map_nil, List.set_cons_succ, List.set_cons_zero]; exact rfl))

section
variable {P : Program} {w : World} {K : PySem.W.Frag} {mg : Str → Option Value} {base : Heap} {A : Ad} {C : Addr}
abbrev spotF (t : Addr) (v : V) : List (Str × V) := [("tree", .ref t), ("key", v)]
abbrev editF (t : Addr) (v : V) : List (Str × V) := [("tree", .ref t), ("saved", v)]
/-- a new instance: all else is as it was -/
theorem made_same {H H2 : Hp} {x dx : Addr} {o u : HO} (hx : H x = none) (hdx : H dx = none) (f : Fr1 x (upd (upd H dx o) x u) H2) : Same H H2 := fun b z e => by
  refine f b z (ne_of_none e hx) ?_
  rw [upd_ne (ne_of_none e hx), upd_ne (ne_of_none e hdx)]
  exact e
theorem n_m1 : ¬ (("rows" : Str) = "move") := by decide +kernel
theorem n_m2 : ("move" : Str) ≠ "left" := by decide +kernel
theorem n_m3 : ("move" : Str) ≠ "log" := by decide +kernel
def spEInit (A : Ad) : Sp := fun vs H Q _ => ∃ s t dx, vs = [.ref s, .ref t] ∧ H s = some (.ins A.c_Edit dx []) ∧ ∀ H' l, Fr1 s H H' → H' s = some (.ins A.c_Edit dx (editF t l)) → Q .non H'
theorem ok_E_init (T : Txt P K mg A) : FnOk P w K mg base (L2N.CX P w) 1 A.f_E_init A.d_E_init ["self", "tree"] (spEInit A) := by
  refine T.F_E_init.okN sc_Edit___init__ (fun vs H Q E h => ?_) (fun cdv Ar outer s H vs Q E hr h => ?_)
  · obtain ⟨s, t, dx, rfl, _⟩ := h
    rfl
  · obtain ⟨sp, t, dx, rfl, hs, q⟩ := h
    refine ⟨_, (pss_cons (Kx.ps_fld (K := K) rfl (pv 0) (pv 1) rfl)
    (pss_one (Kx.ps_fld (K := K) rfl (pv 0) (pe_lst pa_nil) rfl))), ?_⟩
    try dsimp only [cxOf]
    rw [show L2.start ["self", "tree"] [V.ref sp, V.ref t] = [some (V.ref sp), some (V.ref t)] from rfl]
    walk_at "rd"
    refine Rd.sput hs T.k_Edit T.a_etree (Nat.le_of_ble_eq_true rfl) (fs' := [("tree", .ref t)]) rfl fun H2 f2 e2 => ?_
    walk_at "rd"
    rename_i r H3 nr sr hr1
    refine Rd.sput (sr _ _ e2) T.k_Edit T.a_saved (Nat.le_of_ble_eq_true rfl) (put_tail n_ts) fun H4 f4 e4 => ?_
    walk_at "rd"
    exact q H4 (.ref r) ((f2.trans (Same.fr1 sr)).trans f4) e4
def spEnter (K : PySem.W.Frag) (A : Ad) (C : Addr) : Sp := fun vs H Q _ => ∃ s t l sx S dx rest rows, vs = [.ref s] ∧ H s = some (.ins A.c_Edit sx (editF t l)) ∧ TreeS K S C dx rest H t rows ∧ OkS S H ∧ s ∉ S ∧ ∀ H' b, H b = none → Fr1 s H H' → H' s = some (.ins A.c_Edit sx (editF t (.ref b))) → RowsAt K (hid S H') b rows → Q (.ref t) H'
theorem ok_E_enter (T : Txt P K mg A) (hCT : ClsT K C) : FnOk P w K mg base (L2N.CX P w) 1 A.f_E_enter A.d_E_enter ["self"] (spEnter K A C) := by
  refine T.F_E_enter.okN sc_Edit___enter__ (fun vs H Q E h => ?_) (fun cdv Ar outer s H vs Q E hr h => ?_)
  · obtain ⟨s, t, l, sx, S, dx, rest, rows, rfl, _⟩ := h
    rfl
  · obtain ⟨sp, t, l, sx, S, dx, rest, rows, rfl, hs, ⟨hrest, a, ht, hR⟩, okS, nsS, q⟩ := h
    refine ⟨_, (pss_cons (Kx.ps_fld (K := K) rfl (pv 0) (pe_callTy (Kx.call_list_of (K := K) rfl) (by rfl) T.n_list (by decide +kernel) (pa_cons (Kx.pe_fld (K := K) rfl (Kx.pe_fld (K := K) rfl (pv 0) rfl) rfl) pa_nil)) rfl)
    (pss_one (ps_ret (Kx.pe_fld (K := K) rfl (pv 0) rfl)))), ?_⟩
    try dsimp only [cxOf]
    rw [show L2.start ["self"] [V.ref sp] = [some (V.ref sp)] from rfl]
    obtain ⟨xs, hS, hX⟩ := hR
    walk_at "rd"
    refine ⟨a, xs, rfl, .inl (hid_same.seq hS), fun b hb => ?_⟩
    have nbS : b ∉ S := okS.new hb
    have sb : Same H (upd H b (.lst xs)) := same_upd hb
    have hbb : upd H b (.lst xs) b = some (.lst xs) := upd_same
    generalize upd H b (.lst xs) = H1 at sb hbb
    walk_at "rd"
    refine Rd.sput (sb _ _ hs) T.k_Edit T.a_saved (Nat.le_of_ble_eq_true rfl) ((put_tail n_ts).trans (congrArg _ put_head)) fun H2 f2 e2 => ?_
    walk_at "rd"
    have nbs : b ≠ sp := fun e => by rw [e, sb _ _ hs] at hbb; cases hbb
    refine q H2 b hb ((Same.fr1 sb).trans f2) e2 ⟨xs, SqL.of ((hid_out nbS).trans (f2 b _ nbs hbb)), ?_⟩
    exact dpAll_fr1 (Fr1.hid f2) ((hid_out nsS).trans (sb _ _ hs)) trivial (dpAll_mono (Same.hid sb) hX)
def spExit (K : PySem.W.Frag) (A : Ad) (C : Addr) : Sp := fun vs H Q _ => ∃ s k x y, vs = [.ref s, k, x, y] ∧ (k = .non → Q .non H) ∧ (k ≠ .non → ∃ sx t b dx r rest, H s = some (.ins A.c_Edit sx (editF t (.ref b))) ∧ H t = some (.ins C dx (("rows", r) :: rest)) ∧ rest.length ≤ 8 ∧
  ∀ H', Fr1 t H H' → H' t = some (.ins C dx (("rows", .ref b) :: rest)) → Q .non H')
theorem ok_E_exit (T : Txt P K mg A) (hCT : ClsT K C) : FnOk P w K mg base (L2N.CX P w) 1 A.f_E_exit A.d_E_exit ["self", "kind", "value", "trace"] (spExit K A C) ∧ FnM P w K mg base (L2.CX P w) 1 A.f_E_exit A.d_E_exit ["self", "kind", "value", "trace"] (spExit K A C) := by
  have len : ∀ vs H Q E, spExit K A C vs H Q E → vs.length = 4 := fun vs H Q E h => by
    obtain ⟨s, k, x, y, rfl, _⟩ := h
    rfl
  refine ⟨T.F_E_exit.okN sc_Edit___exit__ len (fun cdv Ar outer s H vs Q E hr h => ?_), T.F_E_exit.okM sc_Edit___exit__ len (fun cdv Ar outer s H vs Q E p hr h => ?_)⟩
  all_goals
    obtain ⟨sp, k, x, y, rfl, q1, q2⟩ := h
    refine ⟨_, (pss_one (ps_if (pt_cmpR op_notN (pv 1) pe_non (nomark _)) (pss_one (Kx.ps_fld (K := K) rfl (Kx.pe_fld (K := K) rfl (pv 0) rfl) (Kx.pe_fld (K := K) rfl (pv 0) rfl) rfl)) pss_nil)), ?_⟩
    try dsimp only [cxH, cxOf]
    rw [show L2.start ["self", "kind", "value", "trace"] [V.ref sp, k, x, y] = [some (V.ref sp), some (k), some (x), some (y)] from rfl]
    walk_at "rd"
    refine ite2 (fun h1 => ?_) (fun h1 => ?_)
    · have nk : k ≠ .non := fun z => by
        rw [z, decide_eq_true rfl] at h1
        cases h1
      obtain ⟨sx, t, b, dx, r, rest, hs, ht, hl, q⟩ := q2 nk
      walk_at "rd"
      refine Rd.sput ht hCT.k hCT.rows (Nat.lt_of_le_of_lt (Nat.succ_le_succ hl) (by decide)) put_head fun H2 f2 e2 => ?_
      walk_at "rd"
      exact q H2 f2 e2
    · have nk : k = .non := by
        by_cases z : k = .non
        · exact z
        · rw [decide_eq_false z] at h1
          exact absurd rfl h1
      walk_at "rd"
      exact q1 nk
def spTEdit (A : Ad) : Sp := fun vs H Q _ => ∃ t, vs = [.ref t] ∧ ∀ H' s sx l, H s = none → Same H H' → H' s = some (.ins A.c_Edit sx (editF t l)) → Q (.ref s) H'
theorem ok_T_edit (T : Txt P K mg A) : FnOk P w K mg base (L2N.CX P w) 4 A.f_T_edit A.d_T_edit ["self"] (spTEdit A) := by
  have G_E_init := ok_E_init (P := P) (w := w) (base := base) T
  have b_E_init := T.F_E_init.binds (ps := ["self", "tree"]) fun _ _ _ _ _ _ us hl => match us, hl with | [_, _], _ => rfl
  refine T.F_T_edit.okN sc_Tree_edit (fun vs H Q E h => ?_) (fun cdv Ar outer s H vs Q E hr h => ?_)
  · obtain ⟨t, rfl, _⟩ := h
    rfl
  · obtain ⟨t, rfl, q⟩ := h
    refine ⟨_, (pss_one (ps_ret (pe_make T.m_Edit G_E_init (hr.mono (by decide)) rfl T.g_Edit b_E_init .nil passD (pa_cons (pv 0) pa_nil)))), ?_⟩
    try dsimp only [cxOf]
    rw [show L2.start ["self"] [V.ref t] = [some (V.ref t)] from rfl]
    walk_at "rd"
    intro x dx' hx hdx hne
    refine ⟨x, t, dx', rfl, upd_same, fun H2 l f2 e2 => ⟨rfl, ?_⟩⟩
    exact q H2 x dx' l hx (made_same hx hdx f2) e2
end
end PR
end

section
set_option maxHeartbeats 4000000
namespace PR
open PySem L2 PySem.Spec PyProof.Rows PySem.EX NdefX
local macro_rules | `(tactic| walk_at "st") => `(tactic| first | with_reducible exact setAt_z | with_reducible exact setAt_s (by walk_at "st"))
local macro_rules | `(tactic| walk_at "rd1") => `(tactic| first
  | walk_at "sq"
  | with_reducible refine Rd.nxE ?_
  | with_reducible refine Rd.rtE ?_
  | with_reducible refine Rd.ctE ?_
  | with_reducible refine Rd.bkE ?_
  | with_reducible refine Rd.asg ?_
  | ((with_reducible refine' Rd.gnameW ?h0 ?hs ?_); (case h0 => walk_at "wi"); (case hs => walk_at "st"))
  | ((with_reducible refine' Rd.gname ?hs ?_); (case hs => walk_at "st"))
  | with_reducible refine Rd.ifS ?_
  | with_reducible refine Rd.ret ?_
  | with_reducible refine Rd.retN ?_
  | with_reducible refine Rd.drop ?_
  | with_reducible refine Rd.next ?_
  | ((with_reducible refine' Rd.var ?hv ?_); (case hv => exact rfl))
  | with_reducible refine Rd.c ?_
  | with_reducible refine Rd.op ?_
  | with_reducible refine Rd.un ?_
  | with_reducible refine Rd.neg ?_
  | with_reducible refine Rd.i0 ?_
  | with_reducible refine Rd.test ?_
  | with_reducible refine Rd.chain ?_
  | with_reducible refine Rd.tB ?_
  | with_reducible refine Rd.bl ?_
  | with_reducible refine Rd.not ?_
  | with_reducible refine Rd.and ?_
  | with_reducible refine Rd.or ?_
  | with_reducible refine Rd.andV ?_
  | with_reducible refine Rd.orV ?_
  | with_reducible refine Rd.notV ?_
  | with_reducible refine Rd.nilA ?_
  | with_reducible refine Rd.consA ?_
  | with_reducible refine Rd.cb ?_
  | with_reducible refine Rd.int1 ?_
  | with_reducible refine Rd.abs1 ?_
  | with_reducible refine Rd.gsub ?_
  | with_reducible refine Rd.tpar ?_
  | ((with_reducible refine' Rd.par ?hs ?ht ?_); (case hs => walk_at "st"); (case ht => walk_at "st"))
  | with_reducible refine Rd.ttup ?_
  | with_reducible refine Rd.tlst ?_
  | with_reducible refine Rd.isN ?_
  | with_reducible refine Rd.call ?_
  | with_reducible refine Rd.sl ?_
  | with_reducible refine Rd.noPart ?_
  | with_reducible refine Rd.part ?_
  | with_reducible refine Rd.ex_int ?_
  | with_reducible refine Rd.bm ?_
  | with_reducible refine Rd.tfld ?_
  | with_reducible refine Rd.tforT fun TB hTB => ?_
  | with_reducible refine Rd.tlc ?_
  | with_reducible refine Rd.mk1 ?_
  | with_reducible refine Rd.tdc ?_
  | with_reducible refine Rd.sfld ?_
  | with_reducible refine Rd.methP ?_
  | with_reducible refine Rd.xf ?_

  | with_reducible refine Rd.itemP ?_
  | with_reducible refine Rd.ost ?_
  | with_reducible refine Rd.enumT ?_
  | ((with_reducible refine' Rd.enumTAt ?h1 ?_); (case h1 => walk_at "lk"))
  | with_reducible refine Rd.meth ?_
  | with_reducible refine Rd.make ?_
  | with_reducible refine Rd.prop ?_
  | with_reducible refine Rd.item ?_
  | with_reducible refine Rd.sprop ?_
  | with_reducible refine Rd.star ?_
  | ((with_reducible refine' Rd.starL ?h1 ?_); (case h1 => walk_at "lk"))
  | with_reducible refine Rd.tdget ?_
  | ((with_reducible refine' Rd.fld ?h1 ?h2 ?h3 ?h4 ?_); (case h1 => walk_at "lk"); (case h2 => walk_at "cl"); (case h3 => walk_at "na"); (case h4 => walk_at "fl"))
  | ((with_reducible refine' Rd.ty ?h1 ?_); (case h1 => walk_at "lk"))
  | with_reducible refine Rd.tyes ?_
  | with_reducible refine Rd.noN ?_
  | with_reducible refine Rd.noNr ?_
  | with_reducible refine Rd.yesN ?_
  | with_reducible refine Rd.yesI ?_
  | with_reducible refine Rd.yesR ?_
  | with_reducible refine Rd.noNN ?_
  | with_reducible refine Rd.yes rfl ?_
  | with_reducible refine Rd.no Bool.false_ne_true ?_
  | ((with_reducible refine' Rd.wp ?h1 ?_); (case h1 => exact rfl))
  | ((with_reducible refine' Rd.isi ?h1 ?h2 ?_); (case h1 => walk_at "lk"); (case h2 => first | exact kit_int (dp_nodict (by with_reducible assumption)) | exact kit_bool (dp_nodict (by with_reducible assumption))))
  | with_reducible refine Rd.enum ?_
  | ((with_reducible refine' Rd.enumAt ?h1 ?_); (case h1 => walk_at "lk"))
  | with_reducible refine Rd.rng1 ?_
  | with_reducible refine Rd.rng2 ?_
  | with_reducible refine Rd.ilist ?_
  | with_reducible refine Rd.itup ?_
  | ((with_reducible refine' Rd.ilistAt ?h1 ?_); (case h1 => walk_at "lk"))
  | ((with_reducible refine' Rd.itupAt ?h1 ?_); (case h1 => walk_at "lk"))
  | ((with_reducible refine' Rd.slL ?h1 (fun q H1 nq sq hq => ?_)); (case h1 => walk_at "lk"))
  | with_reducible refine Rd.gcons ?_
  | with_reducible refine Rd.gnil ?_
  | ((with_reducible refine' Rd.gtup ?h1 ?h2 ?_); (case h1 => walk_at "lk"); (case h2 => exact rfl))
  | ((with_reducible refine' Rd.lenL ?h1 ?_); (case h1 => walk_at "lk"))
  | ((with_reducible refine' Rd.lenT ?h1 ?_); (case h1 => walk_at "lk"))
  | ((with_reducible refine' Rd.ixA ?h1 ?h2 ?_); (case h1 => walk_at "lk"); (case h2 => exact rfl))
  | ((with_reducible refine' Rd.ixB ?h1 ?h2 ?_); (case h1 => walk_at "lk"); (case h2 => exact rfl))
  | ((with_reducible refine' Rd.ixL ?h1 ?h2 ?_); (case h1 => walk_at "lk"); (case h2 => exact rfl))
  | ((with_reducible refine' Rd.newAt ?h1 (fun p H1 np sp hp => ?_)); (case h1 => exact sz_small (Nat.le_of_ble_eq_true rfl)))
  | ((with_reducible refine' Rd.ic ?h1 ?_); (case h1 => walk_at "sd"))
  | ((with_reducible refine' Rd.setL ?h1 ?h2 ?h3 ?_); (case h1 => walk_at "lk"); (case h2 => exact rfl); (case h3 => walk_at "st")))
local macro_rules | `(tactic| walk_at "rd") => `(tactic| repeat walk_at "rd1")
local macro_rules | `(tactic| walk_at "lk") => `(tactic| first
  | with_reducible assumption
  | exact upd_same
  | exact SqL.of upd_same
  | exact SqT.of upd_same
  | exact SqL.of (by with_reducible assumption)
  | exact SqT.of (by with_reducible assumption)
  | ((with_reducible refine' same_get ?lks ?lkh); (case lks => with_reducible assumption); (case lkh => walk_at "lk"))
  | ((with_reducible refine' Same.seq ?lks ?lkh); (case lks => with_reducible assumption); (case lkh => walk_at "lk"))
  | ((with_reducible refine' sqT_mono ?lks ?lkh); (case lks => with_reducible assumption); (case lkh => walk_at "lk"))
  | ((with_reducible refine' dp_mono ?lks ?lkh); (case lks => with_reducible assumption); (case lkh => walk_at "lk")))
local macro_rules | `(tactic| walk_at "sd") => `(tactic| first
  | with_reducible assumption
  | decide
  | omega
  | exact Or.inl ⟨by decide, by decide⟩
  | exact ⟨by decide, by decide, by decide⟩
  | exact Or.inr ⟨by decide, by decide⟩
  | exact Or.inl ⟨by omega, by omega⟩
  | exact wide_div (by decide) (by decide : _ < 2 ^ 200) (by decide) (by decide)
  | exact wide_div (by with_reducible assumption) (by assumption : _ < 2 ^ 200) (by decide) (by decide))

local macro_rules | `(tactic| walk_at "cl") => `(tactic| first | exact ct_k (by with_reducible assumption) | exact cl_Tree (by with_reducible assumption) | exact cl_Spot (by with_reducible assumption) | exact cl_Edit (by with_reducible assumption))
local macro_rules | `(tactic| walk_at "na") => `(tactic| first | exact ct_rows (by with_reducible assumption) | exact ct_left (by with_reducible assumption) | exact na_rows (by with_reducible assumption) | exact na_left (by with_reducible assumption) | exact na_tree (by with_reducible assumption) | exact na_key (by with_reducible assumption) | exact na_etree (by with_reducible assumption) | exact na_saved (by with_reducible assumption))
local macro_rules | `(tactic| walk_at "fl") => `(tactic| first | exact lk_head | exact lk_second (by decide +kernel))
local macro_rules | `(tactic| walk_at "wi") => `(tactic| first | (simp only [wipe, List.map_cons, List.map_nil, List.set_cons_succ, List.set_cons_zero]; done) | (simp only [wipe, List.map_cons, List.map_nil, List.set_cons_succ, List.set_cons_zero]; exact rfl))

set_option hygiene false in
local macro_rules | `(tactic| walk_at "sq") => `(tactic| with_reducible refine Rd.seqT fun S2 hS2 => ?_)
set_option hygiene false in
local macro_rules | `(tactic| walk_at "nx") => `(tactic| subst hS2)

section
variable {P : Program} {w : World} {K : PySem.W.Frag} {mg : Str → Option Value} {base : Heap} {A : Ad} {C : Addr}
theorem bind_put (T : Txt P K mg A) : Binds K A.d_T_put ["self", "key", "parent"] [] := by
  obtain ⟨ds, hv, hb⟩ := T.F_T_put.binds1 (ps := ["self", "key", "parent"]) 3 1 (by simp) rfl (fun TT kV doc pm an cdv ct us its h1 h2 => match us, its, h1, h2 with | [_, _, _], [_], _, _ => ⟨_, rfl, rfl⟩)
  cases hv
  exact hb
theorem rest_log (l g : V) : RestOk [("left", l), ("log", g)] := ⟨(by decide : 2 ≤ 8), fun m h1 h2 => by rw [lk_tail (fun e => h1 e.symm), lk_tail (fun e => h2 e.symm)]; rfl⟩
theorem n_rg : ¬ (("rows" : Str) = "log") := by decide +kernel
theorem n_lg : ¬ (("left" : Str) = "log") := by decide +kernel
theorem Rd.sup {sp : Sp} {E : XK} {t : TA} {σ : L2.St} {H : Hp} {Q : VK} {a dx : Addr} {fs : List (Str × V)} (ea : σ[0]? = some (some (.ref a))) (hH : H a = some (.ins C dx fs)) (h : t σ H fun vs H2 => sp (.ref a :: vs) H2 Q E) : tSup C sp E t σ H Q := ⟨a, dx, fs, ea, hH, h⟩
theorem passU {N : List Str} {F : NF} {f : Addr} {Ar : Around} {outer : List Env} {s : Shared} {H : Hp} {E : XK} : Passes (L2N.CX P w) (ncx (L2N.CX P w) P w K mg base N F f Ar outer s H E) E := L2N.passes_call (L2N.takes_of rfl rfl rfl rfl) fun _ _ _ _ h => h
theorem ns_L_init : NScope ["self", "__class__"] ["self"] ["__class__"] (defScope s_LoggedTree___init__) := nscope_by (by decide +kernel)
theorem ns_L_put : NScope ["self", "key", "parent", "__class__"] ["self", "key", "parent"] ["__class__"] (defScope s_LoggedTree_put) := nscope_by (by decide +kernel)
theorem ns_L_move : NScope ["self", "key", "parent", "__class__"] ["self", "key", "parent"] ["__class__"] (defScope s_LoggedTree_move) := nscope_by (by decide +kernel)
/-- a logged tree, its log told; what is told does not lean on the places S, and the log is one of these -/
def LogAt (K : PySem.W.Frag) (S : List Addr) (C dx : Addr) (l : V) (g : Addr) (H : Hp) (t : Addr) (rows : List Row) (log : List PyData) : Prop :=
  TreeS K S C dx [("left", l), ("log", .ref g)] H t rows ∧ OkS S H ∧ t ∉ S ∧ g ∈ S ∧ ∃ xs, H g = some (.lst xs) ∧ DpAll K (hid S H) xs log
theorem same_hid_cons {S : List Addr} {H H' : Hp} {g : Addr} (n : H g = none) (s : Same H H') : Same (hid S H) (hid (g :: S) H') := fun b o e => by
  obtain ⟨e1, e2⟩ := hid_some e
  rw [hid_out (fun z => by
    rcases List.mem_cons.mp z with z | z
    · rw [z, n] at e1
      cases e1
    · exact e2 z)]
  exact s b o e1
def spLInit (K : PySem.W.Frag) (C : Addr) : Sp := fun vs H Q _ => ∃ t dx S, vs = [.ref t] ∧ H t = some (.ins C dx []) ∧ OkS S H ∧ t ∉ S ∧ ∀ H' z g, Fr1 t H H' → H z = none → H' z = some (.lst []) → H g = none → LogAt K (g :: S) C dx (.ref z) g H' t [] [] → Q .non H'
theorem ok_L_init (T : Txt P K mg A) : FnOk P w K mg base (L2N.CX P w) 2 A.f_L_init A.d_L_init ["self"] (spLInit K A.c_Log) := by
  have R := (ok_T_init (P := P) (w := w) (base := base) T T.ct_Log).raw (T.F_T_init.binds (ps := ["self"]) fun _ _ _ _ _ _ us hl => match us, hl with | [_], _ => rfl) .nil
  refine T.F_L_init.ok ns_L_init (fun vs H Q E h => ?_) (fun Ar outer s H vs Q E hr h => ?_)
  · obtain ⟨t, dx, S, rfl, _⟩ := h
    rfl
  · obtain ⟨t, dx, S, rfl, ht, okS, ntS, q⟩ := h
    have hCT := T.ct_Log
    refine ⟨_, pssu_cons (psu_expr (peu_super0 T.F_L_init ⟨rfl, rfl, rfl, rfl, rfl, rfl, rfl⟩ T.n_super T.sp_init R hr passU)) (pssu_of (pss_one (Kx.ps_fld (K := K) rfl (pv 0) (pe_lst pa_nil) rfl))), ?_⟩
    try dsimp only [ncx]
    rw [show startF ["self", "__class__"] [V.ref t] [none] = [some (V.ref t), none] from rfl]
    walk_at "rd"
    refine Rd.sup rfl ht (Rd.nilA ?_)
    refine ⟨t, dx, S, rfl, ht, okS, ntS, fun H1 z f1 nz hz hT1 => ?_⟩
    obtain ⟨hrest, a1, ht1, hR1⟩ := id hT1
    walk_at "nx"
    walk_at "rd"
    rename_i g H2 ng sg hg
    refine Rd.sput (sg _ _ ht1) hCT.k T.a_log (Nat.le_of_ble_eq_true rfl) ((put_tail n_rg).trans (congrArg _ (put_tail n_lg))) fun H3 f3 e3 => ?_
    walk_at "rd"
    have ngt : g ≠ t := fun e => by rw [e, ht1] at ng; cases ng
    have nzt : z ≠ t := fun e => by rw [e, ht] at nz; cases nz
    have hg3 := f3 g _ ngt hg
    have ng0 : H g = none := by
      cases z : H g with
      | none => rfl
      | some o => rw [f1 g o ngt z] at ng; cases ng
    have fr := f1.trans ((Same.fr1 sg).trans f3)
    have ok1 : OkS S H1 := okS.fr1 f1 ⟨_, ht1⟩
    have nt3 : t ∉ g :: S := by simpa using ⟨ngt.symm, ntS⟩
    have sh := same_hid_cons (S := S) ng sg
    refine q H3 z g fr nz (f3 z _ nzt (sg _ _ hz)) ng0 ⟨⟨rest_log _ _, a1, e3, rows_fr1 (Fr1.hid f3) ((hid_out nt3).trans (sg _ _ ht1)) trivial (rows_mono sh hR1)⟩, ((ok1.same sg).cons hg).fr1 f3 ⟨_, e3⟩, nt3, List.mem_cons_self, [], hg3, .nil⟩
theorem sc_LoggedTree_put : NScope ["self", "key", "parent", "__class__"] ["self", "key", "parent"] ["__class__"] (defScope s_LoggedTree_put) := ns_L_put
theorem sc_LoggedTree_move : NScope ["self", "key", "parent", "__class__"] ["self", "key", "parent"] ["__class__"] (defScope s_LoggedTree_move) := ns_L_move
def entryD (w : Str) (k : Int) (o : Option Int) : PyData := .tuple [.str w, .int k, optD o]
/-- a good one, the log written; and the errors: nothing is changed -/
def spLPut (K : PySem.W.Frag) (A : Ad) (C : Addr) : Sp := fun vs H Q E => ∃ t v p S dx l g rows log d e, vs = [.ref t, v, p] ∧ LogAt K S C dx l g H t rows log ∧ Dp K H v d ∧ Dp K H p e ∧ rows.length ≤ 90000 ∧ log.length ≤ 100000 ∧
  (∀ k o H', d = .int k → e = optD o → keyD d = true → hasK rows d = false → (∀ q, o = some q → hasK rows (.int q) = true) → Fr [t, g] H H' → LogAt K S C dx l g H' t (putR rows k o) (log ++ [entryD "put" k o]) → Q .non H') ∧
  (keyD d = false → ErrIs A.c_BadKey "key" v H E) ∧ (hasK rows d = true → ErrIs A.c_KeyThere "key" v H E) ∧ (keyD d = true → hasK rows d = false → e ≠ .none → hasK rows e = false → ErrIs A.c_NoKey "key" p H E)
def spLMove (K : PySem.W.Frag) (A : Ad) (C : Addr) : Sp := fun vs H Q E => ∃ t v p S dx l g rows log d e, vs = [.ref t, v, p] ∧ LogAt K S C dx l g H t rows log ∧ Dp K H v d ∧ Dp K H p e ∧ Tr rows ∧ rows.length ≤ 90000 ∧ log.length ≤ 100000 ∧
  (∀ k o H', d = .int k → e = optD o → hasK rows d = true → (∀ q, o = some q → hasK rows (.int q) = true ∧ ∃ ps, Up rows q ps ∧ k ∉ ps) → Fr [t, g] H H' → LogAt K S C dx l g H' t (moveF rows k o) (log ++ [entryD "move" k o]) → Q .non H') ∧
  (hasK rows d = false → ErrIs A.c_NoKey "key" v H E) ∧ (hasK rows d = true → e ≠ .none → hasK rows e = false → ErrIs A.c_NoKey "key" p H E) ∧
  (∀ k q ps, d = .int k → e = .int q → hasK rows d = true → hasK rows e = true → Up rows q ps → k ∈ ps → RingIs A ps k H E)
theorem lk_log {r l g : V} : List.lookup ("log" : Str) [("rows", r), ("left", l), ("log", g)] = some g := (lk_tail n_rg).trans ((lk_tail n_lg).trans lk_head)
theorem LogAt.mono {S : List Addr} {dx : Addr} {l : V} {g : Addr} {H H' : Hp} {t : Addr} {rows : List Row} {log : List PyData} (h : LogAt K S C dx l g H t rows log) (s : Same H H') : LogAt K S C dx l g H' t rows log := by
  obtain ⟨h1, ok, nt, m, xs, hg, hx⟩ := h
  exact ⟨h1.mono s, ok.same s, nt, m, xs, s _ _ hg, dpAll_mono (Same.hid s) hx⟩
/-- one more entry is written -/
theorem LogAt.push {S : List Addr} {dx : Addr} {l : V} {g b : Addr} {H : Hp} {t : Addr} {rows : List Row} {log : List PyData} {xs : List V} {w : Str} {k : Int} {o : Option Int} (hS : TreeS K S C dx [("left", l), ("log", .ref g)] H t rows) (ok : OkS S H) (nt : t ∉ S) (m : g ∈ S) (hx : DpAll K (hid S H) xs log)
    (nb : b ∉ S) (hb : H b = some (.tup [.str w, .int k, optV o])) : LogAt K S C dx l g (upd H g (.lst (xs ++ [.ref b]))) t rows (log ++ [entryD w k o]) := by
  have e : hid S (upd H g (.lst (xs ++ [.ref b]))) = hid S H := hid_mut m
  obtain ⟨hrest, a, ht, hR⟩ := hS
  refine ⟨⟨hrest, a, by rw [upd_ne (fun z => nt (by rw [z]; exact m))]; exact ht, by rw [e]; exact hR⟩, ok.upd, nt, m, _, upd_same, ?_⟩
  rw [e]
  exact dpAll_snoc hx (.tup (SqT.of ((hid_out nb).trans hb)) (.cons (.str _) (.cons (.int _) (.cons (optV_dp o) .nil))))
theorem ok_L_put (T : Txt P K mg A) : FnOk P w K mg base (L2N.CX P w) 6 A.f_L_put A.d_L_put ["self", "key", "parent"] (spLPut K A A.c_Log) := by
  have R := (ok_T_put (P := P) (w := w) (base := base) T T.ct_Log).raw (bind_put T) .nil
  refine T.F_L_put.ok ns_L_put (fun vs H Q E h => ?_) (fun Ar outer s H vs Q E hr h => ?_)
  · obtain ⟨t, v, p, S, dx, l, g, rows, log, d, e, rfl, _⟩ := h
    rfl
  · obtain ⟨t, v, p, S, dx, l, g, rows, log, d, e, rfl, ⟨hS, okS, ntS, hgS, xs, hg, hx⟩, hd, he, hl, hll, q, q1, q2, q3⟩ := h
    have hCT := T.ct_Log
    refine ⟨_, pssu_cons (psu_expr (peu_super T.F_L_put ⟨rfl, rfl, rfl, rfl, rfl, rfl, rfl⟩ T.n_super T.sp_put R hr passU (pa_cons (pv 1) (pa_cons (pv 2) pa_nil)))) (pssu_of (pss_one (ps_expr (pe_bm PySem.F.plainAttrs_list PySem.F.slot_list_append PySem.F.type_list_append mt_append (Kx.pe_fld (K := K) rfl (pv 0) rfl) (pa_cons (pe_tup (pa_cons pe_str (pa_cons (pv 1) (pa_cons (pv 2) pa_nil)))) pa_nil))))), ?_⟩
    try dsimp only [ncx]
    rw [show startF ["self", "key", "parent", "__class__"] [V.ref t, v, p] [none] = [some (V.ref t), some v, some p, none] from rfl]
    obtain ⟨hrest, a, ht, hR⟩ := id hS
    have ngt : g ≠ t := fun z => ntS (by rw [← z]; exact hgS)
    walk_at "rd"
    refine Rd.sup rfl ht ?_
    walk_at "rd"
    refine ⟨t, v, p, S, dx, _, rows, d, e, rfl, hS, okS, ntS, hd, he, hl, fun k o H1 ed eo kd hk ho f1 hS1 => ?_, q1, q2, q3⟩
    have hg1 := f1 g _ ngt hg
    have ev := by rw [ed] at hd; exact dp_int hd
    subst ev
    have ep := by rw [eo] at he; exact dp_opt he
    subst ep
    obtain ⟨hrest1, a1, ht1, hR1⟩ := id hS1
    walk_at "nx"
    walk_at "rd"
    refine Rd.fld ht1 hCT.k T.a_log lk_log (Rd.ty (SqL.of hg1) ?_)
    walk_at "rd"
    rename_i b H2 nb sb hb
    have ok1 : OkS S H1 := okS.fr1 f1 ⟨_, ht1⟩
    have nbS : b ∉ S := ok1.new nb
    have hx2 : DpAll K (hid S H2) xs log := dpAll_mono (Same.hid sb) (dpAll_fr1 (Fr1.hid f1) ((hid_out ntS).trans ht) trivial hx)
    have hxl : xs.length = log.length := dpAll_len hx
    refine Rd.app (sb _ _ hg1) (by rw [hxl]; exact Nat.lt_of_le_of_lt hll (by decide)) ?_
    walk_at "rd"
    refine q k o _ ed eo kd hk ho (fun c u n e => ?_) (LogAt.push (hS1.mono sb) (ok1.same sb) ntS hgS hx2 nbS hb)
    rw [upd_ne (fun z => n (by rw [z]; simp))]
    exact sb c u (f1 c u (fun z => n (by rw [z]; simp)) e)
theorem ok_L_move (T : Txt P K mg A) : FnOk P w K mg base (L2N.CX P w) 6 A.f_L_move A.d_L_move ["self", "key", "parent"] (spLMove K A A.c_Log) := by
  have R := (ok_T_move (P := P) (w := w) (base := base) T T.ct_Log).raw (T.F_T_move.binds (ps := ["self", "key", "parent"]) fun _ _ _ _ _ _ us hl => match us, hl with | [_, _, _], _ => rfl) .nil
  refine T.F_L_move.ok ns_L_move (fun vs H Q E h => ?_) (fun Ar outer s H vs Q E hr h => ?_)
  · obtain ⟨t, v, p, S, dx, l, g, rows, log, d, e, rfl, _⟩ := h
    rfl
  · obtain ⟨t, v, p, S, dx, l, g, rows, log, d, e, rfl, ⟨hS, okS, ntS, hgS, xs, hg, hx⟩, hd, he, htr, hl, hll, q, q1, q2, q3⟩ := h
    have hCT := T.ct_Log
    refine ⟨_, pssu_cons (psu_expr (peu_super T.F_L_move ⟨rfl, rfl, rfl, rfl, rfl, rfl, rfl⟩ T.n_super T.sp_move R hr passU (pa_cons (pv 1) (pa_cons (pv 2) pa_nil)))) (pssu_of (pss_one (ps_expr (pe_bm PySem.F.plainAttrs_list PySem.F.slot_list_append PySem.F.type_list_append mt_append (Kx.pe_fld (K := K) rfl (pv 0) rfl) (pa_cons (pe_tup (pa_cons pe_str (pa_cons (pv 1) (pa_cons (pv 2) pa_nil)))) pa_nil))))), ?_⟩
    try dsimp only [ncx]
    rw [show startF ["self", "key", "parent", "__class__"] [V.ref t, v, p] [none] = [some (V.ref t), some v, some p, none] from rfl]
    obtain ⟨hrest, a, ht, hR⟩ := id hS
    have ngt : g ≠ t := fun z => ntS (by rw [← z]; exact hgS)
    walk_at "rd"
    refine Rd.sup rfl ht ?_
    walk_at "rd"
    refine ⟨t, v, p, S, dx, _, rows, d, e, rfl, hS, okS, ntS, hd, he, htr, hl, fun k o H1 ed eo hk ho f1 hS1 => ?_, q1, q2, q3⟩
    have hg1 := f1 g _ ngt hg
    have ev := by rw [ed] at hd; exact dp_int hd
    subst ev
    have ep := by rw [eo] at he; exact dp_opt he
    subst ep
    obtain ⟨hrest1, a1, ht1, hR1⟩ := id hS1
    walk_at "nx"
    walk_at "rd"
    refine Rd.fld ht1 hCT.k T.a_log lk_log (Rd.ty (SqL.of hg1) ?_)
    walk_at "rd"
    rename_i b H2 nb sb hb
    have ok1 : OkS S H1 := okS.fr1 f1 ⟨_, ht1⟩
    have nbS : b ∉ S := ok1.new nb
    have hx2 : DpAll K (hid S H2) xs log := dpAll_mono (Same.hid sb) (dpAll_fr1 (Fr1.hid f1) ((hid_out ntS).trans ht) trivial hx)
    have hxl : xs.length = log.length := dpAll_len hx
    refine Rd.app (sb _ _ hg1) (by rw [hxl]; exact Nat.lt_of_le_of_lt hll (by decide)) ?_
    walk_at "rd"
    refine q k o _ ed eo hk ho (fun c u n e => ?_) (LogAt.push (hS1.mono sb) (ok1.same sb) ntS hgS hx2 nbS hb)
    rw [upd_ne (fun z => n (by rw [z]; simp))]
    exact sb c u (f1 c u (fun z => n (by rw [z]; simp)) e)
end
end PR
end

section
set_option maxHeartbeats 4000000
namespace PR
open PySem L2 PySem.Spec PyProof.Rows PySem.EX
local macro_rules | `(tactic| walk_at "st") => `(tactic| first | exact setAt_z | exact setAt_s (by walk_at "st"))
local macro_rules | `(tactic| walk_at "rd1") => `(tactic| first
  | with_reducible refine Rd.seq ?_
  | with_reducible refine Rd.nxE ?_
  | with_reducible refine Rd.rtE ?_
  | with_reducible refine Rd.ctE ?_
  | with_reducible refine Rd.bkE ?_
  | with_reducible refine Rd.asg ?_
  | ((with_reducible refine' Rd.gname ?hs ?_); (case hs => walk_at "st"))
  | with_reducible refine Rd.ifS ?_
  | with_reducible refine Rd.ret ?_
  | with_reducible refine Rd.retN ?_
  | with_reducible refine Rd.drop ?_
  | with_reducible refine Rd.next ?_
  | ((with_reducible refine' Rd.var ?hv ?_); (case hv => exact rfl))
  | with_reducible refine Rd.c ?_
  | with_reducible refine Rd.op ?_
  | with_reducible refine Rd.un ?_
  | with_reducible refine Rd.neg ?_
  | with_reducible refine Rd.i0 ?_
  | with_reducible refine Rd.test ?_
  | with_reducible refine Rd.chain ?_
  | with_reducible refine Rd.tB ?_
  | with_reducible refine Rd.bl ?_
  | with_reducible refine Rd.not ?_
  | with_reducible refine Rd.and ?_
  | with_reducible refine Rd.or ?_
  | with_reducible refine Rd.andV ?_
  | with_reducible refine Rd.orV ?_
  | with_reducible refine Rd.notV ?_
  | with_reducible refine Rd.nilA ?_
  | with_reducible refine Rd.consA ?_
  | with_reducible refine Rd.cb ?_
  | with_reducible refine Rd.int1 ?_
  | with_reducible refine Rd.abs1 ?_
  | with_reducible refine Rd.gsub ?_
  | with_reducible refine Rd.tpar ?_
  | ((with_reducible refine' Rd.par ?hs ?ht ?_); (case hs => walk_at "st"); (case ht => walk_at "st"))
  | with_reducible refine Rd.ttup ?_
  | with_reducible refine Rd.tlst ?_
  | with_reducible refine Rd.isN ?_
  | with_reducible refine Rd.call ?_
  | with_reducible refine Rd.sl ?_
  | with_reducible refine Rd.noPart ?_
  | with_reducible refine Rd.part ?_
  | with_reducible refine Rd.ex_int ?_
  | with_reducible refine Rd.bm ?_
  | with_reducible refine Rd.tfld ?_
  | with_reducible refine Rd.tfor ?_
  | with_reducible refine Rd.tlc ?_
  | with_reducible refine Rd.mk1 ?_
  | with_reducible refine Rd.tdc ?_
  | with_reducible refine Rd.sfld ?_
  | with_reducible refine Rd.methP ?_
  | with_reducible refine Rd.xf ?_

  | with_reducible refine Rd.itemP ?_
  | with_reducible refine Rd.ost ?_
  | with_reducible refine Rd.enumT ?_
  | ((with_reducible refine' Rd.enumTAt ?h1 ?_); (case h1 => walk_at "lk"))
  | with_reducible refine Rd.meth ?_
  | with_reducible refine Rd.make ?_
  | with_reducible refine Rd.prop ?_
  | with_reducible refine Rd.item ?_
  | with_reducible refine Rd.sprop ?_
  | with_reducible refine Rd.star ?_
  | ((with_reducible refine' Rd.starL ?h1 ?_); (case h1 => walk_at "lk"))
  | with_reducible refine Rd.tdget ?_
  | ((with_reducible refine' Rd.fld ?h1 ?h2 ?h3 ?h4 ?_); (case h1 => walk_at "lk"); (case h2 => walk_at "cl"); (case h3 => walk_at "na"); (case h4 => walk_at "fl"))
  | ((with_reducible refine' Rd.ty ?h1 ?_); (case h1 => walk_at "lk"))
  | with_reducible refine Rd.tyes ?_
  | with_reducible refine Rd.noN ?_
  | with_reducible refine Rd.noNr ?_
  | with_reducible refine Rd.yesN ?_
  | with_reducible refine Rd.yesI ?_
  | with_reducible refine Rd.yesR ?_
  | with_reducible refine Rd.noNN ?_
  | with_reducible refine Rd.yes rfl ?_
  | with_reducible refine Rd.no Bool.false_ne_true ?_
  | ((with_reducible refine' Rd.wp ?h1 ?_); (case h1 => exact rfl))
  | ((with_reducible refine' Rd.isi ?h1 ?h2 ?_); (case h1 => walk_at "lk"); (case h2 => first | exact kit_int (dp_nodict (by assumption)) | exact kit_bool (dp_nodict (by assumption))))
  | with_reducible refine Rd.enum ?_
  | ((with_reducible refine' Rd.enumAt ?h1 ?_); (case h1 => walk_at "lk"))
  | with_reducible refine Rd.rng1 ?_
  | with_reducible refine Rd.rng2 ?_
  | with_reducible refine Rd.ilist ?_
  | with_reducible refine Rd.itup ?_
  | ((with_reducible refine' Rd.ilistAt ?h1 ?_); (case h1 => walk_at "lk"))
  | ((with_reducible refine' Rd.itupAt ?h1 ?_); (case h1 => walk_at "lk"))
  | ((with_reducible refine' Rd.slL ?h1 (fun q H1 nq sq hq => ?_)); (case h1 => walk_at "lk"))
  | with_reducible refine Rd.gcons ?_
  | with_reducible refine Rd.gnil ?_
  | ((with_reducible refine' Rd.gtup ?h1 ?h2 ?_); (case h1 => walk_at "lk"); (case h2 => exact rfl))
  | ((with_reducible refine' Rd.lenL ?h1 ?_); (case h1 => walk_at "lk"))
  | ((with_reducible refine' Rd.lenT ?h1 ?_); (case h1 => walk_at "lk"))
  | ((with_reducible refine' Rd.ixA ?h1 ?h2 ?_); (case h1 => walk_at "lk"); (case h2 => exact rfl))
  | ((with_reducible refine' Rd.ixB ?h1 ?h2 ?_); (case h1 => walk_at "lk"); (case h2 => exact rfl))
  | ((with_reducible refine' Rd.ixL ?h1 ?h2 ?_); (case h1 => walk_at "lk"); (case h2 => exact rfl))
  | ((with_reducible refine' Rd.newAt ?h1 (fun p H1 np sp hp => ?_)); (case h1 => exact sz_small (Nat.le_of_ble_eq_true rfl)))
  | ((with_reducible refine' Rd.ic ?h1 ?_); (case h1 => walk_at "sd"))
  | ((with_reducible refine' Rd.setL ?h1 ?h2 ?h3 ?_); (case h1 => walk_at "lk"); (case h2 => exact rfl); (case h3 => walk_at "st")))
local macro_rules | `(tactic| walk_at "rd") => `(tactic| repeat walk_at "rd1")
local macro_rules | `(tactic| walk_at "lk") => `(tactic| first
  | assumption
  | exact upd_same
  | exact SqL.of upd_same
  | exact SqT.of upd_same
  | exact SqL.of (by assumption)
  | exact SqT.of (by assumption)
  | ((with_reducible refine' same_get ?lks ?lkh); (case lks => assumption); (case lkh => walk_at "lk"))
  | ((with_reducible refine' Same.seq ?lks ?lkh); (case lks => assumption); (case lkh => walk_at "lk"))
  | ((with_reducible refine' sqT_mono ?lks ?lkh); (case lks => assumption); (case lkh => walk_at "lk"))
  | ((with_reducible refine' dp_mono ?lks ?lkh); (case lks => assumption); (case lkh => walk_at "lk")))
local macro_rules | `(tactic| walk_at "sd") => `(tactic| first
  | assumption
  | decide
  | omega
  | exact Or.inl ⟨by decide, by decide⟩
  | exact ⟨by decide, by decide, by decide⟩
  | exact Or.inr ⟨by decide, by decide⟩
  | exact wide_div (by decide) (by decide : _ < 2 ^ 200) (by decide) (by decide)
  | exact wide_div (by assumption) (by assumption : _ < 2 ^ 200) (by decide) (by decide))

local macro_rules | `(tactic| walk_at "cl") => `(tactic| first | exact ct_k (by assumption) | exact cl_Tree (by assumption) | exact cl_Spot (by assumption) | exact cl_Edit (by assumption))
local macro_rules | `(tactic| walk_at "na") => `(tactic| first | exact ct_rows (by assumption) | exact ct_left (by assumption) | exact na_rows (by assumption) | exact na_left (by assumption) | exact na_tree (by assumption) | exact na_key (by assumption) | exact na_etree (by assumption) | exact na_saved (by assumption))
local macro_rules | `(tactic| walk_at "fl") => `(tactic| first | exact lk_head | exact lk_second (by decide +kernel))
local macro_rules | `(tactic| walk_at "wi") => `(tactic| first | (simp only [wipe, List.map_cons, List.map_nil, List.set_cons_succ, List.set_cons_zero]; done) | (simp only [wipe, List.map_cons, List.map_nil, List.set_cons_succ, List.set_cons_zero]; exact rfl))

section
variable {P : Program} {w : World} {K : PySem.W.Frag} {mg : Str → Option Value} {base : Heap} {A : Ad} {C : Addr}
open L2H HotX
def spUInit (C : Addr) : Sp := fun vs H Q _ => ∃ e x y, vs = [.ref e, x, y] ∧ H e = some (exo e C none) ∧ ∀ H' d, Fr1 e H H' → H d = none → H' e = some (exo e C (some d)) → H' d = some (exd d [("why", y), ("place", x)]) → Q .non H'
theorem ok_U_init {CX : CXT} (T : Txt P K mg A) : FnH P w K mg base CX 1 A.f_U_init A.d_U_init ["self", "place", "why"] (spUInit A.c_Undone) := by
  refine T.F_U_init.okH sc_Undone___init__ (fun vs H Q E h => ?_) (fun cdv Ar outer s H vs Q E p hot hr h => ?_)
  · obtain ⟨e, x, y, rfl, _⟩ := h
    rfl
  · obtain ⟨e, x, y, rfl, he, q⟩ := h
    refine ⟨_, (pss_cons (ps_ost (pv 0) (pv 1))
    (pss_one (ps_ost (pv 0) (pv 2)))), ?_⟩
    try dsimp only [cxH, cxOf]
    rw [show L2.start ["self", "place", "why"] [V.ref e, x, y] = [some (V.ref e), some (x), some (y)] from rfl]
    walk_at "rd"
    refine ⟨e, A.c_Undone, rfl, T.o_Undone, T.u_place, .inl ⟨he, fun d nd hne => ?_⟩⟩
    walk_at "rd"
    have hde : upd (upd H d (exd d [("place", x)])) e (exo e A.c_Undone (some d)) d = some (exd d [("place", x)]) := by rw [upd_ne hne, upd_same]
    refine ⟨e, A.c_Undone, rfl, T.o_Undone, T.u_why, .inr ⟨d, [("place", x)], upd_same, hde, (by decide : 1 ≤ 900), ?_⟩⟩
    refine q _ d (fun b o n z => ?_) nd ?_ upd_same
    · rw [upd_ne (ne_of_none z nd), upd_ne n, upd_ne (ne_of_none z nd)]
      exact z
    · rw [upd_ne hne.symm, upd_same]
/-- what one move does -/
def MoveOk (rows : List Row) (d e : PyData) (rows' : List Row) : Prop := ∃ k o, d = .int k ∧ e = optD o ∧ hasK rows d = true ∧ (∀ q, o = some q → hasK rows (.int q) = true ∧ ∃ ps, Up rows q ps ∧ k ∉ ps) ∧ rows' = moveF rows k o
def MoveKey (rows : List Row) (d e : PyData) : Prop := hasK rows d = false ∨ (hasK rows d = true ∧ e ≠ .none ∧ hasK rows e = false)
def MoveRing (rows : List Row) (d e : PyData) : Prop := ∃ k q ps, d = .int k ∧ e = .int q ∧ hasK rows d = true ∧ hasK rows e = true ∧ Up rows q ps ∧ k ∈ ps
inductive Out where
  | ok (rows : List Row)
  | bad (j : Nat) (why : Str)
inductive RunR : List Row → List (PyData × PyData) → Nat → Out → Prop
  | nil {rows : List Row} {j : Nat} : RunR rows [] j (.ok rows)
  | ok {rows rows' : List Row} {d e : PyData} {ms : List (PyData × PyData)} {j : Nat} {o : Out} : MoveOk rows d e rows' → RunR rows' ms (j + 1) o → RunR rows ((d, e) :: ms) j o
  | key {rows : List Row} {d e : PyData} {ms : List (PyData × PyData)} {j : Nat} : MoveKey rows d e → RunR rows ((d, e) :: ms) j (.bad j "key")
  | ring {rows : List Row} {d e : PyData} {ms : List (PyData × PyData)} {j : Nat} : MoveRing rows d e → RunR rows ((d, e) :: ms) j (.bad j "ring")
theorem opt_inj {o o' : Option Int} (h : optD o = optD o') : o = o' := by cases o <;> cases o' <;> first | rfl | (cases h; rfl) | cases h
theorem MoveOk.tr {rows rows' : List Row} {d e : PyData} (h : MoveOk rows d e rows') (t : Tr rows) : Tr rows' ∧ rows'.length = rows.length := by
  obtain ⟨k, o, rfl, rfl, hk, ho, rfl⟩ := h
  have mv := moveF_moved (hasK_mem hk) o
  have hl : (moveF rows k o).length = rows.length := by
    have := mv.keys.length_eq
    unfold keysOf at this
    rwa [List.length_map, List.length_map] at this
  cases o with
  | none => exact ⟨(mv.let_none t).2, hl⟩
  | some q =>
    obtain ⟨_, ps, u, n⟩ := ho q rfl
    exact ⟨(mv.let_some t u n).2, hl⟩
theorem MoveOk.noKey {rows rows' : List Row} {d e : PyData} (h : MoveOk rows d e rows') : ¬ MoveKey rows d e := by
  obtain ⟨k, o, rfl, rfl, hk, ho, rfl⟩ := h
  rintro (z | ⟨_, ne, z⟩)
  · rw [hk] at z; cases z
  · cases o with
    | none => exact ne rfl
    | some q =>
      have := (ho q rfl).1
      rw [show optD (some q) = PyData.int q from rfl, this] at z
      cases z
theorem MoveOk.noRing {rows rows' : List Row} {d e : PyData} (t : Tr rows) (h : MoveOk rows d e rows') : ¬ MoveRing rows d e := by
  obtain ⟨k, o, rfl, rfl, hk, ho, rfl⟩ := h
  rintro ⟨k', q, ps, e1, e2, _, _, u, hin⟩
  cases e1
  cases o with
  | none => cases e2
  | some q' =>
    cases e2
    obtain ⟨_, ps', u', n⟩ := ho _ rfl
    rw [u.uniq t.nd u'] at hin
    exact n hin
theorem MoveKey.noRing {rows : List Row} {d e : PyData} (h : MoveKey rows d e) : ¬ MoveRing rows d e := by
  rintro ⟨k, q, ps, rfl, rfl, h1, h2, _, _⟩
  rcases h with z | ⟨_, _, z⟩
  · rw [h1] at z; cases z
  · rw [h2] at z; cases z
/-! ### a tree, with a log or without -/
def restO (l : V) : Option Addr → List (Str × V)
  | none => [("left", l)]
  | some g => [("left", l), ("log", .ref g)]
theorem restO_ok (l : V) (og : Option Addr) : RestOk (restO l og) := by
  cases og with
  | none => exact rest_left l
  | some g => exact rest_log l _
def StAt (K : PySem.W.Frag) (S : List Addr) (C dx : Addr) (l : V) (og : Option Addr) (H : Hp) (t : Addr) (rows : List Row) (log : List PyData) : Prop :=
  TreeS K S C dx (restO l og) H t rows ∧ OkS S H ∧ t ∉ S ∧ (∀ g, og = some g → g ∈ S ∧ ∃ xs, H g = some (.lst xs) ∧ DpAll K (hid S H) xs log) ∧ (og = none → log = [])
section
variable {S : List Addr} {dx t : Addr} {l : V} {og : Option Addr} {H H' : Hp} {rows : List Row} {log : List PyData}
theorem StAt.mono (h : StAt K S C dx l og H t rows log) (s : Same H H') : StAt K S C dx l og H' t rows log :=
  ⟨h.1.mono s, h.2.1.same s, h.2.2.1, fun g e => let ⟨n, xs, hg, hx⟩ := h.2.2.2.1 g e; ⟨n, xs, s _ _ hg, dpAll_mono (Same.hid s) hx⟩, h.2.2.2.2⟩
theorem StAt.okS (h : StAt K S C dx l og H t rows log) : OkS S H := h.2.1
theorem StAt.ntS (h : StAt K S C dx l og H t rows log) : t ∉ S := h.2.2.1
theorem StAt.lg (h : StAt K S C dx l og H t rows log) : ∀ g, og = some g → g ∈ S ∧ ∃ xs, H g = some (.lst xs) ∧ DpAll K (hid S H) xs log := h.2.2.2.1
theorem StAt.ln (h : StAt K S C dx l og H t rows log) : og = none → log = [] := h.2.2.2.2
theorem StAt.sub (h : StAt K S C dx l og H t rows log) : ∀ a, a ∈ og.toList → a ∈ S := fun a ha => by
  cases og with
  | none => cases ha
  | some g =>
    have : a = g := by simpa using ha
    rw [this]
    exact (h.lg g rfl).1
theorem StAt.ntO (h : StAt K S C dx l og H t rows log) : t ∉ og.toList := fun z => h.ntS (h.sub _ z)
theorem StAt.logA {g : Addr} (h : StAt K S C dx l (some g) H t rows log) : LogAt K S C dx l g H t rows log := ⟨h.1, h.okS, h.ntS, h.lg g rfl⟩
theorem LogAt.st {g : Addr} (h : LogAt K S C dx l g H t rows log) : StAt K S C dx l (some g) H t rows log :=
  ⟨h.1, h.2.1, h.2.2.1, fun g' e => by cases e; exact h.2.2.2, fun e => by cases e⟩
theorem TreeS.st (h : TreeS K S C dx [("left", l)] H t rows) (ok : OkS S H) (nt : t ∉ S) : StAt K S C dx l none H t rows [] := ⟨h, ok, nt, fun g e => (by cases e), fun _ => rfl⟩
end
/-- what is kept: all but the tree and its log -/
def FrO (t : Addr) (og : Option Addr) (H H' : Hp) : Prop := Fr1 t (hid og.toList H) (hid og.toList H')
theorem FrO.of1 {t : Addr} {og : Option Addr} {H H' : Hp} (f : Fr1 t H H') : FrO t og H H' := Fr1.hid f
theorem FrO.trans {t : Addr} {og : Option Addr} {H H1 H2 : Hp} (f : FrO t og H H1) (g : FrO t og H1 H2) : FrO t og H H2 := Fr1.trans f g
theorem FrO.same {t : Addr} {og : Option Addr} {H H' : Hp} (s : Same H H') : FrO t og H H' := Fr1.hid (Same.fr1 s)
theorem FrO.ofFr {t g : Addr} {H H' : Hp} (f : Fr [t, g] H H') : FrO t (some g) H H' := fun b o n e => by
  obtain ⟨h1, h2⟩ := hid_some e
  have h3 : b ∉ [g] := h2
  show hid [g] H' b = _
  rw [hid_out h3]
  exact f b o (fun z => by
    rcases List.mem_cons.mp z with z | z
    · exact n z
    · exact h3 z) h1
theorem FrO.hidS {t : Addr} {og : Option Addr} {S : List Addr} {H H' : Hp} (f : FrO t og H H') (h : ∀ a, a ∈ og.toList → a ∈ S) : Fr1 t (hid S H) (hid S H') := fun b o n e => by
  obtain ⟨e1, e2⟩ := hid_some e
  exact (hid_out e2).trans (hid_some (f b o n ((hid_out (fun z => e2 (h b z))).trans e1))).1
def logO (w : Str) (log : List PyData) (k : Int) (o : Option Int) : Option Addr → List PyData
  | none => []
  | some _ => log ++ [entryD w k o]
def logAll (log : List PyData) (ms : List (PyData × PyData)) : Option Addr → List PyData
  | none => []
  | some _ => log ++ ms.map fun m => .tuple [.str "move", m.1, m.2]
/-- a move of either class -/
def spMv (K : PySem.W.Frag) (A : Ad) (C : Addr) (b : Bool) : Sp := fun vs H Q E => ∃ t v p S dx l og rows log d e, vs = [.ref t, v, p] ∧ og.isSome = b ∧ StAt K S C dx l og H t rows log ∧ Dp K H v d ∧ Dp K H p e ∧ Tr rows ∧ rows.length ≤ 90000 ∧ log.length ≤ 100000 ∧
  (∀ k o H', d = .int k → e = optD o → hasK rows d = true → (∀ q, o = some q → hasK rows (.int q) = true ∧ ∃ ps, Up rows q ps ∧ k ∉ ps) → FrO t og H H' → StAt K S C dx l og H' t (moveF rows k o) (logO "move" log k o og) → Q .non H') ∧
  (hasK rows d = false → ErrIs A.c_NoKey "key" v H E) ∧ (hasK rows d = true → e ≠ .none → hasK rows e = false → ErrIs A.c_NoKey "key" p H E) ∧
  (∀ k q ps, d = .int k → e = .int q → hasK rows d = true → hasK rows e = true → Up rows q ps → k ∈ ps → RingIs A ps k H E)
theorem mv_tree {vs : List V} {H : Hp} {Q : VK} {E : XK} (h : spMv K A C false vs H Q E) : spMove K A C vs H Q E := by
  obtain ⟨t, v, p, S, dx, l, og, rows, log, d, e, rfl, hb, hS, hd, he, htr, hl, _, q, q1, q2, q3⟩ := h
  cases og with
  | some g => cases hb
  | none =>
    obtain ⟨hr, a, ht, _⟩ := id hS.1
    refine ⟨t, v, p, S, dx, _, rows, d, e, rfl, hS.1, hS.okS, hS.ntS, hd, he, htr, hl, fun k o H' ed eo hk ho f hS' => ?_, q1, q2, q3⟩
    obtain ⟨_, a', ht', _⟩ := id hS'
    exact q k o H' ed eo hk ho (FrO.of1 f) (TreeS.st hS' (hS.okS.fr1 f ⟨_, ht'⟩) hS.ntS)
theorem mv_log {vs : List V} {H : Hp} {Q : VK} {E : XK} (h : spMv K A C true vs H Q E) : spLMove K A C vs H Q E := by
  obtain ⟨t, v, p, S, dx, l, og, rows, log, d, e, rfl, hb, hS, hd, he, htr, hl, hll, q, q1, q2, q3⟩ := h
  cases og with
  | none => cases hb
  | some g => exact ⟨t, v, p, S, dx, l, g, rows, log, d, e, rfl, hS.logA, hd, he, htr, hl, hll, fun k o H' ed eo hk ho f hS' => q k o H' ed eo hk ho (FrO.ofFr f) hS'.st, q1, q2, q3⟩
def UndoneIs (K : PySem.W.Frag) (A : Ad) (S : List Addr) (C dx : Addr) (l : V) (og : Option Addr) (t : Addr) (rows : List Row) (j : Nat) (why : Str) (H : Hp) (E : XK) : Prop :=
  ∀ H' d log' b, H b = none → H' t = some (.ins C dx (("rows", .ref b) :: restO l og)) → FrO t og H H' → StAt K S C dx l og H' t rows log' → H' d = some (.xd [("why", .str why), ("place", .int (j : Nat))]) → E (.ref A.c_Undone) (some d) H'
/-- the moves as they stand: pairs in new tuples -/
def MovesAt (K : PySem.W.Frag) (H : Hp) : List V → List (PyData × PyData) → Prop
  | [], [] => True
  | v :: vs, m :: ms => (∃ T x y, v = .ref T ∧ SqT K H T [x, y] ∧ Dp K H x m.1 ∧ Dp K H y m.2) ∧ MovesAt K H vs ms
  | _, _ => False
def spAllB (K : PySem.W.Frag) (A : Ad) (C : Addr) (bl : Bool) : Sp := fun vs H Q E => ∃ t p xs ms S dx l og rows log out, vs = [.ref t, .ref p] ∧ og.isSome = bl ∧ SqT K (hid og.toList H) p xs ∧ MovesAt K (hid og.toList H) xs ms ∧ ms.length ≤ 1000 ∧ StAt K S C dx l og H t rows log ∧ Tr rows ∧ rows.length ≤ 90000 ∧ log.length + ms.length ≤ 100000 ∧ RunR rows ms 0 out ∧
  (∀ rows' H', out = .ok rows' → FrO t og H H' → StAt K S C dx l og H' t rows' (logAll log ms og) → Q .non H') ∧ (∀ j why, out = .bad j why → UndoneIs K A S C dx l og t rows j why H E)
theorem moves_at : ∀ {xs : List V} {ms : List (PyData × PyData)} {i : Nat} {v : V} {H : Hp}, MovesAt K H xs ms → xs[i]? = some v → ∃ m T x y, ms.drop i = m :: ms.drop (i + 1) ∧ v = .ref T ∧ SqT K H T [x, y] ∧ Dp K H x m.1 ∧ Dp K H y m.2
  | [], [], _, _, _, _, e => by simp at e
  | v :: vs, m :: ms, 0, _, _, h, e => by
    obtain ⟨⟨T, x, y, e1, h1, h2, h3⟩, _⟩ := h
    have : v = _ := Option.some.inj e
    subst this
    exact ⟨m, T, x, y, rfl, e1, h1, h2, h3⟩
  | _ :: vs, _ :: ms, i + 1, _, _, h, e => by
    obtain ⟨m', T, x, y, e1, r⟩ := moves_at (i := i) h.2 (by simpa using e)
    exact ⟨m', T, x, y, by simpa using e1, r⟩
  | [], _ :: _, _, _, _, h, _ => h.elim
  | _ :: _, [], _, _, _, h, _ => h.elim
theorem moves_len : ∀ {xs : List V} {ms : List (PyData × PyData)} {H : Hp}, MovesAt K H xs ms → xs.length = ms.length
  | [], [], _, _ => rfl
  | _ :: _, _ :: _, _, h => congrArg Nat.succ (moves_len h.2)
  | [], _ :: _, _, h => h.elim
  | _ :: _, [], _, h => h.elim
theorem undone_raise {S : List Addr} {H5 : Hp} {σ : L2.St} {i j : Nat} {z : Str} {a s t b dx sx : Addr} {l : V} {og : Option Addr} {log : List PyData} {r : V} {cls : Value} {rows : List Row} {Wout : WX} (T : Txt P K mg A) (es : H5 s = some (.ins A.c_Edit sx (editF t (.ref b)))) (ht : H5 t = some (.ins C dx (("rows", r) :: restO l og)))
    (okS : OkS S H5) (ntS : t ∉ S) (hlg : ∀ g, og = some g → g ∈ S ∧ ∃ xs, H5 g = some (.lst xs) ∧ DpAll K (hid S H5) xs log) (hln : og = none → log = []) (hb : RowsAt K (hid S H5) b rows) (hc : PySem.W.subIn K cls (.type "BaseException") = some true) (h2 : σ[2]? = some (some (.int (j : Nat)))) (hi : σ[i]? = some (some (.ref a)))
    (q : ∀ σ' H8 d, H8 t = some (.ins C dx (("rows", .ref b) :: restO l og)) → Fr1 t H5 H8 → StAt K S C dx l og H8 t rows log → H8 d = some (.xd [("why", .str z), ("place", .int (j : Nat))]) → Wout (.ref A.c_Undone) (some d) σ' H8) :
    tMkO A.c_Undone (spUInit A.c_Undone) [] (tCons (tVar 2) (tCons (tC (.str z)) tNil)) σ H5 fun cls1 d H' => PySem.W.subIn K cls (.type "BaseException") = some true ∧ outN (some i) (wWith (spExit K A C) s Wout) cls1 d σ H' ∧ σ[i]? = some (some (.ref a)) := by
  refine Rd.mkO (Rd.consA ⟨_, h2, Rd.consA (Rd.c (Rd.nilA ⟨(by decide : 2 ≤ 1000), fun a2 na2 => ⟨a2, _, _, rfl, upd_same, fun H6 d2 f6 nd2 e6 ed2 => ⟨rfl, d2, _, e6, ed2, ?_, hc, ?_, hi⟩⟩⟩))⟩)
  · by_cases e : d2 = a2
    · rw [e, upd_same] at nd2
      cases nd2
    · rwa [upd_ne e] at nd2
  · have n5 : H5 d2 = none := by
      by_cases e : d2 = a2
      · rw [e]; exact na2
      · rwa [upd_ne e] at nd2
    have s57 : Same H5 (upd (del H6 a2) d2 (.xd [("why", .str z), ("place", .int (j : Nat))])) := fun c o e => by
      have nc : c ≠ a2 := ne_of_none e na2
      rw [upd_ne (ne_of_none e n5), del_ne nc]
      exact f6 c o nc (by rw [upd_ne nc]; exact e)
    have h7d : (upd (del H6 a2) d2 (.xd [("why", V.str z), ("place", V.int (j : Nat))])) d2 = some (.xd [("why", .str z), ("place", .int (j : Nat))]) := upd_same
    generalize upd (del H6 a2) d2 (.xd [("why", .str z), ("place", .int (j : Nat))]) = H7 at s57 h7d
    refine ⟨.ref A.c_Undone, rfl, fun e y hy => ⟨s, _, _, _, rfl, (fun z => by cases z), fun _ => ⟨sx, t, b, dx, r, restO l og, s57 _ _ es, s57 _ _ ht, (restO_ok l og).len, fun H8 f8 e8 => ⟨rfl, ?_⟩⟩⟩⟩
    have nt : d2 ≠ t := fun e => by rw [e, ht] at n5; cases n5
    refine q _ H8 d2 e8 ((Same.fr1 s57).trans f8) ⟨⟨restO_ok l og, b, e8, rows_fr1 (Fr1.hid f8) ((hid_out ntS).trans (s57 _ _ ht)) trivial (rows_mono (Same.hid s57) hb)⟩, (okS.same s57).fr1 f8 ⟨_, e8⟩, ntS, fun g eg => ?_, hln⟩ (f8 d2 _ nt h7d)
    obtain ⟨m, xs, hg, hx⟩ := hlg g eg
    refine ⟨m, xs, f8 g _ (fun z => ntS (by rw [← z]; exact m)) (s57 _ _ hg), ?_⟩
    exact dpAll_fr1 (Fr1.hid f8) ((hid_out ntS).trans (s57 _ _ ht)) trivial (dpAll_mono (Same.hid s57) hx)
theorem n_e1 : ¬ (("rows" : Str) = "edit") := by decide +kernel
theorem n_e2 : ("edit" : Str) ≠ "left" := by decide +kernel
theorem n_e3 : ("edit" : Str) ≠ "log" := by decide +kernel
theorem ms_at {ms : List (PyData × PyData)} {m : PyData × PyData} {i : Nat} (em : ms.drop i = m :: ms.drop (i + 1)) : ms[i]? = some m := by
  have := congrArg (fun l => l[0]?) em
  simpa [List.getElem?_drop] using this
theorem logAll_step {log : List PyData} {ms : List (PyData × PyData)} {m : PyData × PyData} {i : Nat} {og : Option Addr} {k : Int} {o : Option Int} (em : ms.drop i = m :: ms.drop (i + 1)) (e1 : m.1 = .int k) (e2 : m.2 = optD o) :
    logO "move" (logAll log (ms.take i) og) k o og = logAll log (ms.take (i + 1)) og := by
  cases og with
  | none => rfl
  | some g =>
    show (log ++ _) ++ [entryD "move" k o] = log ++ _
    rw [List.take_add_one, ms_at em, Option.toList_some, List.map_append, List.append_assoc]
    show _ = log ++ (_ ++ [PyData.tuple [.str "move", m.1, m.2]])
    rw [e1, e2]
    rfl
theorem logAll_len {log : List PyData} {ms : List (PyData × PyData)} {i : Nat} {og : Option Addr} : (logAll log (ms.take i) og).length ≤ log.length + ms.length := by
  cases og with
  | none => exact Nat.zero_le _
  | some g =>
    show (log ++ _).length ≤ _
    rw [List.length_append, List.length_map, List.length_take]
    have := Nat.min_le_right i ms.length
    omega
theorem ok_T_allB {bl : Bool} {fm : Addr} (T : Txt P K mg A) (hCT : ClsT K C) (hmm : Meth K C "move" fm) (hme : Meth K C "edit" A.f_T_edit) (R_T_move : FnR P w K mg base (L2N.CX P w) 6 fm (spMv K A C bl)) (cdv : Value) (Ar : Around) (outer : List Env) (s : Shared) (H : Hp) (vs : List V) (Q : VK) (E : XK) (hr : Room 9 (Ar.deeper (envOfC "Tree.move_all" (defScope s_Tree_move_all) s.heap.objs.size A.f_T_all cdv))) (h : spAllB K A C bl vs H Q E) :
    ∃ t, PSs (cxOf (L2.CX P w) P w K mg base ["self", "moves", "place", "key", "parent", "ring", "missing"] "Tree.move_all" (defScope s_Tree_move_all) A.f_T_all cdv Ar outer s H E) (defBody s_Tree_move_all) t ∧ t { nx := fun _ H' => Q .non H', rt := Q } (L2.start ["self", "moves", "place", "key", "parent", "ring", "missing"] vs) H := by
  have G_T_edit := (ok_T_edit (P := P) (w := w) (base := base) T).weakN
  have b_T_edit := T.F_T_edit.binds (ps := ["self"]) fun _ _ _ _ _ _ us hl => match us, hl with | [_], _ => rfl
  have G_E_enter := (ok_E_enter (P := P) (w := w) (base := base) T hCT).weakN
  have b_E_enter := T.F_E_enter.binds (ps := ["self"]) fun _ _ _ _ _ _ us hl => match us, hl with | [_], _ => rfl
  have G_E_exit := (ok_E_exit (P := P) (w := w) (base := base) T hCT).1.weakN
  have M_E_exit := (ok_E_exit (P := P) (w := w) (base := base) T hCT).2
  have b_E_exit := T.F_E_exit.binds (ps := ["self", "kind", "value", "trace"]) fun _ _ _ _ _ _ us hl => match us, hl with | [_, _, _, _], _ => rfl
  have H_U_init := ok_U_init (P := P) (w := w) (base := base) (CX := L2.CX P w) T
  have b_U_init := T.F_U_init.binds (ps := ["self", "place", "why"]) fun _ _ _ _ _ _ us hl => match us, hl with | [_, _, _], _ => rfl
  obtain ⟨t, p, xs, ms, S, dx, l, og, rows, log, out, rfl, hbl, hp, hms, hml, hSt, htr, hl, hll, hrun, q, qe⟩ := h
  have okS := hSt.okS
  have ntS := hSt.ntS
  have ntO := hSt.ntO
  refine ⟨_, pss_one (ps_with rfl rfl rfl (L2.takes_of rfl rfl rfl rfl) (pe_meth0 (pv 0) hCT.k hme G_T_edit (hr.mono (by decide)) b_T_edit .nil passX) T.w_Edit G_E_enter G_E_exit M_E_exit (hr.mono (by decide)) b_E_enter b_E_exit passF
    (fun W pn xe tk hpo hpa => pss_one (ps_for hpo rfl (Kx.pi_enumT (K := K) rfl (by rfl) T.n_enumerate (pa_cons (pv 1) pa_nil))
      (Kx.pg_tup (K := K) (n := 2) rfl rfl (pgs_cons (pg_name (i := 2) sc_Tree_move_all.nd rfl (by first | exact Or.inl rfl | exact Or.inr rfl)) (pgs_cons (Kx.pg_tup (K := K) (n := 2) rfl rfl (pgs_cons (pg_name (i := 3) sc_Tree_move_all.nd rfl (by first | exact Or.inl rfl | exact Or.inr rfl)) (pgs_cons (pg_name (i := 4) sc_Tree_move_all.nd rfl (by first | exact Or.inl rfl | exact Or.inr rfl)) pgs_nil))) pgs_nil)))
      (pss_one (ps_tryN (K := K) rfl rfl rfl rfl sc_Tree_move_all.nd hpa tk
        (fun W2 pn2 xe2 tk2 hp2 => pss_one (ps_expr (pe_methP (pv 0) hCT.k hmm R_T_move (hr.mono (by decide)) (fun σ => L2N.passAt tk2 σ) (pa_cons (pv 3) (pa_cons (pv 4) pa_nil)))))
        (.as_ (i := 5) ⟨by rfl, by decide, .inl T.h_Ring⟩ rfl rfl
          (fun a oe cls d pn xe W3 hz hd tk3 hot => pss_one (ps_raiseHF (K := K) rfl (i := 5) List.mem_cons_self rfl ⟨_, hd.choose_spec, hz.2.2 _ hd.choose_spec⟩ hz.1 rfl rfl rfl tk3 (pmk5_oexH T.o_Undone T.u_init T.u_fn H_U_init (roomH_mark (hr.mono (by decide)) _) hot b_U_init passF (by rfl) T.g_Undone (pa_cons (pv 2) (pa_cons pe_str pa_nil)))))
          (.as_ (i := 6) ⟨by rfl, by decide, .inl T.h_NoKey⟩ rfl rfl
            (fun a oe cls d pn xe W3 hz hd tk3 hot => pss_one (ps_raiseHF (K := K) rfl (i := 6) List.mem_cons_self rfl ⟨_, hd.choose_spec, hz.2.2 _ hd.choose_spec⟩ hz.1 rfl rfl rfl tk3 (pmk5_oexH T.o_Undone T.u_init T.u_fn H_U_init (roomH_mark (hr.mono (by decide)) _) hot b_U_init passF (by rfl) T.g_Undone (pa_cons (pv 2) (pa_cons pe_str pa_nil)))))
            .nil))))))), ?_⟩
  try dsimp only [cxOf]
  rw [show L2.start ["self", "moves", "place", "key", "parent", "ring", "missing"] [V.ref t, V.ref p] = [some (V.ref t), some (V.ref p), none, none, none, none, none] from rfl]
  refine Rd.withS ?_
  obtain ⟨hrest, a0, ht, hR⟩ := id hSt.1
  walk_at "rd"
  refine Rd.methAt ht (hSt.1.noM n_e1 n_e2 n_e3) ?_
  walk_at "rd"
  refine ⟨t, rfl, fun H1 s0 sx le ns0 s1 es1 => ⟨s0, sx, _, rfl, es1, ⟨s0, t, le, sx, S, dx, restO l og, rows, rfl, es1, hSt.1.mono s1, okS.same s1, okS.new ns0, fun H2 b nb1 f2 es2 hb => ⟨⟨_, _, es2⟩, ?_⟩⟩⟩⟩
  have s02 : Same H H2 := fun c o e => f2 c o (ne_of_none e ns0) (s1 c o e)
  have nb0 : H b = none := by
    cases z : H b with
    | none => rfl
    | some o => rw [s1 _ _ z] at nb1; cases nb1
  have nst : s0 ≠ t := fun e => by rw [e, ht] at ns0; cases ns0
  have ns0S := okS.new ns0
  have ns0O : s0 ∉ og.toList := fun z => ns0S (hSt.sub _ z)
  have ht2 := (hid_out (H := H2) ntO).trans (s02 _ _ ht)
  have hp2 := sqT_mono (Same.hid (S := og.toList) s02) hp
  have hp2' : SqT K H2 p xs := sqT_mono hid_same hp2
  have log0 : logAll log (ms.take 0) og = log := by
    cases og with
    | none => exact (hSt.ln rfl).symm
    | some g => show log ++ [] = log; rw [List.append_nil]
  refine Rd.tforT fun TB hTB => ?_
  walk_at "rd"
  refine for_it (walk_enumT (xs := xs)) (fun i σ H3 => ∃ rws u2 u3 u4, σ = [some (V.ref t), some (V.ref p), u2, u3, u4, none, none] ∧ FrO t og H2 H3 ∧ StAt K S C dx l og H3 t rws (logAll log (ms.take i) og) ∧ Tr rws ∧ rws.length = rows.length ∧ RunR rws (ms.drop i) i out)
    ⟨rows, none, none, none, rfl, Fr1.refl, by rw [log0]; exact hSt.mono s02, htr, rfl, hrun⟩ (fun i σ H3 _ pv => ?_) ?_ ?_
  · obtain ⟨_, _, _, _, _, f3, _⟩ := pv
    exact sqT_mono hid_same (sqT_fr1 f3 ht2 trivial hp2)
  · rintro i x σ H3 H4 hi ⟨rws, u2, u3, u4, rfl, f3, hT3, htr3, hl3, hrun3⟩ ⟨TT, x1, y1, rfl, nTT, rfl, e1, e2⟩
    cases e1
    obtain ⟨m, T', kx, px, em, rfl, hT', hd1, hd2⟩ := moves_at hms e2
    rw [em] at hrun3
    have s4 : Same H3 (upd H3 TT (.tup [.int (i : Nat), .ref T'])) := same_upd nTT
    have hTT : SqT K (upd H3 TT (.tup [.int (i : Nat), .ref T'])) TT [.int (i : Nat), .ref T'] := SqT.of upd_same
    generalize upd H3 TT (.tup [.int (i : Nat), .ref T']) = H4 at s4 hTT
    have hT4' : SqT K H4 T' [kx, px] := sqT_mono s4 (sqT_mono hid_same (sqT_fr1 f3 ht2 trivial (sqT_mono (Same.hid s02) hT')))
    have hk4 : Dp K H4 kx m.1 := dp_mono s4 (dp_mono hid_same (dp_fr1 f3 ht2 trivial (dp_mono (Same.hid s02) hd1)))
    have hp4 : Dp K H4 px m.2 := dp_mono s4 (dp_mono hid_same (dp_fr1 f3 ht2 trivial (dp_mono (Same.hid s02) hd2)))
    have hT4 := hT3.mono s4
    obtain ⟨_, a4, ht4, hR4⟩ := id hT4.1
    have es4 : H4 s0 = some (.ins A.c_Edit sx (editF t (.ref b))) := s4 _ _ (hid_some (f3 _ _ nst ((hid_out ns0O).trans es2))).1
    have hb4 : RowsAt K (hid S H4) b rows := rows_mono (Same.hid s4) (rows_fr1 (f3.hidS hSt.sub) ((hid_out ntS).trans (s02 _ _ ht)) trivial hb)
    have f04 : FrO t og H H4 := ((FrO.same s02).trans f3).trans (FrO.same s4)
    walk_at "rd"
    rw [hTB]
    walk_at "rd"
    refine Rd.methAt ht4 (hT4.1.noM n_m1 n_m2 n_m3) ?_
    walk_at "rd"
    have bad : ∀ {z : Str} {H5 : Hp}, out = .bad i z → Same H4 H5 → ∀ {σ : L2.St} {n : Nat} {a : Addr} {cls : Value}, PySem.W.subIn K cls (.type "BaseException") = some true → σ[2]? = some (some (.int (i : Nat))) → σ[n]? = some (some (.ref a)) →
        tMkO A.c_Undone (spUInit A.c_Undone) [] (tCons (tVar 2) (tCons (tC (.str z)) tNil)) σ H5 fun cls1 d H' => PySem.W.subIn K cls (.type "BaseException") = some true ∧ outN (some n) (wWith (spExit K A C) s0 fun cls d _ H => E cls d H) cls1 d σ H' ∧ σ[n]? = some (some (.ref a)) := by
      intro z H5 eo s5 σ n a cls hc h2 hn
      refine undone_raise (rows := rows) T (s5 _ _ es4) (s5 _ _ ht4) (hT4.mono s5).okS ntS (hT4.mono s5).lg (hT4.mono s5).ln (rows_mono (Same.hid s5) hb4) hc h2 hn fun σ' H8 d e8 f8 hT8 hd8 => ?_
      exact qe i z eo H8 d _ b nb0 e8 (f04.trans ((FrO.same s5).trans (FrO.of1 f8))) hT8 hd8
    refine ⟨t, kx, px, S, dx, l, og, rws, _, m.1, m.2, rfl, hbl, hT4, hk4, hp4, htr3, by omega, by have := logAll_len (log := log) (ms := ms) (i := i) (og := og); omega, fun k o H5 ed eo hk ho f5 hT5 => ?_, fun hk => ?_, fun hk ne nk => ?_, fun k q' ps ed eo hk hq hup hin => ?_⟩
    · have mok : MoveOk rws m.1 m.2 (moveF rws k o) := ⟨k, o, ed, eo, hk, ho, rfl⟩
      generalize hdr : m :: ms.drop (i + 1) = l at hrun3
      cases hrun3 with
      | nil => cases hdr
      | @ok _ rows' d e ms' _ _ hm hr' =>
        cases hdr
        obtain ⟨k', o', ed', eo', _, _, rfl⟩ := hm
        have e3 : k' = k := by
          have z : PyData.int k' = PyData.int k := ed'.symm.trans ed
          injection z
        have e4 : o' = o := opt_inj (eo'.symm.trans eo)
        subst e3 e4
        obtain ⟨htr5, hl5⟩ := mok.tr htr3
        walk_at "rd"
        exact ⟨_, _, _, _, rfl, (f3.trans (FrO.same s4)).trans f5, by rw [← logAll_step em ed eo]; exact hT5, htr5, hl5.trans hl3, hr'⟩
      | key hm =>
        cases hdr
        exact absurd hm mok.noKey
      | ring hm =>
        cases hdr
        exact absurd hm (mok.noRing htr3)
    · generalize hdr : m :: ms.drop (i + 1) = l at hrun3
      cases hrun3 with
      | nil => cases hdr
      | ok hm hr' =>
        cases hdr
        exact absurd (.inl hk) hm.noKey
      | key hm =>
        intro H5 d5 s5 hd5
        exact ⟨false, T.x_NR, (fun z => by cases z), fun _ => ⟨true, T.x_NN, fun _ a na => bad rfl s5 T.X_NoKey.exC rfl rfl, fun z => by cases z⟩⟩
      | ring hm =>
        cases hdr
        exact absurd hm (MoveKey.noRing (.inl hk))
    · generalize hdr : m :: ms.drop (i + 1) = l at hrun3
      cases hrun3 with
      | nil => cases hdr
      | ok hm hr' =>
        cases hdr
        exact absurd (.inr ⟨hk, ne, nk⟩) hm.noKey
      | key hm =>
        intro H5 d5 s5 hd5
        exact ⟨false, T.x_NR, (fun z => by cases z), fun _ => ⟨true, T.x_NN, fun _ a na => bad rfl s5 T.X_NoKey.exC rfl rfl, fun z => by cases z⟩⟩
      | ring hm =>
        cases hdr
        exact absurd hm (MoveKey.noRing (.inr ⟨hk, ne, nk⟩))
    · have mr : MoveRing rws m.1 m.2 := ⟨k, q', ps, ed, eo, hk, hq, hup, hin⟩
      generalize hdr : m :: ms.drop (i + 1) = l at hrun3
      cases hrun3 with
      | nil => cases hdr
      | ok hm hr' =>
        cases hdr
        exact absurd mr (hm.noRing htr3)
      | key hm =>
        cases hdr
        exact absurd mr hm.noRing
      | ring hm =>
        intro H5 D5 T5 _ s5 hD5 hT5
        exact ⟨true, T.x_RR, fun _ a na => bad rfl s5 T.X_Ring.exC rfl rfl, fun z => by cases z⟩
  · rintro σ H3 ⟨rws, u2, u3, u4, rfl, f3, hT3, htr3, hl3, hrun3⟩
    have hdrop : ms.drop xs.length = [] := by rw [moves_len hms]; exact List.drop_length
    rw [hdrop] at hrun3
    cases hrun3
    refine ⟨s0, .non, .non, .non, rfl, fun _ => ?_, fun z => absurd rfl z⟩
    refine q rws H3 rfl ((FrO.same s02).trans f3) ?_
    rw [moves_len hms, List.take_length] at hT3
    exact hT3
end
end PR
end

section
set_option maxHeartbeats 4000000
namespace PR
open PySem L2 PySem.Spec PyProof.Rows PySem.EX NdefX ItX
local macro_rules | `(tactic| walk_at "st") => `(tactic| first | with_reducible exact setAt_z | with_reducible exact setAt_s (by walk_at "st"))
local macro_rules | `(tactic| walk_at "rd1") => `(tactic| first
  | walk_at "sq"
  | with_reducible refine Rd.nxE ?_
  | with_reducible refine Rd.rtE ?_
  | with_reducible refine Rd.ctE ?_
  | with_reducible refine Rd.bkE ?_
  | with_reducible refine Rd.asg ?_
  | ((with_reducible refine' Rd.gnameW ?h0 ?hs ?_); (case h0 => walk_at "wi"); (case hs => walk_at "st"))
  | ((with_reducible refine' Rd.gname ?hs ?_); (case hs => walk_at "st"))
  | with_reducible refine Rd.ifS ?_
  | with_reducible refine Rd.ret ?_
  | with_reducible refine Rd.retN ?_
  | with_reducible refine Rd.drop ?_
  | with_reducible refine Rd.next ?_
  | ((with_reducible refine' Rd.var ?hv ?_); (case hv => exact rfl))
  | with_reducible refine Rd.c ?_
  | with_reducible refine Rd.op ?_
  | with_reducible refine Rd.un ?_
  | with_reducible refine Rd.neg ?_
  | with_reducible refine Rd.i0 ?_
  | with_reducible refine Rd.test ?_
  | with_reducible refine Rd.chain ?_
  | with_reducible refine Rd.tB ?_
  | with_reducible refine Rd.bl ?_
  | with_reducible refine Rd.not ?_
  | with_reducible refine Rd.and ?_
  | with_reducible refine Rd.or ?_
  | with_reducible refine Rd.andV ?_
  | with_reducible refine Rd.orV ?_
  | with_reducible refine Rd.notV ?_
  | with_reducible refine Rd.nilA ?_
  | with_reducible refine Rd.consA ?_
  | with_reducible refine Rd.cb ?_
  | with_reducible refine Rd.int1 ?_
  | with_reducible refine Rd.abs1 ?_
  | with_reducible refine Rd.gsub ?_
  | with_reducible refine Rd.tpar ?_
  | ((with_reducible refine' Rd.par ?hs ?ht ?_); (case hs => walk_at "st"); (case ht => walk_at "st"))
  | with_reducible refine Rd.ttup ?_
  | with_reducible refine Rd.tlst ?_
  | with_reducible refine Rd.isN ?_
  | with_reducible refine Rd.call ?_
  | with_reducible refine Rd.sl ?_
  | with_reducible refine Rd.noPart ?_
  | with_reducible refine Rd.part ?_
  | with_reducible refine Rd.ex_int ?_
  | with_reducible refine Rd.bm ?_
  | with_reducible refine Rd.tfld ?_
  | with_reducible refine Rd.tforT fun TB hTB => ?_
  | with_reducible refine Rd.tlc ?_
  | with_reducible refine Rd.mk1 ?_
  | with_reducible refine Rd.tdc ?_
  | with_reducible refine Rd.sfld ?_
  | with_reducible refine Rd.methP ?_
  | with_reducible refine Rd.xf ?_

  | with_reducible refine Rd.itemP ?_
  | with_reducible refine Rd.ost ?_
  | with_reducible refine Rd.enumT ?_
  | ((with_reducible refine' Rd.enumTAt ?h1 ?_); (case h1 => walk_at "lk"))
  | with_reducible refine Rd.meth ?_
  | with_reducible refine Rd.make ?_
  | with_reducible refine Rd.prop ?_
  | with_reducible refine Rd.item ?_
  | with_reducible refine Rd.sprop ?_
  | with_reducible refine Rd.star ?_
  | ((with_reducible refine' Rd.starL ?h1 ?_); (case h1 => walk_at "lk"))
  | with_reducible refine Rd.tdget ?_
  | ((with_reducible refine' Rd.fld ?h1 ?h2 ?h3 ?h4 ?_); (case h1 => walk_at "lk"); (case h2 => walk_at "cl"); (case h3 => walk_at "na"); (case h4 => walk_at "fl"))
  | ((with_reducible refine' Rd.ty ?h1 ?_); (case h1 => walk_at "lk"))
  | with_reducible refine Rd.tyes ?_
  | with_reducible refine Rd.noN ?_
  | with_reducible refine Rd.noNr ?_
  | with_reducible refine Rd.yesN ?_
  | with_reducible refine Rd.yesI ?_
  | with_reducible refine Rd.yesR ?_
  | with_reducible refine Rd.noNN ?_
  | with_reducible refine Rd.yes rfl ?_
  | with_reducible refine Rd.no Bool.false_ne_true ?_
  | ((with_reducible refine' Rd.wp ?h1 ?_); (case h1 => exact rfl))
  | ((with_reducible refine' Rd.isi ?h1 ?h2 ?_); (case h1 => walk_at "lk"); (case h2 => first | exact kit_int (dp_nodict (by with_reducible assumption)) | exact kit_bool (dp_nodict (by with_reducible assumption))))
  | with_reducible refine Rd.enum ?_
  | ((with_reducible refine' Rd.enumAt ?h1 ?_); (case h1 => walk_at "lk"))
  | with_reducible refine Rd.rng1 ?_
  | with_reducible refine Rd.rng2 ?_
  | with_reducible refine Rd.ilist ?_
  | with_reducible refine Rd.itup ?_
  | ((with_reducible refine' Rd.ilistAt ?h1 ?_); (case h1 => walk_at "lk"))
  | ((with_reducible refine' Rd.itupAt ?h1 ?_); (case h1 => walk_at "lk"))
  | ((with_reducible refine' Rd.slL ?h1 (fun q H1 nq sq hq => ?_)); (case h1 => walk_at "lk"))
  | with_reducible refine Rd.gcons ?_
  | with_reducible refine Rd.gnil ?_
  | ((with_reducible refine' Rd.gtup ?h1 ?h2 ?_); (case h1 => walk_at "lk"); (case h2 => exact rfl))
  | ((with_reducible refine' Rd.lenL ?h1 ?_); (case h1 => walk_at "lk"))
  | ((with_reducible refine' Rd.lenT ?h1 ?_); (case h1 => walk_at "lk"))
  | ((with_reducible refine' Rd.ixA ?h1 ?h2 ?_); (case h1 => walk_at "lk"); (case h2 => exact rfl))
  | ((with_reducible refine' Rd.ixB ?h1 ?h2 ?_); (case h1 => walk_at "lk"); (case h2 => exact rfl))
  | ((with_reducible refine' Rd.ixL ?h1 ?h2 ?_); (case h1 => walk_at "lk"); (case h2 => exact rfl))
  | ((with_reducible refine' Rd.newAt ?h1 (fun p H1 np sp hp => ?_)); (case h1 => exact sz_small (Nat.le_of_ble_eq_true rfl)))
  | ((with_reducible refine' Rd.ic ?h1 ?_); (case h1 => walk_at "sd"))
  | ((with_reducible refine' Rd.setL ?h1 ?h2 ?h3 ?_); (case h1 => walk_at "lk"); (case h2 => exact rfl); (case h3 => walk_at "st")))
local macro_rules | `(tactic| walk_at "rd") => `(tactic| repeat walk_at "rd1")
local macro_rules | `(tactic| walk_at "lk") => `(tactic| first
  | with_reducible assumption
  | exact upd_same
  | exact SqL.of upd_same
  | exact SqT.of upd_same
  | exact SqL.of (by with_reducible assumption)
  | exact SqT.of (by with_reducible assumption)
  | ((with_reducible refine' same_get ?lks ?lkh); (case lks => with_reducible assumption); (case lkh => walk_at "lk"))
  | ((with_reducible refine' Same.seq ?lks ?lkh); (case lks => with_reducible assumption); (case lkh => walk_at "lk"))
  | ((with_reducible refine' sqT_mono ?lks ?lkh); (case lks => with_reducible assumption); (case lkh => walk_at "lk"))
  | ((with_reducible refine' dp_mono ?lks ?lkh); (case lks => with_reducible assumption); (case lkh => walk_at "lk")))
local macro_rules | `(tactic| walk_at "sd") => `(tactic| first
  | with_reducible assumption
  | decide
  | omega
  | exact Or.inl ⟨by decide, by decide⟩
  | exact ⟨by decide, by decide, by decide⟩
  | exact Or.inr ⟨by decide, by decide⟩
  | exact Or.inl ⟨by omega, by omega⟩
  | exact wide_div (by decide) (by decide : _ < 2 ^ 200) (by decide) (by decide)
  | exact wide_div (by with_reducible assumption) (by assumption : _ < 2 ^ 200) (by decide) (by decide))

local macro_rules | `(tactic| walk_at "cl") => `(tactic| first | exact ct_k (by with_reducible assumption) | exact cl_Tree (by with_reducible assumption) | exact cl_Spot (by with_reducible assumption) | exact cl_Edit (by with_reducible assumption))
local macro_rules | `(tactic| walk_at "na") => `(tactic| first | exact ct_rows (by with_reducible assumption) | exact ct_left (by with_reducible assumption) | exact na_rows (by with_reducible assumption) | exact na_left (by with_reducible assumption) | exact na_tree (by with_reducible assumption) | exact na_key (by with_reducible assumption) | exact na_etree (by with_reducible assumption) | exact na_saved (by with_reducible assumption))
local macro_rules | `(tactic| walk_at "fl") => `(tactic| first | exact lk_head | exact lk_second (by decide +kernel))
local macro_rules | `(tactic| walk_at "wi") => `(tactic| first | (simp only [wipe, List.map_cons, List.map_nil, List.set_cons_succ, List.set_cons_zero]; done) | (simp only [wipe, List.map_cons, List.map_nil, List.set_cons_succ, List.set_cons_zero]; exact rfl))

set_option hygiene false in
local macro_rules | `(tactic| walk_at "sq") => `(tactic| with_reducible refine Rd.seqT fun S2 hS2 => ?_)
set_option hygiene false in
local macro_rules | `(tactic| walk_at "nx") => `(tactic| subst hS2)

section
variable {P : Program} {w : World} {K : PySem.W.Frag} {mg : Str → Option Value} {base : Heap} {A : Ad} {C : Addr}
def spTLen (K : PySem.W.Frag) : Sp := fun vs H Q _ => ∃ t C dx rest rows, vs = [.ref t] ∧ ClsT K C ∧ TreeAt K C dx rest H t rows ∧ Q (.int (rows.length : Nat)) H
theorem ok_T_len (T : Txt P K mg A) : FnOk P w K mg base (L2N.CX P w) 1 A.f_T_len A.d_T_len ["self"] (spTLen K) := by
  refine T.F_T_len.okN sc_Tree___len__ (fun vs H Q E h => ?_) (fun cdv Ar outer s H vs Q E hr h => ?_)
  · obtain ⟨t, C, dx, rest, rows, rfl, _⟩ := h
    rfl
  · obtain ⟨t, C, dx, rest, rows, rfl, hCT, hT, q⟩ := h
    refine ⟨_, (pss_one (ps_ret (pe_callB (Kx.call_len (K := K) rfl) (by rfl) T.n_len PySem.boot_len (pa_cons (Kx.pe_fld (K := K) rfl (pv 0) rfl) pa_nil)))), ?_⟩
    try dsimp only [cxOf]
    rw [show L2.start ["self"] [V.ref t] = [some (V.ref t)] from rfl]
    obtain ⟨hrest, a, ht, hR⟩ := hT
    obtain ⟨xs, hS, hX⟩ := hR
    walk_at "rd"
    rw [dpAll_len hX, List.length_map]
    exact q
/-- the tree's own list -/
def okT (K : PySem.W.Frag) (a : Addr) (H : Hp) (l : Addr) : Prop := ∃ C dx rest xs, H a = some (.ins C dx (("rows", .ref l) :: rest)) ∧ ClsT K C ∧ SqL K H l xs
theorem okT_mono {a l : Addr} {H H' : Hp} (s : Same H H') (h : okT K a H l) : okT K a H' l := by
  obtain ⟨C, dx, rest, xs, h1, h2, h3⟩ := h
  exact ⟨C, dx, rest, xs, s _ _ h1, h2, s.seq h3⟩
theorem ns_T_iter : NScope ["self"] ["self"] [] (defScope s_Tree___iter__) := nscope_by (by decide +kernel)
theorem ok_T_iter (T : Txt P K mg A) : FnZ P w K mg base (L2N.CX P w) 1 A.f_T_iter (spIt K (okT K)) := by
  refine fnZ_of T.F_T_iter ns_T_iter (fun n vs H Q E h => ?_) (fun _ _ _ _ _ _ us hl => match us, hl with | [_], _ => rfl) (fun cda Ar outer s H vs Q E hr h => ?_)
  · obtain ⟨a, l, rfl, _⟩ := h
    rfl
  · obtain ⟨t, l, rfl, ⟨C, dx, rest, xs, ht, hCT, hS⟩, q⟩ := h
    refine ⟨_, pss_one (ps_ret (pe_callB (call_iterN (X := ncx _ P w K mg base _ _ _ _ _ _ _ _)) (by rfl) T.n_iter (by decide +kernel) (pa_cons (Kx.pe_fld (K := K) rfl (pv 0) rfl) pa_nil))), ?_⟩
    try dsimp only [ncx]
    rw [show startF ["self"] [V.ref t] [] = [some (V.ref t)] from rfl]
    walk_at "rd"
    exact ⟨l, xs, rfl, hS, q⟩
end
end PR
end

section
set_option maxHeartbeats 4000000
/-! try .. except C: .. raise, the block said at the def's own activation; raise alone -/
namespace PR
open PySem PySem.Spec PyProof.Rows L2 L2H HotX
theorem wpAt_attempt {α : Type} {M : Model} {A : Around} {c : Code} {E : Value → Shared → Prop} {s : Shared} {m : Sem α} {Q : Except Value α → Shared → Prop} (h : PySem.wpAt M A c m (fun a => Q (.ok a)) (fun e => Q (.error e)) s) : PySem.wpAt M A c m.attempt Q E s :=
  fun Γ p hc hΓ => by rw [Sem.wp_attempt]; exact h Γ p hc hΓ
theorem wpAt_Try {prog : Program} {w : World} {A : Around} {c : Code} {E : Value → Shared → Prop} {s : Shared} {env : Env} {body : List Stmt} {h₀ : ExceptHandler} {hs : List ExceptHandler} {pos : Pos} {Q : Flow → Shared → Prop}
    (h : PySem.wpAt (model prog w) A c (execs body env) (fun f s₁ => match f with | .next => wpAny (model prog w) A (execs [] env) Q E s₁ | f => Q f s₁)
      (fun e s₁ => wpAny (model prog w) A (noteFrame e env) (fun _ s₂ => wpAny (model prog w) A (setFlight e none) (fun _ s₃ => wpAny (model prog w) A (handleBy e env (h₀ :: hs)) Q E s₃) E s₂) E s₁) s) :
    PySem.wpAt (model prog w) A c (exec (.Try body (h₀ :: hs) [] [] pos) env) Q E s := by
  rw [arm_exec_Try]
  refine PySem.wpAt_bind (PySem.wpAt_of_wpAny (wpAny_standAt ?_))
  unfold tryStmt
  simp only [List.isEmpty_nil, if_true, List.isEmpty_cons, Bool.false_and, Bool.false_eq_true, if_false]
  refine PySem.wpAt_bind (wpAt_attempt (PySem.wpAt_mono h (fun f s₁ h₁ => ?_) fun e s₁ h₁ => ?_))
  · cases f <;> first | exact PySem.wpAt_of_wpAny h₁ | exact PySem.wpAt_of_wpAny (wpAny_pure h₁)
  · exact PySem.wpAt_of_wpAny (wpAny_bind (wpAny_mono h₁ (fun _ _ h₂ => wpAny_bind h₂) fun _ _ x => x))
section
variable {X : Cx} {pins : List (Addr × Obj)} {σ : L2.St} {H : Hp}
/-- raise alone: what is held flies again -/
theorem air_raise {s6 : Shared} {x t : Addr} {ox ot : Obj} {va vt : Array Value} {fl cls : Value} {d : Option Addr} {Wout : WX} {Q : Flow → Shared → Prop} (hs : X.stack = X.env :: X.outer) (hf : X.env.frame = some X.env.locals)
    (a : Air X pins (Zc cls d) x t ox ot va vt fl) (tk : Takes X Wout) (J : Inv X ((x, ox) :: (t, ot) :: pins) σ H s6) (w : Wout cls d σ H) : wpAny (model X.prog X.w) (X.A.mark (some (.ref x))) (raiseBare X.env) Q X.xe s6 := by
  have px := J.pin (x, ox) (List.mem_append_right _ List.mem_cons_self)
  have pt := J.pin (t, ot) (List.mem_append_right _ (List.mem_cons_of_mem _ List.mem_cons_self))
  have gx : s6.heap.get? x = some ox := px.1
  have gt : s6.heap.get? t = some ot := pt.1
  have J0 : Inv X pins σ H s6 := J.pins_of fun p hp => J.pin p (List.mem_append_right _ (List.mem_cons_of_mem _ (List.mem_cons_of_mem _ hp)))
  obtain ⟨G, g1, g2⟩ := restrict s6.heap fun b => !(decide (b = x) || decide (b = t))
  have gin : ∀ b o, G.get? b = some o → s6.heap.get? b = some o ∧ b ≠ x ∧ b ≠ t := fun b o eb => by
    cases q : (!(decide (b = x) || decide (b = t))) with
    | false =>
      rw [g2 b q] at eb
      cases eb
    | true =>
      rw [g1 b q] at eb
      simp only [Bool.not_eq_true', Bool.or_eq_false_iff, decide_eq_false_iff_not] at q
      exact ⟨eb, q.1, q.2⟩
  have gof : ∀ b o, b ≠ x → b ≠ t → s6.heap.get? b = some o → G.get? b = some o := fun b o n1 n2 eb => by
    rw [g1 b (by simp [n1, n2])]
    exact eb
  have I6 : Inv X pins σ H { s6 with heap := G } := J0.less (fun b o eb => (gin b o eb).1) gof ⟨ox, va, gx, a.dx⟩ ⟨ot, vt, gt, a.dt⟩ px.2.1 pt.2.1 a.far a.farP
  have bin : ∀ b o, (PySem.W.hideAll G (frs X.stack)).get? b = some o → s6.heap.get? b = some o := fun b o eb => (gin b o (PySem.W.of_hideAll _ eb)).1
  have bno : ∀ b, (b = x ∨ b = t) → (PySem.W.hideAll G (frs X.stack)).get? b = none := fun b hb => by
    cases q : (PySem.W.hideAll G (frs X.stack)).get? b with
    | none => rfl
    | some o =>
      obtain ⟨_, n1, n2⟩ := gin b o (PySem.W.of_hideAll _ q)
      rcases hb with z | z
      · exact absurd z n1
      · exact absurd z n2
  have ff : s6.heap.FunFrames (PySem.W.hideAll G (frs X.stack)) (X.env :: X.outer) := by
    have f0 := funFrames_none (B := PySem.W.hideAll G (frs X.stack)) J0.stack fun b hb => PySem.W.hideAll_none _ hb
    rw [← hs]
    exact f0
  have tr : HandSPX.TracedZ s6.heap (PySem.W.hideAll G (frs X.stack)) x (Zc cls d) fl := ⟨ox, va, t, ot, vt, gx, a.z, a.dx, a.v1, bno t (.inr rfl), a.ne, gt, a.dt, a.v3⟩
  unfold raiseBare raiseStmt
  dsimp only
  refine wpAny_bind (wpAny_handled ?_)
  rw [show (X.A.mark (some (.ref x))).handled = some (.ref x) from rfl]
  dsimp only
  refine wpAny_bind (wpAny_rule ?_)
  refine wpAny_bind (wpAny_field gx a.dx a.v1 ?_)
  rw [if_neg (show ¬ ((Value.ref t == Value.none) = true) from by simp)]
  have go : wpAny (model X.prog X.w) (X.A.mark (some (.ref x))) (setFlight (.ref x) X.env.frame) (fun _ s7 => wpAny (model X.prog X.w) (X.A.mark (some (.ref x))) (throw (.ref x) : Sem Flow) Q X.xe s7) X.xe s6 := by
    rw [hf]
    refine HandSPX.setFlight_anyZ (fr := some X.env.locals) bin ff tr fun h7 k1 k2 k3 k4 => wpAny_throw (tk _ _ ?_)
    refine ⟨x, PySem.W.hideAll G (frs X.stack), { s6 with heap := G }, pins, σ, H, cls, d, rfl, I6, fun b o eb hb => PySem.W.hideAll_get _ eb hb, ?_, .inr (.inr ?_), px.2.1, rfl, J0.bare, w⟩
    · exact Heap.UpToSlots.trans (Heap.UpToSlots.of_keeps fun b o eb => (gin b o eb).1) k4
    · exact ⟨k1, bno x (.inl rfl), by rw [← hs] at k2; exact k2, k3⟩
  first
    | exact wpAny_bind (wpAny_pure (wpAny_bind go))
    | exact wpAny_bind go
end
section
variable {X : Cx} {body : List Stmt} {pos : Pos} {tb : WX → TS} {Wout : WX} {y : Str} {c : Value} {b₀ : Stmt} {suite : List Stmt} {np pos' : Pos} {ts : Addr → Value → Option Addr → TS}
/-- that the suite may raise again what it holds -/
def ReR (Y : Cx) (xe : Value → Shared → Prop) (cls : Value) (d : Option Addr) (W : WX) : Prop := ∀ (pins : List (Addr × Obj)) (s : Shared) (σ : L2.St) (H : Hp) (Q : Flow → Shared → Prop), Inv Y pins σ H s → W cls d σ H → wpAny (model Y.prog Y.w) Y.A (raiseBare Y.env) Q xe s
theorem ps_reraise {cls : Value} {d : Option Addr} {W : WX} (R : ReR X X.xe cls d W) : PS X (.Raise none none pos) (fun _ σ H => W cls d σ H) := ⟨fun pins s σ H D I h => wpAny_Raise_bare (R pins s σ H _ I h)⟩
def wRe (K : PySem.W.Frag) (c : Value) (Wout : WX) (ts : Addr → Value → Option Addr → TS) (D : Ends) : WX := fun cls d σ H => ∃ b, PySem.W.exmOne K cls c = some b ∧ (b = true → ∀ a, H a = none → ts a cls d D σ H) ∧ (b = false → Wout cls d σ H)
theorem psu_tryRe {K : PySem.W.Frag} (hK : X.K = K) (hs : X.stack = X.env :: X.outer) (hf : X.env.frame = some X.env.locals) (hex : X.ex = []) (hpa : ∀ hd : Option Value, PassesOwnAt (model X.prog X.w) (X.A.mark hd) X.A X.env X.xe) (tk : Takes X Wout)
    (hb : ∀ (W : WX) (pn : List (Addr × Obj)) (xe : Value → Shared → Prop), L2.Takes (X.tr pn xe) W → PSsU (X.tr pn xe) body (tb W)) (hc : Names X y c)
    (hsu : ∀ (a : Addr) (oe : Obj) (cls : Value) (d : Option Addr) (pn : List (Addr × Obj)), Zc cls d oe → (∃ vs, oe.data = .fields vs) → ReR (suiteN X a ((a, oe) :: pn) X.xe) X.xe cls d Wout → PSs (suiteN X a ((a, oe) :: pn) X.xe) (b₀ :: suite) (ts a cls d)) :
    PSU X (.Try body [.ExceptHandler (some (.Name y np)) none (b₀ :: suite) pos'] [] [] pos) (fun D σ H => tb (wRe K c Wout ts D) D σ H) := by
  subst hK
  intro bd pins s σ H D I h
  have ok := I.ok
  have hfr : X.A.frames = some (X.env :: X.outer) := by rw [ok.frames, hs]
  refine wpAt_Try ?_
  refine PySem.wpAt_mono ((hb (wRe X.K c Wout ts D) (X.pn ++ pins) (fun e s₁ => wpAny (model X.prog X.w) X.A (noteFrame e X.env) (fun _ s₂ => wpAny (model X.prog X.w) X.A (setFlight e none) (fun _ s₃ =>
    wpAny (model X.prog X.w) X.A (handleBy e X.env [.ExceptHandler (some (.Name y np)) none (b₀ :: suite) pos']) (SP X pins D) X.xe s₃) X.xe s₂) X.xe s₁) (fun u s' xx => ?_)) bd [] s σ H D (I.toTry _) h) (fun f s1 hsp => ?_) (fun e s1 he => he)
  · obtain ⟨x, B, sI, pins', σ1, H1, cls, d, rfl, J', nb, up, sky, na, os, ag, w⟩ := xx
    have J : Inv X pins σ1 H1 sI := J'.ofTry ok
    have sky1 : Sky B (X.env :: X.outer) x (Zc cls d) X.env.locals s'.heap := by rw [← hs]; exact sky
    show wpAny (model X.prog X.w) X.A (noteFrame (.ref x) X.env) _ _ _
    refine L2.Sky.land Zc.steady hfr hf sky1 fun h3 fl3 up3 => ?_
    obtain ⟨t, ox, ot, va, vt, air, gx, gt, ht, nL, nF, J3⟩ := air_in (s' := { s' with heap := h3 }) hs hf hex J nb (up.trans up3) fl3.1 fl3.2.1 fl3.2.2.1 fl3.2.2.2 na os ag
    have J2 : Inv X pins σ1 H1 { s' with heap := h3 } := J3.pins_of fun p hp => J3.pin p (List.mem_append_right _ (List.mem_cons_of_mem _ (List.mem_cons_of_mem _ hp)))
    have S3 := J2.suite gx air.dx na nL nF
    have zc : Zc cls d ox := air.z
    have test : ∀ {Q : Value → Shared → Prop} {E : Value → Shared → Prop}, Q c { s' with heap := h3 } → wpAny (model X.prog X.w) (X.A.mark (some (.ref x))) (eval (.Name y np) X.env) Q E { s' with heap := h3 } := fun {Q E} q => by
      obtain ⟨hg, hdbg, hm | ⟨hm, hv, hnn⟩⟩ := hc
      · exact ld_glob (X := X.suite x ((x, ox) :: (X.pn ++ pins))) S3 hg hm q hdbg
      · exact ld_blt (X := X.suite x ((x, ox) :: (X.pn ++ pins))) S3 hg hm hv q hnn hdbg
    have LT : PySem.W.Looks (model X.prog X.w) h3 (typeOf (.ref x)) cls := fun A Q E s k q => wpAny_typeOf_ref (k _ _ gx) (by rw [zc.1]; exact q)
    obtain ⟨b, hb1, hyes, hno⟩ := w
    refine wpAny_handleBy_cons (codeAny_handlers_test ?_) (by intro q; cases q)
    refine test ((PySem.W.exm_one (M := model X.prog X.w) J2.kIn LT hb1).here ?_)
    cases b with
    | false => exact wpAny_handleBy_nil (air_out hs hf ⟨zc, air.dx, air.v1, air.ne, air.dt, air.v3, air.far, air.farP⟩ tk J3 (hno rfl))
    | true =>
      refine codeAny_handlers_suite ?_
      refine HandSPX.lands_againZ fl3 fun h4 fl4 up4 => ?_
      obtain ⟨t4, o4, ot4, v4, vt4, air4, g4, gt4, ht4, nL4, nF4, J4⟩ := air_in (s' := { s' with heap := h4 }) hs hf hex J nb ((up.trans up3).trans up4) fl4.1 fl4.2.1 fl4.2.2.1 fl4.2.2.2 na os ag
      have J5 : Inv X ((t4, ot4) :: pins) σ1 H1 { s' with heap := h4 } := J4.pins_of fun p hp => J4.pin p (List.mem_append_right _ (List.mem_cons_of_mem _ hp))
      have S4 := J5.suite g4 air4.dx na nL4 nF4
      have R : ReR (suiteN X x ((x, o4) :: (X.pn ++ ((t4, ot4) :: pins))) X.xe) X.xe cls d Wout := fun pins5 s5 σ5 H5 Q I5 w5 => by
        have K5 : Inv X ((t4, ot4) :: pins) σ5 H5 s5 := unsuiteX I5 ok
        have px : s5.heap.get? x = some o4 ∧ H5 x = none ∧ x ≠ X.env.locals ∧ x ∉ X.fs ∧ ∀ v, o4.data ≠ .cell v := I5.pin (x, o4) (List.mem_append_left _ List.mem_cons_self)
        have K6 : Inv X ((x, o4) :: (t4, ot4) :: pins) σ5 H5 s5 := K5.pins_of fun p hp => by
          rcases List.mem_cons.mp hp with e | e
          · rw [e]; exact px
          · exact K5.pin p (List.mem_append_right _ e)
        exact air_raise (X := X) hs hf air4 tk K6 w5
      refine wpAny_mono ((hsu x o4 cls d (X.pn ++ ((t4, ot4) :: pins)) air4.z ⟨_, air4.dx⟩ R).run [] _ _ H1 _ (suiteX_of S4) (hyes rfl x na)) (fun f s6 hsp => ?_) (fun e6 s6 z => hpa (some (.ref x)) e6 s6 z)
      have back : ∀ {σ6 : L2.St} {H6 : Hp}, Inv (suiteX X x ((x, o4) :: (X.pn ++ ((t4, ot4) :: pins)))) [] σ6 H6 s6 → Inv X pins σ6 H6 s6 := fun {σ6 H6} I6 => by
        have K5 : Inv X ((t4, ot4) :: pins) σ6 H6 s6 := unsuiteX I6 ok
        exact K5.pins_of fun p hp => K5.pin p (List.mem_append_right _ (List.mem_cons_of_mem _ hp))
      cases f with
      | next =>
        obtain ⟨σ6, H6, S6, q6⟩ := hsp
        exact ⟨_, _, back S6, q6⟩
      | brk =>
        obtain ⟨σ6, H6, S6, q6⟩ := hsp
        exact ⟨_, _, back S6, q6⟩
      | cont =>
        obtain ⟨σ6, H6, S6, q6⟩ := hsp
        exact ⟨_, _, back S6, q6⟩
      | ret u =>
        obtain ⟨v6, σ6, H6, S6, r6, q6⟩ := hsp
        exact ⟨_, _, _, back S6, r6, q6⟩
  · cases f with
    | next =>
      obtain ⟨σ1, H1, J1, q⟩ := hsp
      exact wpAny_execs_nil ⟨σ1, H1, J1.ofTry ok, q⟩
    | brk =>
      obtain ⟨σ1, H1, J1, q⟩ := hsp
      exact ⟨σ1, H1, J1.ofTry ok, q⟩
    | cont =>
      obtain ⟨σ1, H1, J1, q⟩ := hsp
      exact ⟨σ1, H1, J1.ofTry ok, q⟩
    | ret u =>
      obtain ⟨v, σ1, H1, J1, r, q⟩ := hsp
      exact ⟨v, σ1, H1, J1.ofTry ok, r, q⟩
end
end PR
end

section
set_option maxHeartbeats 4000000
/-! defs with a star parameter that say super().m(*v) -/
namespace PR
open PySem L2 PySem.Spec PyProof.Rows NdefX StX
theorem codeAny_call_defB {prog : Program} {w : World} {A : Around} {s : Shared} {R : Result → Shared → Prop} {a : Addr} {o : Obj} {fd : FuncData} {body : List Stmt} {args : Args}
    (hroom : A.depth < recursionLimit) (ho : s.heap.get? a = some o) (hdata : o.data = .func fd) (hcd : s.heap.CodeRec fd.code fd.qualname) (hbody : fd.body = .stmts body) (hcell : ∀ x ∈ fd.scope.names, x.2 ≠ .cell)
    (hb : wpAny (model prog w) A.in1 (bindArgs fd args) (fun binds s₁ => s₁.heap.NoLimit ∧ (∀ x ∈ binds, fd.scope.names.lookup x.1 = some .local) ∧ ∀ h₀, h₀.Ns s₁.heap.objs.size (fun x => binds.reverse.lookup x) → (∀ b o, s₁.heap.get? b = some o → h₀.get? b = some o) →
      PySem.wpAt (model prog w) (A.deeper (callEnv fd s₁.heap.objs.size a)) (.func body (callEnv fd s₁.heap.objs.size a)) (execs body (callEnv fd s₁.heap.objs.size a)) (fun f s' => R (.ok (.ret (match f with | .ret v => v | _ => .none))) s')
        (fun e s' => wpAny (model prog w) (A.deeper (callEnv fd s₁.heap.objs.size a)) (leaving (callEnv fd s₁.heap.objs.size a) e) (fun _ s'' => R (.error e) s'') (fun e' s'' => R (.error e') s'') s')
        { s₁ with heap := h₀, toks := s₁.toks + binds.length }) (fun e s' => R (.error e) s') s)
    (hco : fd.scope.isCoroutine = false := by rfl) (hgen : fd.scope.isGenerator = false := by rfl) (hk : fd.scope.kind = .function := by rfl) : codeAny (model prog w) A (.call (.ref a) args) R s := by
  refine codeAny_call_function hroom ho hdata hco hgen hbody hcd (wpAny_mono hb (fun binds s₁ ⟨hlim, hloc, h⟩ => ?_) fun _ _ z => z)
  refine wpAny_newFunctionEnv hcell hloc (fun h₀ hns₀ hsb₀ => ⟨hlim.fresh _ hsb₀, PySem.ks_codeAny_funcAt (h h₀ hns₀ fun b o e => ?_)⟩) hk
  exact hsb₀.extBut b o (Nat.ne_of_lt (Heap.lt_size e)) (Heap.get?_push_of_some _ e)
section
variable {P : Program} {w : World} {K : PySem.W.Frag} {mg : Str → Option Value} {base : Heap} {CX : CXT} {x qual : Str} {params : Arguments} {body : List Stmt} {scope : Scope} {dvs : List V} {f D cda cc : Addr} {fd : FuncData} {N ps : List Str} {pv : Str} {k : Nat} {sp : Sp}
/-- THE RULE for such a def whose last parameter is starred -/
theorem FunU.okS (F : FunU P K x qual params body scope [] f fd D cda cc) (S : NScope N (ps ++ [pv]) ["__class__"] scope) (hCX : CXUp CX)
    (hb : ∀ (kV doc pm : Value) (an : Option Addr) (ct : Value) (us rest : List Value), us.length = ps.length → bindArgs (PySem.W.fnX x qual params body scope [("__class__", cc)] .none kV doc pm an (.ref cda) ct) ⟨us ++ rest, []⟩ = (newTuple rest >>= fun t => pure (ps.zip us ++ [(pv, t)])))
    (hbody : ∀ (A : Around) (outer : List Env) (s : Shared) (H : Hp) (vs : List V) (Q : VK) (E : XK), Room k (A.deeper (envF (nfU x qual params body scope cda cc) f s.heap.objs.size)) → sp vs H Q E →
      ∃ t, PSsU (ncx CX P w K mg base N (nfU x qual params body scope cda cc) f A outer s H E) body t ∧ t { nx := fun _ H' => Q .non H', rt := Q } (startF N vs [none]) H) :
    FnR P w K mg base CX (k + 1) f (fun vs H Q E => ∃ ws rest, vs = ws ++ rest ∧ ws.length = ps.length ∧ rest.length ≤ sizeLine ∧ ∀ p, H p = Option.none → sp (ws ++ [V.ref p]) (upd H p (.tup rest)) Q E) := by
  obtain ⟨oc, od, dV, kV, doc, pm, an, ct, osl, e, lk, hcd, hD⟩ := F.ex
  obtain ⟨cl, cld, csl, hcell⟩ := F.cell
  subst e
  obtain rfl : dV = .none := by
    rcases hD with ⟨_, z⟩ | ⟨z, _⟩
    · exact z
    · exact absurd rfl z
  intro A outer s H us vs Q E hr e0 r hsp
  obtain ⟨ws, rest, ev, hl, hz, hq⟩ := hsp
  subst ev
  obtain ⟨u1, u2, eu, r1, r2⟩ := vals_split r
  subst eu
  have KX : K.In s.heap := e0.mod.kin.keeps fun b o z => (e0.bs b o z).1
  have hn : H s.heap.objs.size = Option.none := e0.hok.fresh (Nat.le_refl _)
  have hl1 : u1.length = ps.length := by rw [← r1.length]; exact hl
  have hl2 : u2.length ≤ sizeLine := by rw [← r2.length]; exact hz
  refine codeAny_call_defB (fd := PySem.W.fnX x qual params body scope [("__class__", cc)] .none kV doc pm an (.ref cda) ct) (body := body) hr.depth (KX _ _ lk) rfl (PySem.W.codeRec_of KX hcd) rfl S.nocell ?_ S.co S.gen S.kind
  rw [hb kV doc pm an ct u1 u2 hl1]
  refine wpAny_bind (wpAny_newTuple (wpAny_pure ?_) hl2)
  have new : ObjOk P w (upd H s.heap.objs.size (.tup rest)) (s.heap.push ({ cls := .type "tuple", data := .seq u2.toArray } : Obj)) s.heap.objs.size (.tup rest) := ⟨hz, u2, r2, ⟨_, Heap.get?_push_size _ rfl, rfl, _, rfl⟩⟩
  have un : Un (frs outer) [] H (upd H s.heap.objs.size (.tup rest)) s.heap ({ s with heap := s.heap.push ({ cls := .type "tuple", data := .seq u2.toArray } : Obj) } : Shared).heap := un_laid (fs := frs outer) (s := s) (o := ({ cls := .type "tuple", data := .seq u2.toArray } : Obj)) (u := .tup rest) hn
  have e2 := env0_laid e0 new
  have hx : ∀ e s', CX outer (upd H s.heap.objs.size (.tup rest)) { s with heap := s.heap.push ({ cls := .type "tuple", data := .seq u2.toArray } : Obj) } E e s' → CX outer H s E e s' := fun e s' => hCX outer s H _ _ E e s' un (fun b o q => Heap.get?_push_of_some _ q) rfl
  have hsp2 := hq s.heap.objs.size hn
  have r' : Vals (ws ++ [V.ref s.heap.objs.size]) (u1 ++ [Value.ref s.heap.objs.size]) := r1.append (.cons rfl .nil)
  have hl' : (ws ++ [V.ref s.heap.objs.size]).length = (ps ++ [pv]).length := by rw [List.length_append, List.length_append, hl] <;> rfl
  have ez : ps.zip u1 ++ [(pv, Value.ref s.heap.objs.size)] = (ps ++ [pv]).zip (u1 ++ [Value.ref s.heap.objs.size]) := by rw [List.zip_append hl1.symm]; rfl
  have zo : ({ s with heap := s.heap.push ({ cls := .type "tuple", data := .seq u2.toArray } : Obj) } : Shared).os = s.os := rfl
  show _ ∧ _
  generalize upd H s.heap.objs.size (.tup rest) = H2 at e2 hx hsp2 un
  generalize ws ++ [V.ref s.heap.objs.size] = vs2 at hsp2 r' hl'
  rw [ez]
  generalize u1 ++ [Value.ref s.heap.objs.size] = us2 at r'
  generalize ({ s with heap := s.heap.push ({ cls := .type "tuple", data := .seq u2.toArray } : Obj) } : Shared) = s2 at e2 hx zo un
  have KX2 : K.In s2.heap := e2.mod.kin.keeps fun b o z => (e2.bs b o z).1
  have lim : s2.heap.NoLimit := e2.mod.nolimit.keeps fun b o z => (e2.bs b o z).1
  have hcc : H2 cc = none := (e2.bs _ _ (e2.mod.kin _ _ hcell)).2
  have hic : s2.heap.IsCell cc (some (.ref D)) := ⟨_, KX2 _ _ hcell, rfl⟩
  have C : CellsAt [("__class__", cc)] ["__class__"] [none] s2.heap H2 := by
    have one : ∀ (y : Str) (c : Addr), List.lookup y [(("__class__" : Str), cc)] = some c → y = "__class__" ∧ c = cc := fun y c z => by
      rw [List.lookup_cons] at z
      by_cases q : y = ("__class__" : Str)
      · subst q
        rw [beq_self_eq_true] at z
        exact ⟨rfl, (Option.some.inj z).symm⟩
      · rw [show (y == ("__class__" : Str)) = false from beq_eq_false_iff_ne.mpr q] at z
        cases z
    refine ⟨rfl, fun y c z => ?_, fun a b c z1 z2 => (one a c z1).1.trans (one b c z2).1.symm, fun i y z => ?_⟩
    · obtain ⟨_, rfl⟩ := one y c z
      exact ⟨hcc, _, hic⟩
    · cases i with
      | zero =>
        have : y = "__class__" := (Option.some.inj z).symm
        subst this
        exact ⟨cc, by rw [List.lookup_cons, beq_self_eq_true], fun v q => by cases q⟩
      | succ i => cases z
  refine ⟨lim, fun y hy => S.par y.1 (List.of_mem_zip hy).1, fun h₁ hns kp => ?_⟩
  obtain ⟨t, ht, hq'⟩ := hbody A outer s2 H2 vs2 Q E (hr.deeper _) hsp2
  have I : Inv (ncx CX P w K mg base N (nfU x qual params body scope cda cc) f A outer s2 H2 E) [] (startF N vs2 [none]) H2 { s2 with heap := h₁, toks := s2.toks + ((ps ++ [pv]).zip us2).length } := inv_startN S hr.hd e2 hl' r' C hns kp
  refine PySem.wpAt_mono (ht body [] _ (startF N vs2 [none]) H2 _ I hq') (fun fl s' hs => ?_) fun e s' hs => ?_
  · have fin : ∀ {σ' : L2.St} {H' : Hp} {v : V} {u : Value}, Inv (ncx CX P w K mg base N (nfU x qual params body scope cda cc) f A outer s2 H2 E) [] σ' H' s' → L2.RelV v u → Q v H' → CE outer P w H s Q u s' :=
      fun {σ' H' v u} J rv q => ⟨v, H', J.os.trans zo, J.bare, un.trans J.base, J.hok, rv, q⟩
    cases fl with
    | ret u =>
      obtain ⟨v, σ', H', J, rv, q⟩ := hs
      exact fin J rv q
    | next =>
      obtain ⟨σ', H', J, q⟩ := hs
      exact fin (v := V.non) (u := Value.none) J rfl q
    | brk =>
      obtain ⟨_, _, _, q⟩ := hs
      exact False.elim q
    | cont =>
      obtain ⟨_, _, _, q⟩ := hs
      exact False.elim q
  · exact wpAny_mono hs (fun _ s'' z => hx e s'' z) fun e' s'' z => hx e' s'' z
end
section
variable {P : Program} {K : PySem.W.Frag} {x qual : Str} {params : Arguments} {body : List Stmt} {scope : Scope} {dvs : List V} {f D cda cc : Addr} {fd : FuncData} {ps : List Str}
theorem FunU.binds (F : FunU P K x qual params body scope [] f fd D cda cc)
    (h : ∀ (kV doc pm : Value) (an : Option Addr) (ct : Value) (us : List Value), us.length = ps.length → bindArgs (PySem.W.fnX x qual params body scope [("__class__", cc)] .none kV doc pm an (.ref cda) ct) ⟨us, []⟩ = pure (ps.zip us)) : Binds K fd ps [] := by
  obtain ⟨oc, od, dV, kV, doc, pm, an, ct, osl, rfl, lk, hcd, hD⟩ := F.ex
  rcases hD with ⟨_, rfl⟩ | ⟨e, _⟩
  · exact .all (h kV doc pm an ct)
  · exact absurd rfl e
theorem FunU.binds1 (F : FunU P K x qual params body scope dvs f fd D cda cc) (n j : Nat) (hd : dvs ≠ []) (hn : n + (dvs.length - j) = ps.length)
    (h : ∀ (T : Addr) (kV doc pm : Value) (an : Option Addr) (ct : Value) (us its : List Value), us.length = n → its.length = dvs.length →
      ∃ k, bindArgs (PySem.W.fnX x qual params body scope [("__class__", cc)] (.ref T) kV doc pm an (.ref cda) ct) ⟨us, []⟩ = seqItems? (.ref T) >>= k ∧ k (some its.toArray) = pure (ps.zip (us ++ its.drop j))) : ∃ ds, Vals (dvs.drop j) ds ∧ Binds K fd ps ds := by
  obtain ⟨oc, od, dV, kV, doc, pm, an, ct, osl, rfl, lk, hcd, hD⟩ := F.ex
  rcases hD with ⟨e, _⟩ | ⟨_, T, o, its, m, rfl, lT, oT, rT⟩
  · exact absurd e hd
  · refine ⟨its.drop j, rT.drop j, fun s us X hlen => ?_⟩
    have l1 : its.length = dvs.length := rT.length.symm
    have l2 : us.length = n := by
      rw [List.length_append, List.length_drop, l1] at hlen
      omega
    obtain ⟨k, e1, e2⟩ := h T kV doc pm an ct us its l2 l1
    refine BindsTo.of_looks fun M => ?_
    rw [e1]
    exact looks_items X lT oT (.of_pure e2)
end
theorem pssu_one {X : Cx} {st : Stmt} {t : TS} (h : PSU X st t) : PSsU X [st] t := fun b pins s σ H D I q => pssu_cons h (pssu_of pss_nil) b pins s σ H D I q
section
variable {prog : Program} {w : World} {A : Around} {E : Value → Shared → Prop} {h : Heap} {g : Array GenState} {d : Drawn} {t : Nat} {os : OsState}
theorem getAttr_super {so D x C f : Addr} {of : Obj} {l₀ l : List Value} {K : PySem.W.Frag} {name : Str} {Q : Value → Shared → Prop}
    (hso : h.get? so = some { cls := .type "super", dict := none, data := .fields #[.ref D, .ref x, .ref C], slots := #[] }) (hno : PySem.W.Looks (model prog w) h (opaqueClassAbove (.ref C)) none)
    (hC : PySem.W.Looks (model prog w) h (mroOf (.ref C)) l₀) (hl : (l₀.dropWhile (· != .ref D)).drop 1 = l) (X : K.In h)
    (hf : PySem.W.alongIn K name l = some (some (.ref f))) (hfo : h.get? f = some of) (hfc : of.cls = .type "function") (hxC : x ≠ C) (hn : (name == ("__class__" : Str)) = false)
    (hq : Q (.ref h.objs.size) ⟨h.push { cls := .type "method", data := .fields #[.ref f, .ref x] }, g, d, t + 1, os⟩) :
    wpAny (model prog w) A (getAttr (.ref so) name true) Q E ⟨h, g, d, t, os⟩ := by
  have hlk := PySem.F.ks_slot_super_ga.lookup
  have hT : ∀ t', (⟨h, g, d, t', os⟩ : Shared).TypeIs (.ref so) "super" := fun _ => ⟨_, hso, rfl⟩
  unfold getAttr getAttrBy
  refine wpAny_bind (wpAny_mkText (wpAny_holding (wpAny_bind (wpAny_typeOf (hT _) (wpAny_bind (wpAny_of_eq hlk ?_))))))
  show wpAny _ _ (getAttrByItsOwn (.ref so) (.str name t) (.type "super") (.builtin "super.__getattribute__") true true) _ _ _
  unfold getAttrByItsOwn hookBefore callGetattribute boundAndCalled
  refine wpAny_bind (wpAny_of_eq (show (if onTheHeap (.type "super") then typeLookup (.type "super") "__getattr__" else pure none) = pure none from rfl) ?_)
  refine wpAny_bind (wpAny_attempt (wpAny_holding ?_))
  show wpAny _ _ (bindSpecial (.builtin "super.__getattribute__") (.ref so) >>= _) _ _ _
  refine wpAny_bind (wpAny_of_eq (PySem.F.ks_slot_super_ga.bind _) ?_)
  refine wpAny_mono (Q := fun v s' => v = .ref h.objs.size ∧ s' = ⟨h.push { cls := .type "method", data := .fields #[.ref f, .ref x] }, g, d, t + 1, os⟩) (E := fun _ _ => False)
    (wpAny_call_entry PySem.F.ks_slot_super_ga (hT _) PySem.F.ks_entry_super_ga (ks_wpAny_super_ga hso hno hC hl X hf hfo hfc hxC hn ⟨_, rfl, rfl, rfl⟩) (PySem.F.ks_gaArgs_super _ _)) (fun v s' hv => ?_) fun _ _ z => z.elim
  obtain ⟨rfl, rfl⟩ := hv
  first | exact wpAny_pure hq | exact wpAny_pure (wpAny_pure hq)
end
section
variable {X : Cx} {x qual : Str} {params : Arguments} {body : List Stmt} {scope : Scope} {dvs : List V} {f C D cda cc f2 : Addr} {fd : FuncData} {m : Str} {p0 p1 : Pos}
/-- what super().m is: a bound method, new -/
theorem sup_boundA {b : List Stmt} {pins : List (Addr × Obj)} {s : Shared} {σ : L2.St} {H : Hp} {a dx : Addr} {fs : List (Str × V)} {whole : Sem Value} {Q : Value → Shared → Prop} (F : FunU X.prog X.K x qual params body scope dvs f fd D cda cc) (V0 : EnvU X f cda cc) (hm : X.mg "super" = none)
    (S : SupC X.K C D m f2) (hn : (m == ("__class__" : Str)) = false) (I : Inv X pins σ H s) (ea : σ[0]? = some (some (.ref a))) (hH : H a = some (.ins C dx fs))
    (h : ∀ q s', Inv X ((q, PySem.W.methodObj (.ref f2) (.ref a)) :: pins) σ H s' → X.base.get? q = none → Q (.ref q) s') :
    PySem.wpAt (model X.prog X.w) X.A (.func b X.env) (attributeBase (.Call (.Name "super" p0) [] [] p1) m X.env whole) (fun ov s1 => wpAny (model X.prog X.w) X.A (getAttr ov m true) Q X.xe s1) X.xe s := by
  obtain ⟨oc, od, dV, kV, doc, pm, an, ct, osl, ef, lk, hcd, _⟩ := F.ex
  obtain ⟨cl, cld, csl, hcell⟩ := F.cell
  obtain ⟨ccl, cdd, vs, ccs, file, tf, hcode, hvs, hfile⟩ := F.code
  obtain ⟨ar, har, hself⟩ := F.par
  have K0 := I.kIn
  obtain ⟨mb, b1, b2⟩ := I.mod.blt
  obtain ⟨mm, hns, hl⟩ := I.loc
  obtain ⟨u, ru, look⟩ := hl 0 "self" (.ref a) V0.n0 ea (.inl V0.ka)
  obtain rfl : u = Value.ref a := ru
  have hself2 : mm ("self" : Str) = some (.ref a) := by
    rcases look with ⟨_, z⟩ | ⟨z, _⟩
    · exact z
    · rw [V0.ka] at z
      rcases z with z | z <;> cases z
  obtain ⟨cdD, hcD⟩ := Option.isSome_iff_exists.mp S.cD
  obtain ⟨oD, hD1, hD2⟩ : ∃ oD, s.heap.get? D = some oD ∧ oD.data = .cls cdD := by
    unfold PySem.W.clsIn at hcD
    split at hcD
    · rename_i c d cd' sl ho
      cases hcD
      exact ⟨_, K0 _ _ ho, rfl⟩
    · cases hcD
  obtain ⟨mA, O, _, _, _⟩ := ins_get I.hok hH
  obtain ⟨odd, J, _⟩ := O.look
  refine PySem.ks_wpAt_super_base (f := f) V0.ks V0.kc hn V0.fn (K0 _ _ lk) rfl (by rw [ef]; exact har) V0.co (K0 _ _ hcode) rfl hvs hfile F.top ?_
  refine PySem.W.ks_loadName_global I.ok.kind V0.ks (Calls.loadGlobal_builtin (env := X.env) (mb := mb) (by rw [I.ok.glob]; exact I.mod.glob.keeps I.bk) hm (by rw [I.ok.blt]; exact b1.keeps I.bk) ((b2 _ (by decide)).trans boot_super) ⟨rfl, ?_⟩)
  refine wpAny_loadName_free I.ok.kind V0.kc V0.cl ⟨_, K0 _ _ hcell, rfl⟩ ?_
  rw [hself]
  refine wpAny_loadName_local I.ok.kind V0.ka hns hself2 ?_
  obtain ⟨hp, g, d, tk, os⟩ := s
  refine PySem.ks_wpAny_isType_cls hD1 hD2 ⟨rfl, ?_⟩
  refine PySem.ks_wpAny_call_super hD1 hD2 J.at_ J.cls (fun c z => ?_) (PySem.W.looks_mroIn K0 S.sub) (fun h' e1 k1 => ?_)
  · have := J.no
    unfold PySem.W.notCls at this
    rw [z] at this
    exact Bool.noConfusion this
  · have I1 : Inv X ((hp.objs.size, PySem.W.ks_superObj D a C) :: pins) σ H ⟨h', g, d, tk, os⟩ := ClX.pin_new (t' := tk) I k1 (Nat.le_refl _) e1 (fun v z => nomatch z)
    have K1 := I1.kIn
    cases hc : PySem.W.clsIn X.K C with
    | none =>
      have := S.at_
      unfold PySem.W.ks_superIn at this
      rw [hc] at this
      cases this
    | some cd =>
      have hm2 := S.at_
      unfold PySem.W.ks_superIn at hm2
      rw [hc] at hm2
      obtain ⟨of, hof, hofc⟩ : ∃ of, h'.get? f2 = some of ∧ of.cls = .type "function" := by
        have ht' : (X.K.lookup f2).map (·.cls) = some (.type "function") := S.ty
        cases z : X.K.lookup f2 with
        | none => rw [z] at ht'; cases ht'
        | some of => rw [z] at ht'; exact ⟨of, K1 _ _ z, Option.some.inj ht'⟩
      have hne : a ≠ C := PySem.W.ks_ne K0 J hc
      refine getAttr_super (ClX.pin_at I1) (PySem.W.looks_opaque K1 S.op) (l₀ := cd.mro) ?_ rfl K1 hm2 hof hofc hne hn ?_
      · exact fun A Q E s k q => wpAny_bind ((PySem.W.looks_clsIn K1 hc) A _ E s k (wpAny_pure q))
      · have I2 := ClX.pin_new (o := PySem.W.methodObj (.ref f2) (.ref a)) (t' := tk + 1) (ClX.unpin I1) (fun _ _ z => Heap.get?_push_of_some _ z) (Nat.le_refl _) (Heap.get?_push_size h' rfl) (fun v z => nomatch z)
        exact h _ _ I2 (ClX.base_none (ClX.unpin I1) (Nat.le_refl _))
end
theorem wpAt_starcall {M : Model} {A : Around} {c : Code} {E : Value → Shared → Prop} {s : Shared} {env : Env} {o e : Expr} {m : Str} {p apos pos : Pos} {Q : Value → Shared → Prop}
    (h : PySem.wpAt M A c (attributeBase o m env (eval o env)) (fun ov s₁ => wpAny M A (getAttr ov m true) (fun f s₂ => wpAny M A (callWith pos f [] (backTo pos [(true, eval e env)]) []) Q E s₂) E s₁) E s) :
    PySem.wpAt M A c (eval (.Call (.Attribute o m apos) [.Starred e p] [] pos) env) Q E s := by
  have hse : starEach [.Starred e p] env = [(true, eval e env)] := rfl
  have hke : backToKw pos (keywordEach [] env) = [] := rfl
  have hform : methodCallForm ([Expr.Starred e p].length + ([] : List Keyword).length) (backTo pos [(true, eval e env)]) [] = false := rfl
  have hpos : methodCallPos false o env apos pos = pure pos := rfl
  have hcal : ∀ ov, calleeOf false o env ov m = (getAttr ov m true >>= fun v => pure (v, [])) := fun _ => rfl
  rw [arm_eval_Call, hse, hke]
  refine PySem.wpAt_bind (PySem.wpAt_mono h (fun ov s₁ h₁ => ?_) fun _ _ x => x)
  refine PySem.wpAt_of_wpAny (wpAny_bind (wpAny_standAt ?_))
  unfold methodCall
  rw [hform, hpos, hcal]
  refine wpAny_bind (wpAny_holding (wpAny_bind (wpAny_mono h₁ (fun f s₂ h₂ => wpAny_pure ?_) fun _ _ x => x)))
  exact wpAny_bind (wpAny_pure h₂)
section
variable {X : Cx} {CX : CXT} {x qual : Str} {params : Arguments} {body : List Stmt} {scope : Scope} {dvs : List V} {f C D cda cc f2 : Addr} {fd : FuncData} {k : Nat} {sp : Sp} {E : L2.St → XK} {m : Str} {p0 p1 apos pos sp_ : Pos} {e : Expr} {te : TE}
/-- super().m(*e) -/
def tSupS (K : PySem.W.Frag) (C : Addr) (sp : Sp) (E : L2.St → XK) (te : TE) : TE := fun σ H Q => ∃ a dx fs, σ[0]? = some (some (.ref a)) ∧ H a = some (.ins C dx fs) ∧ te σ H fun y H2 => ∃ b xs, y = V.ref b ∧ (SqT K H2 b xs ∨ SqL K H2 b xs) ∧ sp (.ref a :: xs) H2 Q (E σ)
theorem peu_superS (F : FunU X.prog X.K x qual params body scope dvs f fd D cda cc) (V0 : EnvU X f cda cc) (hm : X.mg "super" = none) (S : SupC X.K C D m f2) (G : FnR X.prog X.w X.K X.mg X.base CX k f2 sp) (hr : Room k X.A) (hx : ∀ σ, PassesAt CX X σ (E σ)) (ha : PE X e te)
    (hn : (m == ("__class__" : Str)) = false := by decide) :
    PEU X (.Call (.Attribute (.Call (.Name "super" p0) [] [] p1) m apos) [.Starred e sp_] [] pos) (tSupS X.K C sp E te) := fun b pins s σ H Q I h => by
  obtain ⟨a, dx, fs, ea, hH, q⟩ := h
  refine wpAt_starcall (sup_boundA F V0 hm S hn I ea hH fun qa s2 I2 hb => ?_)
  refine PySem.W.ks_call (P := PySem.W.MethP X.K qa f2 (.ref a)) rfl (PySem.W.keeps_M S.fi) (PySem.W.ks_lone ?_)
  refine thn (ha.run _ s2 σ H _ I2 q) fun v s3 ⟨y, H2, I3, ry, b', xs, ey, hxs, q2⟩ => ?_
  subst ey
  obtain rfl : v = Value.ref b' := ry
  refine star_any I3 hxs fun us s4 I4 rv => ⟨⟨ClX.pin_at I4, I4.kIn⟩, ?_⟩
  have z : wpAny (model X.prog X.w) X.A (call (.ref qa) us) (EP X ((qa, PySem.W.methodObj (.ref f2) (.ref a)) :: pins) σ Q) X.xe s4 :=
    wpAny_call (PySem.W.method_call (ClX.pin_at I4) (run_fnRS (us := .ref a :: us) (vs := .ref a :: xs) G hr I4.env0 (hx σ) I4 (.cons rfl rv) q2))
  exact thn z fun _ _ y => ClX.unpinE y
end
end PR
end

section
set_option maxHeartbeats 4000000
namespace PR
open PySem L2 PySem.Spec PyProof.Rows PySem.EX NdefX
local macro_rules | `(tactic| walk_at "st") => `(tactic| first | with_reducible exact setAt_z | with_reducible exact setAt_s (by walk_at "st"))
local macro_rules | `(tactic| walk_at "rd1") => `(tactic| first
  | walk_at "sq"
  | with_reducible refine Rd.nxE ?_
  | with_reducible refine Rd.rtE ?_
  | with_reducible refine Rd.ctE ?_
  | with_reducible refine Rd.bkE ?_
  | with_reducible refine Rd.asg ?_
  | ((with_reducible refine' Rd.gnameW ?h0 ?hs ?_); (case h0 => walk_at "wi"); (case hs => walk_at "st"))
  | ((with_reducible refine' Rd.gname ?hs ?_); (case hs => walk_at "st"))
  | with_reducible refine Rd.ifS ?_
  | with_reducible refine Rd.ret ?_
  | with_reducible refine Rd.retN ?_
  | with_reducible refine Rd.drop ?_
  | with_reducible refine Rd.next ?_
  | ((with_reducible refine' Rd.var ?hv ?_); (case hv => exact rfl))
  | with_reducible refine Rd.c ?_
  | with_reducible refine Rd.op ?_
  | with_reducible refine Rd.un ?_
  | with_reducible refine Rd.neg ?_
  | with_reducible refine Rd.i0 ?_
  | with_reducible refine Rd.test ?_
  | with_reducible refine Rd.chain ?_
  | with_reducible refine Rd.tB ?_
  | with_reducible refine Rd.bl ?_
  | with_reducible refine Rd.not ?_
  | with_reducible refine Rd.and ?_
  | with_reducible refine Rd.or ?_
  | with_reducible refine Rd.andV ?_
  | with_reducible refine Rd.orV ?_
  | with_reducible refine Rd.notV ?_
  | with_reducible refine Rd.nilA ?_
  | with_reducible refine Rd.consA ?_
  | with_reducible refine Rd.cb ?_
  | with_reducible refine Rd.int1 ?_
  | with_reducible refine Rd.abs1 ?_
  | with_reducible refine Rd.gsub ?_
  | with_reducible refine Rd.tpar ?_
  | ((with_reducible refine' Rd.par ?hs ?ht ?_); (case hs => walk_at "st"); (case ht => walk_at "st"))
  | with_reducible refine Rd.ttup ?_
  | with_reducible refine Rd.tlst ?_
  | with_reducible refine Rd.isN ?_
  | with_reducible refine Rd.call ?_
  | with_reducible refine Rd.sl ?_
  | with_reducible refine Rd.noPart ?_
  | with_reducible refine Rd.part ?_
  | with_reducible refine Rd.ex_int ?_
  | with_reducible refine Rd.bm ?_
  | with_reducible refine Rd.tfld ?_
  | with_reducible refine Rd.tforT fun TB hTB => ?_
  | with_reducible refine Rd.tlc ?_
  | with_reducible refine Rd.mk1 ?_
  | with_reducible refine Rd.tdc ?_
  | with_reducible refine Rd.sfld ?_
  | with_reducible refine Rd.methP ?_
  | with_reducible refine Rd.xf ?_

  | with_reducible refine Rd.itemP ?_
  | with_reducible refine Rd.ost ?_
  | with_reducible refine Rd.enumT ?_
  | ((with_reducible refine' Rd.enumTAt ?h1 ?_); (case h1 => walk_at "lk"))
  | with_reducible refine Rd.meth ?_
  | with_reducible refine Rd.make ?_
  | with_reducible refine Rd.prop ?_
  | with_reducible refine Rd.item ?_
  | with_reducible refine Rd.sprop ?_
  | with_reducible refine Rd.star ?_
  | ((with_reducible refine' Rd.starL ?h1 ?_); (case h1 => walk_at "lk"))
  | with_reducible refine Rd.tdget ?_
  | ((with_reducible refine' Rd.fld ?h1 ?h2 ?h3 ?h4 ?_); (case h1 => walk_at "lk"); (case h2 => walk_at "cl"); (case h3 => walk_at "na"); (case h4 => walk_at "fl"))
  | ((with_reducible refine' Rd.ty ?h1 ?_); (case h1 => walk_at "lk"))
  | with_reducible refine Rd.tyes ?_
  | with_reducible refine Rd.noN ?_
  | with_reducible refine Rd.noNr ?_
  | with_reducible refine Rd.yesN ?_
  | with_reducible refine Rd.yesI ?_
  | with_reducible refine Rd.yesR ?_
  | with_reducible refine Rd.noNN ?_
  | with_reducible refine Rd.yes rfl ?_
  | with_reducible refine Rd.no Bool.false_ne_true ?_
  | ((with_reducible refine' Rd.wp ?h1 ?_); (case h1 => exact rfl))
  | ((with_reducible refine' Rd.isi ?h1 ?h2 ?_); (case h1 => walk_at "lk"); (case h2 => first | exact kit_int (dp_nodict (by with_reducible assumption)) | exact kit_bool (dp_nodict (by with_reducible assumption))))
  | with_reducible refine Rd.enum ?_
  | ((with_reducible refine' Rd.enumAt ?h1 ?_); (case h1 => walk_at "lk"))
  | with_reducible refine Rd.rng1 ?_
  | with_reducible refine Rd.rng2 ?_
  | with_reducible refine Rd.ilist ?_
  | with_reducible refine Rd.itup ?_
  | ((with_reducible refine' Rd.ilistAt ?h1 ?_); (case h1 => walk_at "lk"))
  | ((with_reducible refine' Rd.itupAt ?h1 ?_); (case h1 => walk_at "lk"))
  | ((with_reducible refine' Rd.slL ?h1 (fun q H1 nq sq hq => ?_)); (case h1 => walk_at "lk"))
  | with_reducible refine Rd.gcons ?_
  | with_reducible refine Rd.gnil ?_
  | ((with_reducible refine' Rd.gtup ?h1 ?h2 ?_); (case h1 => walk_at "lk"); (case h2 => exact rfl))
  | ((with_reducible refine' Rd.lenL ?h1 ?_); (case h1 => walk_at "lk"))
  | ((with_reducible refine' Rd.lenT ?h1 ?_); (case h1 => walk_at "lk"))
  | ((with_reducible refine' Rd.ixA ?h1 ?h2 ?_); (case h1 => walk_at "lk"); (case h2 => exact rfl))
  | ((with_reducible refine' Rd.ixB ?h1 ?h2 ?_); (case h1 => walk_at "lk"); (case h2 => exact rfl))
  | ((with_reducible refine' Rd.ixL ?h1 ?h2 ?_); (case h1 => walk_at "lk"); (case h2 => exact rfl))
  | ((with_reducible refine' Rd.newAt ?h1 (fun p H1 np sp hp => ?_)); (case h1 => exact sz_small (Nat.le_of_ble_eq_true rfl)))
  | ((with_reducible refine' Rd.ic ?h1 ?_); (case h1 => walk_at "sd"))
  | ((with_reducible refine' Rd.setL ?h1 ?h2 ?h3 ?_); (case h1 => walk_at "lk"); (case h2 => exact rfl); (case h3 => walk_at "st")))
local macro_rules | `(tactic| walk_at "rd") => `(tactic| repeat walk_at "rd1")
local macro_rules | `(tactic| walk_at "lk") => `(tactic| first
  | with_reducible assumption
  | exact upd_same
  | exact SqL.of upd_same
  | exact SqT.of upd_same
  | exact SqL.of (by with_reducible assumption)
  | exact SqT.of (by with_reducible assumption)
  | ((with_reducible refine' same_get ?lks ?lkh); (case lks => with_reducible assumption); (case lkh => walk_at "lk"))
  | ((with_reducible refine' Same.seq ?lks ?lkh); (case lks => with_reducible assumption); (case lkh => walk_at "lk"))
  | ((with_reducible refine' sqT_mono ?lks ?lkh); (case lks => with_reducible assumption); (case lkh => walk_at "lk"))
  | ((with_reducible refine' dp_mono ?lks ?lkh); (case lks => with_reducible assumption); (case lkh => walk_at "lk")))
local macro_rules | `(tactic| walk_at "sd") => `(tactic| first
  | with_reducible assumption
  | decide
  | omega
  | exact Or.inl ⟨by decide, by decide⟩
  | exact ⟨by decide, by decide, by decide⟩
  | exact Or.inr ⟨by decide, by decide⟩
  | exact Or.inl ⟨by omega, by omega⟩
  | exact wide_div (by decide) (by decide : _ < 2 ^ 200) (by decide) (by decide)
  | exact wide_div (by with_reducible assumption) (by assumption : _ < 2 ^ 200) (by decide) (by decide))

local macro_rules | `(tactic| walk_at "cl") => `(tactic| first | exact ct_k (by with_reducible assumption) | exact cl_Tree (by with_reducible assumption) | exact cl_Spot (by with_reducible assumption) | exact cl_Edit (by with_reducible assumption))
local macro_rules | `(tactic| walk_at "na") => `(tactic| first | exact ct_rows (by with_reducible assumption) | exact ct_left (by with_reducible assumption) | exact na_rows (by with_reducible assumption) | exact na_left (by with_reducible assumption) | exact na_tree (by with_reducible assumption) | exact na_key (by with_reducible assumption) | exact na_etree (by with_reducible assumption) | exact na_saved (by with_reducible assumption))
local macro_rules | `(tactic| walk_at "fl") => `(tactic| first | exact lk_head | exact lk_second (by decide +kernel))
local macro_rules | `(tactic| walk_at "wi") => `(tactic| first | (simp only [wipe, List.map_cons, List.map_nil, List.set_cons_succ, List.set_cons_zero]; done) | (simp only [wipe, List.map_cons, List.map_nil, List.set_cons_succ, List.set_cons_zero]; exact rfl))

set_option hygiene false in
local macro_rules | `(tactic| walk_at "sq") => `(tactic| with_reducible refine Rd.seqT fun S2 hS2 => ?_)
set_option hygiene false in
local macro_rules | `(tactic| walk_at "nx") => `(tactic| subst hS2)

section
variable {P : Program} {w : World} {K : PySem.W.Frag} {mg : Str → Option Value} {base : Heap} {A : Ad} {C : Addr}
open L2H HotX
def starSp (sp : Sp) : Sp := fun vs H Q E => ∃ ws rest, vs = ws ++ rest ∧ ws.length = 1 ∧ rest.length ≤ sizeLine ∧ ∀ p, H p = Option.none → sp (ws ++ [V.ref p]) (upd H p (.tup rest)) Q E
theorem ok_T_allS {bl : Bool} {fm : Addr} (T : Txt P K mg A) (hCT : ClsT K C) (hmm : Meth K C "move" fm) (hme : Meth K C "edit" A.f_T_edit) (R_T_move : FnR P w K mg base (L2N.CX P w) 6 fm (spMv K A C bl)) : FnR P w K mg base (L2.CX P w) 10 A.f_T_all (starSp (spAllB K A C bl)) := by
  obtain ⟨oc, od, kV, doc, pm, an, cdv, ct, osl, e, lk, hcd⟩ := T.F_T_all.ex
  rw [e] at lk
  exact StX.fn_star (ps := ["self"]) (pv := "moves") lk hcd sc_Tree_move_all StX.cxUp (StX.bind_star1 (B := fun l => bindArgs (PySem.W.fnOf "move_all" "Tree.move_all" (defArgs s_Tree_move_all) (defBody s_Tree_move_all) (defScope s_Tree_move_all) .none kV doc pm an cdv ct) ⟨l, []⟩) (p1 := "self") (pv := "moves") (fun _ => rfl) (fun _ _ _ => rfl)) fun Ar outer s H vs Q E hr h => ok_T_allB T hCT hmm hme R_T_move cdv Ar outer s H vs Q E hr h
theorem R_T_mv (T : Txt P K mg A) : FnR P w K mg base (L2N.CX P w) 6 A.f_T_move (spMv K A A.c_Tree false) :=
  (((ok_T_move (P := P) (w := w) (base := base) T T.ct_Tree).raw (T.F_T_move.binds (ps := ["self", "key", "parent"]) fun _ _ _ _ _ _ us hl => match us, hl with | [_, _, _], _ => rfl) .nil).mono (by decide)).imp fun _ _ _ _ h => by rw [List.append_nil]; exact mv_tree h
theorem bind_L_move (T : Txt P K mg A) : Binds K A.d_L_move ["self", "key", "parent"] [] := T.F_L_move.binds (ps := ["self", "key", "parent"]) fun _ _ _ _ _ us hl => match us, hl with | [_, _, _], _ => rfl
theorem R_L_mv (T : Txt P K mg A) : FnR P w K mg base (L2N.CX P w) 6 A.f_L_move (spMv K A A.c_Log true) :=
  ((ok_L_move (P := P) (w := w) (base := base) T).raw (bind_L_move T) .nil).imp fun _ _ _ _ h => by rw [List.append_nil]; exact mv_log h
theorem ok_TT_all (T : Txt P K mg A) : FnR P w K mg base (L2.CX P w) 10 A.f_T_all (starSp (spAllB K A A.c_Tree false)) := ok_T_allS T T.ct_Tree T.mT_move T.mT_edit (R_T_mv T)
theorem bind_L_put (T : Txt P K mg A) : Binds K A.d_L_put ["self", "key", "parent"] [] := by
  obtain ⟨ds, hv, hb⟩ := T.F_L_put.binds1 (ps := ["self", "key", "parent"]) 3 1 (by simp) rfl (fun TT kV doc pm an ct us its h1 h2 => match us, its, h1, h2 with | [_, _, _], [_], _, _ => ⟨_, rfl, rfl⟩)
  cases hv
  exact hb
theorem ok_LT_all (T : Txt P K mg A) : FnR P w K mg base (L2.CX P w) 10 A.f_T_all (starSp (spAllB K A A.c_Log true)) := ok_T_allS T T.ct_Log T.mL_move T.mL_edit (R_L_mv T)
theorem moves_mono {H H' : Hp} (s : Same H H') : ∀ {xs : List V} {ms : List (PyData × PyData)}, MovesAt K H xs ms → MovesAt K H' xs ms
  | [], [], _ => trivial
  | _ :: _, _ :: _, ⟨⟨T, x, y, e, h1, h2, h3⟩, r⟩ => ⟨⟨T, x, y, e, sqT_mono s h1, dp_mono s h2, dp_mono s h3⟩, moves_mono s r⟩
  | [], _ :: _, h => h.elim
  | _ :: _, [], h => h.elim
theorem sqT_hide {H : Hp} {gn a : Addr} {xs ys : List V} (hg : H gn = some (.lst ys)) (h : SqT K H a xs) : SqT K (hid [gn] H) a xs := by
  have ne : ∀ {o : HO}, H a = some o → o ≠ .lst ys → a ∉ [gn] := fun e n z => by
    have : a = gn := by simpa using z
    rw [this, hg] at e
    exact n (Option.some.inj e).symm
  rcases h with (h | ⟨o, h⟩) | h
  · exact .inl (.inl ((hid_out (ne h (by intro z; cases z))).trans h))
  · exact .inl (.inr ⟨o, (hid_out (ne h (by intro z; cases z))).trans h⟩)
  · exact .inr h
theorem sqL_hide {H : Hp} {gn a : Addr} {xs : List V} (n : a ≠ gn) (h : SqL K H a xs) : SqL K (hid [gn] H) a xs := by
  have ne : a ∉ [gn] := by simpa using n
  rcases h with (h | ⟨o, h⟩) | h
  · exact .inl (.inl ((hid_out ne).trans h))
  · exact .inl (.inr ⟨o, (hid_out ne).trans h⟩)
  · exact .inr h
theorem dpAll_rows_hide {H : Hp} {gn : Addr} {ys : List V} (hg : H gn = some (.lst ys)) : ∀ {rows : List Row} {xs : List V}, DpAll K H xs (rows.map rowD) → DpAll K (hid [gn] H) xs (rows.map rowD)
  | [], _, .nil => .nil
  | r :: rows, _, .cons h t => .cons (by
      obtain ⟨b, rfl, hs⟩ := dp_row h
      exact .tup (sqT_hide hg hs) (.cons (.int _) (.cons (optV_dp _) .nil))) (dpAll_rows_hide hg t)
/-- rows hold no list but the one they stand in: another one may be hidden -/
theorem rows_hide {H : Hp} {gn b : Addr} {ys : List V} {rows : List Row} (hg : H gn = some (.lst ys)) (n : b ≠ gn) (h : RowsAt K H b rows) : RowsAt K (hid [gn] H) b rows := by
  obtain ⟨xs, h1, h2⟩ := h
  exact ⟨xs, sqL_hide n h1, dpAll_rows_hide hg h2⟩
def FrP (t : Addr) (og og' : Option Addr) (H H' : Hp) : Prop := Fr1 t (hid og.toList H) (hid og'.toList H')
def spLAll (K : PySem.W.Frag) (A : Ad) (C : Addr) : Sp := fun vs H Q E => ∃ t p xs ms S dx l g rows log out, vs = [.ref t, .ref p] ∧ SqT K (hid [g] H) p xs ∧ MovesAt K (hid [g] H) xs ms ∧ ms.length ≤ 1000 ∧ StAt K S C dx l (some g) H t rows log ∧ Tr rows ∧ rows.length ≤ 90000 ∧ log.length + ms.length ≤ 100000 ∧ RunR rows ms 0 out ∧
  (∀ rows' H', out = .ok rows' → FrO t (some g) H H' → StAt K S C dx l (some g) H' t rows' (logAll log ms (some g)) → Q .non H') ∧
  (∀ j why H' d gn, out = .bad j why → FrP t (some g) (some gn) H H' → StAt K (gn :: S) C dx l (some gn) H' t rows log → H' d = some (.xd [("why", .str why), ("place", .int (j : Nat))]) → E (.ref A.c_Undone) (some d) H')
theorem ns_L_all : NScope ["self", "moves", "__class__", "logged"] ["self", "moves"] ["__class__"] (defScope s_LoggedTree_move_all) := nscope_by (by decide +kernel)
theorem ok_L_all (T : Txt P K mg A) : FnR P w K mg base (L2.CX P w) 11 A.f_L_all (starSp (spLAll K A A.c_Log)) := by
  have R := ok_LT_all (P := P) (w := w) (base := base) T
  refine T.F_L_all.okS (ps := ["self"]) (pv := "moves") ns_L_all StX.cxUp (fun kV doc pm an ct => StX.bind_star1 (B := fun l => bindArgs (PySem.W.fnX "move_all" "LoggedTree.move_all" (defArgs s_LoggedTree_move_all) (defBody s_LoggedTree_move_all) (defScope s_LoggedTree_move_all) [("__class__", A.cc_L_all)] .none kV doc pm an (.ref A.cd_L_all) ct) ⟨l, []⟩) (p1 := "self") (pv := "moves") (fun _ => rfl) (fun _ _ _ => rfl)) (fun Ar outer s H vs Q E hr h => ?_)
  obtain ⟨t, p, xs, ms, S, dx, l, g, rows, log, out, rfl, hp, hms, hml, hSt, htr, hl, hll, hrun, q, qe⟩ := h
  have hCT := T.ct_Log
  have hb : ∀ (W : WX) (pn : List (Addr × Obj)) (xe : Value → Shared → Prop), L2.Takes ((ncx (L2.CX P w) P w K mg base ["self", "moves", "__class__", "logged"] (nfU "move_all" "LoggedTree.move_all" (defArgs s_LoggedTree_move_all) (defBody s_LoggedTree_move_all) (defScope s_LoggedTree_move_all) A.cd_L_all A.cc_L_all) A.f_L_all Ar outer s H E).tr pn xe) W →
      PSsU ((ncx (L2.CX P w) P w K mg base ["self", "moves", "__class__", "logged"] (nfU "move_all" "LoggedTree.move_all" (defArgs s_LoggedTree_move_all) (defBody s_LoggedTree_move_all) (defScope s_LoggedTree_move_all) A.cd_L_all A.cc_L_all) A.f_L_all Ar outer s H E).tr pn xe) (fB (nthS (defBody s_LoggedTree_move_all) 1)) (tDrop (tSupS K A.c_Log (starSp (spAllB K A A.c_Log true)) (L2.WE W) (tVar 1))) :=
    fun W pn xe tk => pssu_one (psu_expr (peu_superS T.F_L_all ⟨rfl, rfl, rfl, rfl, rfl, rfl, rfl⟩ T.n_super T.sp_all R hr (fun σ => L2.passAt tk σ) (pv 1)))
  refine ⟨_, pssu_cons (psu_of (ps_set (i := 3) ns_L_all.nd rfl (by first | exact Or.inl rfl | exact Or.inr rfl) (pe_callTy (Kx.call_list_of (K := K) rfl) (by rfl) T.n_list (by decide +kernel) (pa_cons (Kx.pe_fld (K := K) rfl (pv 0) rfl) pa_nil)))) (pssu_one (psu_tryRe (K := K) rfl rfl rfl rfl (fun hd => PassesOwnAt.leaving) (L2.takes_of rfl rfl rfl rfl) hb
    ⟨by rfl, by decide, .inl T.g_Undone⟩
    (fun a oe cls d pn hz hdd hre => pss_cons (Kx.ps_fld (K := K) rfl (pv 0) (pv 3) rfl) (pss_one (ps_reraise hre))))), ?_⟩
  try dsimp only [ncx]
  rw [show startF ["self", "moves", "__class__", "logged"] [V.ref t, V.ref p] [none] = [some (V.ref t), some (V.ref p), none, none] from rfl]
  obtain ⟨hrest, a, ht, hR⟩ := id hSt.1
  obtain ⟨hgS, lx, hg, hlx⟩ := hSt.lg g rfl
  walk_at "rd"
  refine Rd.fld ht hCT.k T.a_log lk_log ?_
  walk_at "rd"
  refine ⟨g, lx, rfl, .inl (SqL.of hg), fun gn hn => ?_⟩
  have s1 : Same H (upd H gn (.lst lx)) := same_upd hn
  have hgn : upd H gn (.lst lx) gn = some (.lst lx) := upd_same
  generalize upd H gn (.lst lx) = H1 at s1 hgn
  have ngn : gn ≠ g := fun z => by rw [z, hg] at hn; cases hn
  have ngt : gn ≠ t := fun z => by rw [z, ht] at hn; cases hn
  walk_at "nx"
  walk_at "rd"
  refine ⟨t, dx, _, rfl, s1 _ _ ht, ?_⟩
  walk_at "rd"
  have hp1 := sqT_mono (Same.hid (S := [g]) s1) hp
  refine ⟨p, xs, rfl, .inl (sqT_mono hid_same hp1), [V.ref t], xs, rfl, rfl, ?_, fun pp npp => ?_⟩
  · rw [moves_len hms]
    exact Nat.le_trans hml (by decide)
  · have s2 : Same H1 (upd H1 pp (.tup xs)) := same_upd npp
    have hpp : upd H1 pp (.tup xs) pp = some (.tup xs) := upd_same
    generalize upd H1 pp (.tup xs) = H2 at s2 hpp
    have s12 := Same.trans s1 s2
    have npg : pp ≠ g := fun z => by rw [z, s1 _ _ hg] at npp; cases npp
    refine ⟨t, pp, xs, ms, S, dx, l, some g, rows, log, out, rfl, rfl, SqT.of ((hid_out (by simpa using npg)).trans hpp), moves_mono (Same.hid s12) hms, hml, hSt.mono s12, htr, hl, hll, hrun, fun rows' H' eo f' hS' => ?_, fun j why eo => ?_⟩
    · walk_at "rd"
      exact q rows' H' eo ((FrO.same s12).trans f') hS'
    · intro H3 d log' b nb e3 f3 hS3 hd3
      have hg3 : H3 gn = some (.lst lx) := (hid_some (f3 gn _ ngt ((hid_out (by simpa using ngn)).trans (s2 _ _ hgn)))).1
      have hb3 : RowsAt K (hid S H3) b rows := by
        obtain ⟨_, b', e', h'⟩ := hS3.1
        rw [e3] at e'
        cases e'
        exact h'
      have nbg : b ≠ gn := fun z => by rw [z, s2 _ _ hgn] at nb; cases nb
      refine ⟨true, T.x_UU, fun _ e9 ne9 => ?_, fun z => by cases z⟩
      walk_at "rd"
      refine Rd.sput e3 hCT.k T.a_log (Nat.le_of_ble_eq_true rfl) ((put_tail n_rg).trans (congrArg _ ((put_tail n_lg).trans (congrArg _ put_head)))) fun H4 f4 e4 => ?_
      walk_at "nx"
      show E _ _ _
      have nd : d ≠ t := fun z => by rw [z, e3] at hd3; cases hd3
      have fP : FrP t (some g) (some gn) H H4 := fun c o n e => by
        have e0 := (hid_some e).1
        have nc : c ∉ [gn] := fun z => by
          have : c = gn := by simpa using z
          rw [this, hn] at e0
          cases e0
        refine (hid_out nc).trans (f4 c o n ?_)
        exact (hid_some (f3 c o n (Same.hid s12 _ _ e))).1
      have hgS2 : gn ∉ S := hSt.okS.new hn
      have ntS2 : t ∉ gn :: S := by simpa using ⟨ngt.symm, hSt.ntS⟩
      have fS : Fr1 t (hid S H) (hid (gn :: S) H4) := fun c o n e => by
        obtain ⟨e0, e1⟩ := hid_some e
        have nc : c ∉ gn :: S := fun z => by
          rcases List.mem_cons.mp z with z | z
          · rw [z, hn] at e0
            cases e0
          · exact e1 z
        refine (hid_out nc).trans (f4 c o n ?_)
        exact (hid_some (f3 c o n (Same.hid s12 _ _ ((hid_out (fun z => e1 (hSt.sub _ z))).trans e0)))).1
      refine qe j why H4 d gn eo fP ⟨⟨restO_ok l (some gn), b, e4, ?_⟩, (hS3.okS.cons hg3).fr1 f4 ⟨_, e4⟩, ntS2, fun g' eg => ?_, fun z => by cases z⟩ (f4 d _ nd hd3)
      · have h5 : RowsAt K (hid [gn] (hid S H3)) b rows := rows_hide ((hid_out hgS2).trans hg3) nbg hb3
        have h6 : Same (hid [gn] (hid S H3)) (hid (gn :: S) H3) := fun c o e => by
          obtain ⟨e1, e2⟩ := hid_some e
          obtain ⟨e5, e6⟩ := hid_some e1
          exact (hid_out (by simpa using ⟨by simpa using e2, e6⟩)).trans e5
        exact rows_fr1 (Fr1.hid f4) ((hid_out ntS2).trans e3) trivial (rows_mono h6 h5)
      · cases eg
        exact ⟨List.mem_cons_self, lx, f4 gn _ ngt hg3, dpAll_fr1 fS ((hid_out hSt.ntS).trans ht) trivial hlx⟩
end
end PR
end

section
set_option maxHeartbeats 4000000
namespace PR
open PySem L2 PySem.Spec PyProof.Rows PySem.EX
local macro_rules | `(tactic| walk_at "st") => `(tactic| first | with_reducible exact setAt_z | with_reducible exact setAt_s (by walk_at "st"))
local macro_rules | `(tactic| walk_at "rd1") => `(tactic| first
  | walk_at "sq"
  | with_reducible refine Rd.nxE ?_
  | with_reducible refine Rd.rtE ?_
  | with_reducible refine Rd.ctE ?_
  | with_reducible refine Rd.bkE ?_
  | with_reducible refine Rd.asg ?_
  | ((with_reducible refine' Rd.gnameW ?h0 ?hs ?_); (case h0 => walk_at "wi"); (case hs => walk_at "st"))
  | ((with_reducible refine' Rd.gname ?hs ?_); (case hs => walk_at "st"))
  | with_reducible refine Rd.ifS ?_
  | with_reducible refine Rd.ret ?_
  | with_reducible refine Rd.retN ?_
  | with_reducible refine Rd.drop ?_
  | with_reducible refine Rd.next ?_
  | ((with_reducible refine' Rd.var ?hv ?_); (case hv => exact rfl))
  | with_reducible refine Rd.c ?_
  | with_reducible refine Rd.op ?_
  | with_reducible refine Rd.un ?_
  | with_reducible refine Rd.neg ?_
  | with_reducible refine Rd.i0 ?_
  | with_reducible refine Rd.test ?_
  | with_reducible refine Rd.chain ?_
  | with_reducible refine Rd.tB ?_
  | with_reducible refine Rd.bl ?_
  | with_reducible refine Rd.not ?_
  | with_reducible refine Rd.and ?_
  | with_reducible refine Rd.or ?_
  | with_reducible refine Rd.andV ?_
  | with_reducible refine Rd.orV ?_
  | with_reducible refine Rd.notV ?_
  | with_reducible refine Rd.nilA ?_
  | with_reducible refine Rd.consA ?_
  | with_reducible refine Rd.cb ?_
  | with_reducible refine Rd.int1 ?_
  | with_reducible refine Rd.abs1 ?_
  | with_reducible refine Rd.gsub ?_
  | with_reducible refine Rd.tpar ?_
  | ((with_reducible refine' Rd.par ?hs ?ht ?_); (case hs => walk_at "st"); (case ht => walk_at "st"))
  | with_reducible refine Rd.ttup ?_
  | with_reducible refine Rd.tlst ?_
  | with_reducible refine Rd.isN ?_
  | with_reducible refine Rd.call ?_
  | with_reducible refine Rd.sl ?_
  | with_reducible refine Rd.noPart ?_
  | with_reducible refine Rd.part ?_
  | with_reducible refine Rd.ex_int ?_
  | with_reducible refine Rd.bm ?_
  | with_reducible refine Rd.tfld ?_
  | with_reducible refine Rd.tforT fun TB hTB => ?_
  | with_reducible refine Rd.tlc ?_
  | with_reducible refine Rd.mk1 ?_
  | with_reducible refine Rd.tdc ?_
  | with_reducible refine Rd.sfld ?_
  | with_reducible refine Rd.methP ?_
  | with_reducible refine Rd.xf ?_

  | with_reducible refine Rd.itemP ?_
  | with_reducible refine Rd.ost ?_
  | with_reducible refine Rd.enumT ?_
  | ((with_reducible refine' Rd.enumTAt ?h1 ?_); (case h1 => walk_at "lk"))
  | with_reducible refine Rd.meth ?_
  | with_reducible refine Rd.make ?_
  | with_reducible refine Rd.prop ?_
  | with_reducible refine Rd.item ?_
  | with_reducible refine Rd.sprop ?_
  | with_reducible refine Rd.star ?_
  | ((with_reducible refine' Rd.starL ?h1 ?_); (case h1 => walk_at "lk"))
  | with_reducible refine Rd.tdget ?_
  | ((with_reducible refine' Rd.fld ?h1 ?h2 ?h3 ?h4 ?_); (case h1 => walk_at "lk"); (case h2 => walk_at "cl"); (case h3 => walk_at "na"); (case h4 => walk_at "fl"))
  | ((with_reducible refine' Rd.ty ?h1 ?_); (case h1 => walk_at "lk"))
  | with_reducible refine Rd.tyes ?_
  | with_reducible refine Rd.noN ?_
  | with_reducible refine Rd.noNr ?_
  | with_reducible refine Rd.yesN ?_
  | with_reducible refine Rd.yesI ?_
  | with_reducible refine Rd.yesR ?_
  | with_reducible refine Rd.noNN ?_
  | with_reducible refine Rd.yes rfl ?_
  | with_reducible refine Rd.no Bool.false_ne_true ?_
  | ((with_reducible refine' Rd.wp ?h1 ?_); (case h1 => exact rfl))
  | ((with_reducible refine' Rd.isi ?h1 ?h2 ?_); (case h1 => walk_at "lk"); (case h2 => first | exact kit_int (dp_nodict (by with_reducible assumption)) | exact kit_bool (dp_nodict (by with_reducible assumption))))
  | with_reducible refine Rd.enum ?_
  | ((with_reducible refine' Rd.enumAt ?h1 ?_); (case h1 => walk_at "lk"))
  | with_reducible refine Rd.rng1 ?_
  | with_reducible refine Rd.rng2 ?_
  | with_reducible refine Rd.ilist ?_
  | with_reducible refine Rd.itup ?_
  | ((with_reducible refine' Rd.ilistAt ?h1 ?_); (case h1 => walk_at "lk"))
  | ((with_reducible refine' Rd.itupAt ?h1 ?_); (case h1 => walk_at "lk"))
  | ((with_reducible refine' Rd.slL ?h1 (fun q H1 nq sq hq => ?_)); (case h1 => walk_at "lk"))
  | with_reducible refine Rd.gcons ?_
  | with_reducible refine Rd.gnil ?_
  | ((with_reducible refine' Rd.gtup ?h1 ?h2 ?_); (case h1 => walk_at "lk"); (case h2 => exact rfl))
  | ((with_reducible refine' Rd.lenL ?h1 ?_); (case h1 => walk_at "lk"))
  | ((with_reducible refine' Rd.lenT ?h1 ?_); (case h1 => walk_at "lk"))
  | ((with_reducible refine' Rd.ixA ?h1 ?h2 ?_); (case h1 => walk_at "lk"); (case h2 => exact rfl))
  | ((with_reducible refine' Rd.ixB ?h1 ?h2 ?_); (case h1 => walk_at "lk"); (case h2 => exact rfl))
  | ((with_reducible refine' Rd.ixL ?h1 ?h2 ?_); (case h1 => walk_at "lk"); (case h2 => exact rfl))
  | ((with_reducible refine' Rd.newAt ?h1 (fun p H1 np sp hp => ?_)); (case h1 => exact sz_small (Nat.le_of_ble_eq_true rfl)))
  | ((with_reducible refine' Rd.ic ?h1 ?_); (case h1 => walk_at "sd"))
  | ((with_reducible refine' Rd.setL ?h1 ?h2 ?h3 ?_); (case h1 => walk_at "lk"); (case h2 => exact rfl); (case h3 => walk_at "st")))
local macro_rules | `(tactic| walk_at "rd") => `(tactic| repeat walk_at "rd1")
local macro_rules | `(tactic| walk_at "lk") => `(tactic| first
  | with_reducible assumption
  | exact upd_same
  | exact SqL.of upd_same
  | exact SqT.of upd_same
  | exact SqL.of (by with_reducible assumption)
  | exact SqT.of (by with_reducible assumption)
  | ((with_reducible refine' same_get ?lks ?lkh); (case lks => with_reducible assumption); (case lkh => walk_at "lk"))
  | ((with_reducible refine' Same.seq ?lks ?lkh); (case lks => with_reducible assumption); (case lkh => walk_at "lk"))
  | ((with_reducible refine' sqT_mono ?lks ?lkh); (case lks => with_reducible assumption); (case lkh => walk_at "lk"))
  | ((with_reducible refine' dp_mono ?lks ?lkh); (case lks => with_reducible assumption); (case lkh => walk_at "lk")))
local macro_rules | `(tactic| walk_at "sd") => `(tactic| first
  | with_reducible assumption
  | decide
  | omega
  | exact Or.inl ⟨by decide, by decide⟩
  | exact ⟨by decide, by decide, by decide⟩
  | exact Or.inr ⟨by decide, by decide⟩
  | exact Or.inl ⟨by omega, by omega⟩
  | exact wide_div (by decide) (by decide : _ < 2 ^ 200) (by decide) (by decide)
  | exact wide_div (by with_reducible assumption) (by assumption : _ < 2 ^ 200) (by decide) (by decide))

local macro_rules | `(tactic| walk_at "cl") => `(tactic| first | exact ct_k (by with_reducible assumption) | exact cl_Tree (by with_reducible assumption) | exact cl_Spot (by with_reducible assumption) | exact cl_Edit (by with_reducible assumption))
local macro_rules | `(tactic| walk_at "na") => `(tactic| first | exact ct_rows (by with_reducible assumption) | exact ct_left (by with_reducible assumption) | exact na_rows (by with_reducible assumption) | exact na_left (by with_reducible assumption) | exact na_tree (by with_reducible assumption) | exact na_key (by with_reducible assumption) | exact na_etree (by with_reducible assumption) | exact na_saved (by with_reducible assumption))
local macro_rules | `(tactic| walk_at "fl") => `(tactic| first | exact lk_head | exact lk_second (by decide +kernel))
local macro_rules | `(tactic| walk_at "wi") => `(tactic| first | (simp only [wipe, List.map_cons, List.map_nil, List.set_cons_succ, List.set_cons_zero]; done) | (simp only [wipe, List.map_cons, List.map_nil, List.set_cons_succ, List.set_cons_zero]; exact rfl))

set_option hygiene false in
local macro_rules | `(tactic| walk_at "sq") => `(tactic| with_reducible refine Rd.seqT fun S2 hS2 => ?_)
set_option hygiene false in
local macro_rules | `(tactic| walk_at "nx") => `(tactic| subst hS2)

section
variable {P : Program} {w : World} {K : PySem.W.Frag} {mg : Str → Option Value} {base : Heap} {A : Ad} {C : Addr}
open L2H HotX
theorem n_p1 : ¬ (("rows" : Str) = "put") := by decide +kernel
theorem n_p2 : ("put" : Str) ≠ "left" := by decide +kernel
theorem n_p3 : ("put" : Str) ≠ "log" := by decide +kernel
def OnlyAt (p : Addr) (H H' : Hp) : Prop := ∀ b, b ≠ p → H' b = H b
theorem take_at {H : Hp} {p : Addr} {k : Int} {Q : VK} {E : XK} (bg : BagAt H p) (h0 : 0 < k) (h1 : k.natAbs < 2 ^ 200) (h : ∀ d H', 0 ≤ d → d < k → OnlyAt p H H' → BagAt H' p → Q (.int d) H') : spTake [.ref p, .int k] H Q E :=
  ⟨p, k, rfl, bg, h0, h1, fun d c m d0 d1 c0 m0 m1 => h d _ d0 d1 (fun b hb => upd_ne hb) ⟨c, m, c0, m0, m1, upd_same⟩⟩
theorem OnlyAt.same {H0 H H' : Hp} {p : Addr} (o : OnlyAt p H H') (s : Same H0 H) (n : H0 p = none) : Same H0 H' := fun b z e => by
  rw [o b (ne_of_none e n)]
  exact s b z e
/-- rows don't lean on the bag -/
theorem rows_bag {K : PySem.W.Frag} {H H' : Hp} {p a : Addr} {rows : List Row} (o : OnlyAt p H H') (bg : BagAt H p) (h : RowsAt K H a rows) : RowsAt K H' a rows := by
  obtain ⟨c, m, _, _, _, hp⟩ := bg
  obtain ⟨xs, hS, hX⟩ := h
  refine ⟨xs, ?_, ?_⟩
  · rcases hS with (e | ⟨o', e⟩) | e
    · refine .inl (.inl ?_)
      rw [o a (fun z => ?_)]
      · exact e
      · rw [z, hp] at e
        cases e
        cases rows with
        | nil => cases hX
        | cons r rs =>
          cases hX with
          | cons h1 _ => cases h1
    · refine .inl (.inr ⟨o', ?_⟩)
      rw [o a (fun z => by rw [z, hp] at e; cases e)]
      exact e
    · exact .inr e
  · clear hS
    induction rows generalizing xs with
    | nil => cases hX; exact .nil
    | cons r rs ih =>
      cases hX with
      | cons h1 t1 =>
        obtain ⟨b, rfl, hb⟩ := dp_row h1
        refine .cons (row_dp ?_) (ih _ t1)
        rcases hb with (e | ⟨o', e⟩) | e
        · refine .inl (.inl ?_)
          rw [o b (fun z => by rw [z, hp] at e; cases e)]
          exact e
        · refine .inl (.inr ⟨o', ?_⟩)
          rw [o b (fun z => by rw [z, hp] at e; cases e)]
          exact e
        · exact .inr e
theorem bag_same {H H' : Hp} {p : Addr} (bg : BagAt H p) (s : Same H H') : BagAt H' p := let ⟨c, m, a, b, d, e⟩ := bg; ⟨c, m, a, b, d, s _ _ e⟩
theorem bag_fr1 {H H' : Hp} {p t : Addr} (bg : BagAt H p) (f : Fr1 t H H') (n : p ≠ t) : BagAt H' p := let ⟨c, m, a, b, d, e⟩ := bg; ⟨c, m, a, b, d, f _ _ n e⟩
theorem OnlyAt.fr {S : List Addr} {H H' : Hp} {p : Addr} (o : OnlyAt p H H') (h : p ∈ S) : Fr S H H' := fun b u n e => by
  rw [o b (fun z => n (by rw [z]; exact h))]
  exact e
theorem bag_fr {S : List Addr} {H H' : Hp} {p : Addr} (bg : BagAt H p) (f : Fr S H H') (n : p ∉ S) : BagAt H' p := let ⟨c, m, a, b, d, e⟩ := bg; ⟨c, m, a, b, d, f _ _ n e⟩
/-- keys in a row of steps -/
def KeysUp (base step : Int) (n : Nat) (rows : List Row) : Prop := Tr rows ∧ rows.length = n ∧ ∀ k, k ∈ keysOf rows ↔ ∃ m : Nat, m < n ∧ k = base + step * m

theorem OnlyAt.hid {S : List Addr} {H H' : Hp} {p : Addr} (o : OnlyAt p H H') : OnlyAt p (hid S H) (hid S H') := fun b n => by
  by_cases z : b ∈ S
  · rw [hid_in z, hid_in z]
  · rw [hid_out z, hid_out z, o b n]
theorem bag_hid {S : List Addr} {H : Hp} {p : Addr} (bg : BagAt H p) (n : p ∉ S) : BagAt (hid S H) p := let ⟨c, m, a, b, d, e⟩ := bg; ⟨c, m, a, b, d, (hid_out n).trans e⟩
theorem same_hid_new {H H' : Hp} {g : Addr} (n : H g = none) (s : Same H H') : Same H (hid [g] H') := fun b o e => by
  rw [hid_out (fun z => by
    have : b = g := by simpa using z
    rw [this, n] at e
    cases e)]
  exact s b o e
theorem OkS.of {S : List Addr} {H H' : Hp} {X : List Addr} (k : OkS S H) (f : Fr X H H') (h : ∀ x, x ∈ X → ∃ o, H' x = some o) : OkS S H' := fun a ha => by
  by_cases z : a ∈ X
  · exact h a z
  · obtain ⟨o, e⟩ := k a ha
    exact ⟨o, f a o z e⟩
theorem Fr.hidS {S X : List Addr} {H H' : Hp} (f : Fr X H H') (h : ∀ x, x ∈ X → x ∈ S) : Same (hid S H) (hid S H') := fun b o e => by
  obtain ⟨e1, e2⟩ := hid_some e
  exact (hid_out e2).trans (f b o (fun z => e2 (h b z)) e1)
/-- hidden places were changed, not the log -/
theorem StAt.frS {S X : List Addr} {dx : Addr} {l : V} {og : Option Addr} {H H' : Hp} {t : Addr} {rows : List Row} {log : List PyData} (h : StAt K S C dx l og H t rows log) (f : Fr X H H') (hX : ∀ x, x ∈ X → x ∈ S ∧ x ∉ og.toList) (hs : ∀ x, x ∈ X → ∃ o, H' x = some o) : StAt K S C dx l og H' t rows log := by
  have sh := f.hidS (S := S) fun x z => (hX x z).1
  obtain ⟨⟨hr, a, ht, hR⟩, okS, ntS, h2, h3⟩ := h
  refine ⟨⟨hr, a, f t _ (fun z => ntS (hX t z).1) ht, rows_mono sh hR⟩, okS.of f hs, ntS, fun g eg => ?_, h3⟩
  obtain ⟨ng, xs, hg, hx⟩ := h2 g eg
  exact ⟨ng, xs, f g _ (fun z => (hX g z).2 (by rw [eg]; simp)) hg, dpAll_mono sh hx⟩
theorem TreeS.frS {S X : List Addr} {dx : Addr} {rest : List (Str × V)} {H H' : Hp} {t : Addr} {rows : List Row} (h : TreeS K S C dx rest H t rows) (ntS : t ∉ S) (f : Fr X H H') (hX : ∀ x, x ∈ X → x ∈ S) : TreeS K S C dx rest H' t rows := by
  obtain ⟨hr, a, ht, hR⟩ := h
  exact ⟨hr, a, f t _ (fun z => ntS (hX t z)) ht, rows_mono (f.hidS hX) hR⟩
/-- one more place is hidden, a new one -/
theorem StAt.cons {S : List Addr} {dx n : Addr} {l : V} {og : Option Addr} {H H' : Hp} {t : Addr} {rows : List Row} {log : List PyData} {o : HO} (h : StAt K S C dx l og H t rows log) (nn : H n = none) (s : Same H H') (hn : H' n = some o) : StAt K (n :: S) C dx l og H' t rows log := by
  have sh := same_hid_cons (S := S) nn s
  obtain ⟨⟨hr, a, ht, hR⟩, okS, ntS, h2, h3⟩ := h
  refine ⟨⟨hr, a, s _ _ ht, rows_mono sh hR⟩, (okS.same s).cons hn, by simpa using ⟨show t ≠ n from fun z => (by rw [z, nn] at ht; cases ht), ntS⟩, fun g eg => ?_, h3⟩
  obtain ⟨ng, xs, hg, hx⟩ := h2 g eg
  exact ⟨List.mem_cons_of_mem _ ng, xs, s _ _ hg, dpAll_mono sh hx⟩
theorem TreeS.cons {S : List Addr} {dx n : Addr} {rest : List (Str × V)} {H H' : Hp} {t : Addr} {rows : List Row} (h : TreeS K S C dx rest H t rows) (nn : H n = none) (s : Same H H') : TreeS K (n :: S) C dx rest H' t rows := by
  obtain ⟨hr, a, ht, hR⟩ := h
  exact ⟨hr, a, s _ _ ht, rows_mono (same_hid_cons nn s) hR⟩
theorem atI_map {xs : List Int} {i : Int} {k : Int} (h0 : 0 ≤ i) (h : xs[i.toNat]? = some k) : atI (xs.map V.int) i = some (.int k) := by
  have e : i = (i.toNat : Int) := by omega
  rw [e]
  exact atI_nat (by rw [List.getElem?_map, h]; rfl)
end
end PR
end

section
set_option maxHeartbeats 4000000
namespace PR
open PySem L2 PySem.Spec PyProof.Rows PySem.EX NdefX
local macro_rules | `(tactic| walk_at "st") => `(tactic| first | with_reducible exact setAt_z | with_reducible exact setAt_s (by walk_at "st"))
local macro_rules | `(tactic| walk_at "rd1") => `(tactic| first
  | walk_at "sq"
  | with_reducible refine Rd.nxE ?_
  | with_reducible refine Rd.rtE ?_
  | with_reducible refine Rd.ctE ?_
  | with_reducible refine Rd.bkE ?_
  | with_reducible refine Rd.asg ?_
  | ((with_reducible refine' Rd.gnameW ?h0 ?hs ?_); (case h0 => walk_at "wi"); (case hs => walk_at "st"))
  | ((with_reducible refine' Rd.gname ?hs ?_); (case hs => walk_at "st"))
  | with_reducible refine Rd.ifS ?_
  | with_reducible refine Rd.ret ?_
  | with_reducible refine Rd.retN ?_
  | with_reducible refine Rd.drop ?_
  | with_reducible refine Rd.next ?_
  | ((with_reducible refine' Rd.var ?hv ?_); (case hv => exact rfl))
  | with_reducible refine Rd.c ?_
  | with_reducible refine Rd.op ?_
  | with_reducible refine Rd.un ?_
  | with_reducible refine Rd.neg ?_
  | with_reducible refine Rd.i0 ?_
  | with_reducible refine Rd.test ?_
  | with_reducible refine Rd.chain ?_
  | with_reducible refine Rd.tB ?_
  | with_reducible refine Rd.bl ?_
  | with_reducible refine Rd.not ?_
  | with_reducible refine Rd.and ?_
  | with_reducible refine Rd.or ?_
  | with_reducible refine Rd.andV ?_
  | with_reducible refine Rd.orV ?_
  | with_reducible refine Rd.notV ?_
  | with_reducible refine Rd.nilA ?_
  | with_reducible refine Rd.consA ?_
  | with_reducible refine Rd.cb ?_
  | with_reducible refine Rd.int1 ?_
  | with_reducible refine Rd.abs1 ?_
  | with_reducible refine Rd.gsub ?_
  | with_reducible refine Rd.tpar ?_
  | ((with_reducible refine' Rd.par ?hs ?ht ?_); (case hs => walk_at "st"); (case ht => walk_at "st"))
  | with_reducible refine Rd.ttup ?_
  | with_reducible refine Rd.tlst ?_
  | with_reducible refine Rd.isN ?_
  | with_reducible refine Rd.call ?_
  | with_reducible refine Rd.sl ?_
  | with_reducible refine Rd.noPart ?_
  | with_reducible refine Rd.part ?_
  | with_reducible refine Rd.ex_int ?_
  | with_reducible refine Rd.bm ?_
  | with_reducible refine Rd.tfld ?_
  | with_reducible refine Rd.tforT fun TB hTB => ?_
  | with_reducible refine Rd.tlc ?_
  | with_reducible refine Rd.mk1 ?_
  | with_reducible refine Rd.tdc ?_
  | with_reducible refine Rd.sfld ?_
  | with_reducible refine Rd.methP ?_
  | with_reducible refine Rd.xf ?_

  | with_reducible refine Rd.itemP ?_
  | with_reducible refine Rd.ost ?_
  | with_reducible refine Rd.enumT ?_
  | ((with_reducible refine' Rd.enumTAt ?h1 ?_); (case h1 => walk_at "lk"))
  | with_reducible refine Rd.meth ?_
  | with_reducible refine Rd.make ?_
  | with_reducible refine Rd.prop ?_
  | with_reducible refine Rd.item ?_
  | with_reducible refine Rd.sprop ?_
  | with_reducible refine Rd.star ?_
  | ((with_reducible refine' Rd.starL ?h1 ?_); (case h1 => walk_at "lk"))
  | with_reducible refine Rd.tdget ?_
  | ((with_reducible refine' Rd.fld ?h1 ?h2 ?h3 ?h4 ?_); (case h1 => walk_at "lk"); (case h2 => walk_at "cl"); (case h3 => walk_at "na"); (case h4 => walk_at "fl"))
  | ((with_reducible refine' Rd.ty ?h1 ?_); (case h1 => walk_at "lk"))
  | with_reducible refine Rd.tyes ?_
  | with_reducible refine Rd.noN ?_
  | with_reducible refine Rd.noNr ?_
  | with_reducible refine Rd.yesN ?_
  | with_reducible refine Rd.yesI ?_
  | with_reducible refine Rd.yesR ?_
  | with_reducible refine Rd.noNN ?_
  | with_reducible refine Rd.yes rfl ?_
  | with_reducible refine Rd.no Bool.false_ne_true ?_
  | ((with_reducible refine' Rd.wp ?h1 ?_); (case h1 => exact rfl))
  | ((with_reducible refine' Rd.isi ?h1 ?h2 ?_); (case h1 => walk_at "lk"); (case h2 => first | exact kit_int (dp_nodict (by with_reducible assumption)) | exact kit_bool (dp_nodict (by with_reducible assumption))))
  | with_reducible refine Rd.enum ?_
  | ((with_reducible refine' Rd.enumAt ?h1 ?_); (case h1 => walk_at "lk"))
  | with_reducible refine Rd.rng1 ?_
  | with_reducible refine Rd.rng2 ?_
  | with_reducible refine Rd.ilist ?_
  | with_reducible refine Rd.itup ?_
  | ((with_reducible refine' Rd.ilistAt ?h1 ?_); (case h1 => walk_at "lk"))
  | ((with_reducible refine' Rd.itupAt ?h1 ?_); (case h1 => walk_at "lk"))
  | ((with_reducible refine' Rd.slL ?h1 (fun q H1 nq sq hq => ?_)); (case h1 => walk_at "lk"))
  | with_reducible refine Rd.gcons ?_
  | with_reducible refine Rd.gnil ?_
  | ((with_reducible refine' Rd.gtup ?h1 ?h2 ?_); (case h1 => walk_at "lk"); (case h2 => exact rfl))
  | ((with_reducible refine' Rd.lenL ?h1 ?_); (case h1 => walk_at "lk"))
  | ((with_reducible refine' Rd.lenT ?h1 ?_); (case h1 => walk_at "lk"))
  | ((with_reducible refine' Rd.ixA ?h1 ?h2 ?_); (case h1 => walk_at "lk"); (case h2 => exact rfl))
  | ((with_reducible refine' Rd.ixB ?h1 ?h2 ?_); (case h1 => walk_at "lk"); (case h2 => exact rfl))
  | ((with_reducible refine' Rd.ixL ?h1 ?h2 ?_); (case h1 => walk_at "lk"); (case h2 => exact rfl))
  | ((with_reducible refine' Rd.newAt ?h1 (fun p H1 np sp hp => ?_)); (case h1 => exact sz_small (Nat.le_of_ble_eq_true rfl)))
  | ((with_reducible refine' Rd.ic ?h1 ?_); (case h1 => walk_at "sd"))
  | ((with_reducible refine' Rd.setL ?h1 ?h2 ?h3 ?_); (case h1 => walk_at "lk"); (case h2 => exact rfl); (case h3 => walk_at "st")))
local macro_rules | `(tactic| walk_at "rd") => `(tactic| repeat walk_at "rd1")
local macro_rules | `(tactic| walk_at "lk") => `(tactic| first
  | with_reducible assumption
  | exact upd_same
  | exact SqL.of upd_same
  | exact SqT.of upd_same
  | exact SqL.of (by with_reducible assumption)
  | exact SqT.of (by with_reducible assumption)
  | ((with_reducible refine' same_get ?lks ?lkh); (case lks => with_reducible assumption); (case lkh => walk_at "lk"))
  | ((with_reducible refine' Same.seq ?lks ?lkh); (case lks => with_reducible assumption); (case lkh => walk_at "lk"))
  | ((with_reducible refine' sqT_mono ?lks ?lkh); (case lks => with_reducible assumption); (case lkh => walk_at "lk"))
  | ((with_reducible refine' dp_mono ?lks ?lkh); (case lks => with_reducible assumption); (case lkh => walk_at "lk")))
local macro_rules | `(tactic| walk_at "sd") => `(tactic| first
  | with_reducible assumption
  | decide
  | omega
  | exact Or.inl ⟨by decide, by decide⟩
  | exact ⟨by decide, by decide, by decide⟩
  | exact Or.inr ⟨by decide, by decide⟩
  | exact Or.inl ⟨by omega, by omega⟩
  | exact wide_div (by decide) (by decide : _ < 2 ^ 200) (by decide) (by decide)
  | exact wide_div (by with_reducible assumption) (by assumption : _ < 2 ^ 200) (by decide) (by decide))

local macro_rules | `(tactic| walk_at "cl") => `(tactic| first | exact ct_k (by with_reducible assumption) | exact cl_Tree (by with_reducible assumption) | exact cl_Spot (by with_reducible assumption) | exact cl_Edit (by with_reducible assumption))
local macro_rules | `(tactic| walk_at "na") => `(tactic| first | exact ct_rows (by with_reducible assumption) | exact ct_left (by with_reducible assumption) | exact na_rows (by with_reducible assumption) | exact na_left (by with_reducible assumption) | exact na_tree (by with_reducible assumption) | exact na_key (by with_reducible assumption) | exact na_etree (by with_reducible assumption) | exact na_saved (by with_reducible assumption))
local macro_rules | `(tactic| walk_at "fl") => `(tactic| first | exact lk_head | exact lk_second (by decide +kernel))
local macro_rules | `(tactic| walk_at "wi") => `(tactic| first | (simp only [wipe, List.map_cons, List.map_nil, List.set_cons_succ, List.set_cons_zero]; done) | (simp only [wipe, List.map_cons, List.map_nil, List.set_cons_succ, List.set_cons_zero]; exact rfl))

set_option hygiene false in
local macro_rules | `(tactic| walk_at "sq") => `(tactic| with_reducible refine Rd.seqT fun S2 hS2 => ?_)
set_option hygiene false in
local macro_rules | `(tactic| walk_at "nx") => `(tactic| subst hS2)

section
variable {P : Program} {w : World} {K : PySem.W.Frag} {mg : Str → Option Value} {base : Heap} {A : Ad} {C : Addr}
open L2H HotX
/-- a good put, by either class -/
def spPt (K : PySem.W.Frag) (C : Addr) (b : Bool) : Sp := fun vs H Q _ => ∃ t k o S dx l og rows log, vs = [.ref t, .int k, optV o] ∧ og.isSome = b ∧ StAt K S C dx l og H t rows log ∧ rows.length ≤ 90000 ∧ log.length ≤ 100000 ∧ keyD (.int k) = true ∧ hasK rows (.int k) = false ∧ (∀ q, o = some q → hasK rows (.int q) = true) ∧
  ∀ H', FrO t og H H' → StAt K S C dx l og H' t (putR rows k o) (logO "put" log k o og) → Q .non H'
theorem optD_ne {o : Option Int} (h : optD o ≠ .none) : ∃ q, o = some q := by
  cases o with
  | none => exact absurd rfl h
  | some q => exact ⟨q, rfl⟩
theorem pt_tree {vs : List V} {H : Hp} {Q : VK} {E : XK} (h : spPt K C false vs H Q E) : spPut K A C vs H Q E := by
  obtain ⟨t, k, o, S, dx, l, og, rows, log, rfl, hb, hS, hl, _, kd, hk, ho, q⟩ := h
  cases og with
  | some g => cases hb
  | none =>
    refine ⟨t, _, _, S, dx, _, rows, .int k, optD o, rfl, hS.1, hS.okS, hS.ntS, .int _, optV_dp o, hl, fun k' o' H' ed eo _ _ _ f hS' => ?_, fun z => ?_, fun z => ?_, fun _ _ ne z => ?_⟩
    · have e1 : k = k' := by injection ed
      have e2 := opt_inj eo
      subst e1 e2
      obtain ⟨_, a', ht', _⟩ := id hS'
      exact q H' (FrO.of1 f) (TreeS.st hS' (hS.okS.fr1 f ⟨_, ht'⟩) hS.ntS)
    · rw [kd] at z; cases z
    · rw [hk] at z; cases z
    · obtain ⟨q', rfl⟩ := optD_ne ne
      rw [show optD (some q') = PyData.int q' from rfl, ho q' rfl] at z
      cases z
theorem pt_log {vs : List V} {H : Hp} {Q : VK} {E : XK} (h : spPt K C true vs H Q E) : spLPut K A C vs H Q E := by
  obtain ⟨t, k, o, S, dx, l, og, rows, log, rfl, hb, hS, hl, hll, kd, hk, ho, q⟩ := h
  cases og with
  | none => cases hb
  | some g =>
    refine ⟨t, _, _, S, dx, l, g, rows, log, .int k, optD o, rfl, hS.logA, .int _, optV_dp o, hl, hll, fun k' o' H' ed eo _ _ _ f hS' => ?_, fun z => ?_, fun z => ?_, fun _ _ ne z => ?_⟩
    · have e1 : k = k' := by injection ed
      have e2 := opt_inj eo
      subst e1 e2
      exact q H' (FrO.ofFr f) hS'.st
    · rw [kd] at z; cases z
    · rw [hk] at z; cases z
    · obtain ⟨q', rfl⟩ := optD_ne ne
      rw [show optD (some q') = PyData.int q' from rfl, ho q' rfl] at z
      cases z
/-- the places hidden behind several moves that were taken back -/
def newO : Option Addr → Option Addr → List Addr → List Addr
  | some _, some g, S => g :: S
  | _, _, S => S
/-- several moves, by either class -/
def spAllX (K : PySem.W.Frag) (A : Ad) (C : Addr) (b : Bool) : Sp := fun vs H Q E => ∃ t p xs ms S dx l og rows log out, vs = [.ref t, .ref p] ∧ og.isSome = b ∧ SqT K (hid og.toList H) p xs ∧ MovesAt K (hid og.toList H) xs ms ∧ ms.length ≤ 1000 ∧ StAt K S C dx l og H t rows log ∧ Tr rows ∧ rows.length ≤ 90000 ∧ log.length + ms.length ≤ 100000 ∧ RunR rows ms 0 out ∧
  (∀ rows' H', out = .ok rows' → FrO t og H H' → StAt K S C dx l og H' t rows' (logAll log ms og) → Q .non H') ∧
  (∀ j why H' d og', out = .bad j why → og'.isSome = b → FrP t og og' H H' → StAt K (newO og og' S) C dx l og' H' t rows log → H' d = some (.xd [("why", .str why), ("place", .int (j : Nat))]) → E (.ref A.c_Undone) (some d) H')
theorem all_tree {vs : List V} {H : Hp} {Q : VK} {E : XK} (h : starSp (spAllX K A C false) vs H Q E) : starSp (spAllB K A C false) vs H Q E := by
  obtain ⟨ws, rest, e, h1, h2, h3⟩ := h
  refine ⟨ws, rest, e, h1, h2, fun p np => ?_⟩
  obtain ⟨t, p', xs, ms, S, dx, l, og, rows, log, out, e1, hb, hp, hms, hml, hS, htr, hl, hll, hrun, q, qe⟩ := h3 p np
  cases og with
  | some g => cases hb
  | none =>
    refine ⟨t, p', xs, ms, S, dx, l, none, rows, log, out, e1, rfl, hp, hms, hml, hS, htr, hl, hll, hrun, q, fun j why eo H' d log' b _ _ f hS' hd => ?_⟩
    refine qe j why H' d none eo rfl f ?_ hd
    rw [hS.ln rfl]
    rw [hS'.ln rfl] at hS'
    exact hS'
theorem all_log {vs : List V} {H : Hp} {Q : VK} {E : XK} (h : starSp (spAllX K A C true) vs H Q E) : starSp (spLAll K A C) vs H Q E := by
  obtain ⟨ws, rest, e, h1, h2, h3⟩ := h
  refine ⟨ws, rest, e, h1, h2, fun p np => ?_⟩
  obtain ⟨t, p', xs, ms, S, dx, l, og, rows, log, out, e1, hb, hp, hms, hml, hS, htr, hl, hll, hrun, q, qe⟩ := h3 p np
  cases og with
  | none => cases hb
  | some g => exact ⟨t, p', xs, ms, S, dx, l, g, rows, log, out, e1, hp, hms, hml, hS, htr, hl, hll, hrun, q, fun j why H' d gn eo f hS' hd => qe j why H' d (some gn) eo rfl f hS' hd⟩
/-- what is known of a class of trees -/
structure ClsF (P : Program) (w : World) (K : PySem.W.Frag) (base : Heap) (mg : Str → Option Value) (A : Ad) (C : Addr) (b : Bool) (fp fa : Addr) : Prop where
  ct : ClsT K C
  m_put : Meth K C "put" fp
  r_put : FnR P w K mg base (L2.CX P w) 6 fp (spPt K C b)
  m_all : Meth K C "move_all" fa
  r_all : FnR P w K mg base (L2.CX P w) 11 fa (starSp (spAllX K A C b))
  s_iter : SpM K C "__iter__" A.f_T_iter
  s_len : SpM K C "__len__" A.f_T_len
theorem clsF_tree (T : Txt P K mg A) : ClsF P w K base mg A A.c_Tree false A.f_T_put A.f_T_all :=
  ⟨T.ct_Tree, T.mT_put, (((ok_T_put (P := P) (w := w) (base := base) T T.ct_Tree).weakN.raw (bind_put T) .nil).mono (by decide)).imp fun _ _ _ _ h => by rw [List.append_nil]; exact pt_tree h,
    T.mT_all, ((ok_TT_all (P := P) (w := w) (base := base) T).mono (by decide)).imp fun _ _ _ _ h => all_tree h, T.sT_iter, T.sT_len⟩
theorem clsF_log (T : Txt P K mg A) : ClsF P w K base mg A A.c_Log true A.f_L_put A.f_L_all :=
  ⟨T.ct_Log, T.mL_put, ((ok_L_put (P := P) (w := w) (base := base) T).weakN.raw (bind_L_put T) .nil).imp fun _ _ _ _ h => by rw [List.append_nil]; exact pt_log h,
    T.mL_all, (ok_L_all (P := P) (w := w) (base := base) T).imp fun _ _ _ _ h => all_log h, T.sL_iter, T.sL_len⟩
end
end PR
end

section
set_option maxHeartbeats 4000000
namespace PR
open PySem L2 PySem.Spec PyProof.Rows PySem.EX
local macro_rules | `(tactic| walk_at "st") => `(tactic| first | with_reducible exact setAt_z | with_reducible exact setAt_s (by walk_at "st"))
local macro_rules | `(tactic| walk_at "rd1") => `(tactic| first
  | walk_at "sq"
  | with_reducible refine Rd.nxE ?_
  | with_reducible refine Rd.rtE ?_
  | with_reducible refine Rd.ctE ?_
  | with_reducible refine Rd.bkE ?_
  | with_reducible refine Rd.asg ?_
  | ((with_reducible refine' Rd.gnameW ?h0 ?hs ?_); (case h0 => walk_at "wi"); (case hs => walk_at "st"))
  | ((with_reducible refine' Rd.gname ?hs ?_); (case hs => walk_at "st"))
  | with_reducible refine Rd.ifS ?_
  | with_reducible refine Rd.ret ?_
  | with_reducible refine Rd.retN ?_
  | with_reducible refine Rd.drop ?_
  | with_reducible refine Rd.next ?_
  | ((with_reducible refine' Rd.var ?hv ?_); (case hv => exact rfl))
  | with_reducible refine Rd.c ?_
  | with_reducible refine Rd.op ?_
  | with_reducible refine Rd.un ?_
  | with_reducible refine Rd.neg ?_
  | with_reducible refine Rd.i0 ?_
  | with_reducible refine Rd.test ?_
  | with_reducible refine Rd.chain ?_
  | with_reducible refine Rd.tB ?_
  | with_reducible refine Rd.bl ?_
  | with_reducible refine Rd.not ?_
  | with_reducible refine Rd.and ?_
  | with_reducible refine Rd.or ?_
  | with_reducible refine Rd.andV ?_
  | with_reducible refine Rd.orV ?_
  | with_reducible refine Rd.notV ?_
  | with_reducible refine Rd.nilA ?_
  | with_reducible refine Rd.consA ?_
  | with_reducible refine Rd.cb ?_
  | with_reducible refine Rd.int1 ?_
  | with_reducible refine Rd.abs1 ?_
  | with_reducible refine Rd.gsub ?_
  | with_reducible refine Rd.tpar ?_
  | ((with_reducible refine' Rd.par ?hs ?ht ?_); (case hs => walk_at "st"); (case ht => walk_at "st"))
  | with_reducible refine Rd.ttup ?_
  | with_reducible refine Rd.tlst ?_
  | with_reducible refine Rd.isN ?_
  | with_reducible refine Rd.call ?_
  | with_reducible refine Rd.sl ?_
  | with_reducible refine Rd.noPart ?_
  | with_reducible refine Rd.part ?_
  | with_reducible refine Rd.ex_int ?_
  | with_reducible refine Rd.bm ?_
  | with_reducible refine Rd.tfld ?_
  | with_reducible refine Rd.tforT fun TB hTB => ?_
  | with_reducible refine Rd.tlc ?_
  | with_reducible refine Rd.mk1 ?_
  | with_reducible refine Rd.tdc ?_
  | with_reducible refine Rd.sfld ?_
  | with_reducible refine Rd.methP ?_
  | with_reducible refine Rd.xf ?_

  | with_reducible refine Rd.itemP ?_
  | with_reducible refine Rd.ost ?_
  | with_reducible refine Rd.enumT ?_
  | ((with_reducible refine' Rd.enumTAt ?h1 ?_); (case h1 => walk_at "lk"))
  | with_reducible refine Rd.meth ?_
  | with_reducible refine Rd.make ?_
  | with_reducible refine Rd.prop ?_
  | with_reducible refine Rd.item ?_
  | with_reducible refine Rd.sprop ?_
  | with_reducible refine Rd.star ?_
  | ((with_reducible refine' Rd.starL ?h1 ?_); (case h1 => walk_at "lk"))
  | with_reducible refine Rd.tdget ?_
  | ((with_reducible refine' Rd.fld ?h1 ?h2 ?h3 ?h4 ?_); (case h1 => walk_at "lk"); (case h2 => walk_at "cl"); (case h3 => walk_at "na"); (case h4 => walk_at "fl"))
  | ((with_reducible refine' Rd.ty ?h1 ?_); (case h1 => walk_at "lk"))
  | with_reducible refine Rd.tyes ?_
  | with_reducible refine Rd.noN ?_
  | with_reducible refine Rd.noNr ?_
  | with_reducible refine Rd.yesN ?_
  | with_reducible refine Rd.yesI ?_
  | with_reducible refine Rd.yesR ?_
  | with_reducible refine Rd.noNN ?_
  | with_reducible refine Rd.yes rfl ?_
  | with_reducible refine Rd.no Bool.false_ne_true ?_
  | ((with_reducible refine' Rd.wp ?h1 ?_); (case h1 => exact rfl))
  | ((with_reducible refine' Rd.isi ?h1 ?h2 ?_); (case h1 => walk_at "lk"); (case h2 => first | exact kit_int (dp_nodict (by with_reducible assumption)) | exact kit_bool (dp_nodict (by with_reducible assumption))))
  | with_reducible refine Rd.enum ?_
  | ((with_reducible refine' Rd.enumAt ?h1 ?_); (case h1 => walk_at "lk"))
  | with_reducible refine Rd.rng1 ?_
  | with_reducible refine Rd.rng2 ?_
  | with_reducible refine Rd.ilist ?_
  | with_reducible refine Rd.itup ?_
  | ((with_reducible refine' Rd.ilistAt ?h1 ?_); (case h1 => walk_at "lk"))
  | ((with_reducible refine' Rd.itupAt ?h1 ?_); (case h1 => walk_at "lk"))
  | ((with_reducible refine' Rd.slL ?h1 (fun q H1 nq sq hq => ?_)); (case h1 => walk_at "lk"))
  | with_reducible refine Rd.gcons ?_
  | with_reducible refine Rd.gnil ?_
  | ((with_reducible refine' Rd.gtup ?h1 ?h2 ?_); (case h1 => walk_at "lk"); (case h2 => exact rfl))
  | ((with_reducible refine' Rd.lenL ?h1 ?_); (case h1 => walk_at "lk"))
  | ((with_reducible refine' Rd.lenT ?h1 ?_); (case h1 => walk_at "lk"))
  | ((with_reducible refine' Rd.ixA ?h1 ?h2 ?_); (case h1 => walk_at "lk"); (case h2 => exact rfl))
  | ((with_reducible refine' Rd.ixB ?h1 ?h2 ?_); (case h1 => walk_at "lk"); (case h2 => exact rfl))
  | ((with_reducible refine' Rd.ixL ?h1 ?h2 ?_); (case h1 => walk_at "lk"); (case h2 => exact rfl))
  | ((with_reducible refine' Rd.newAt ?h1 (fun p H1 np sp hp => ?_)); (case h1 => exact sz_small (Nat.le_of_ble_eq_true rfl)))
  | ((with_reducible refine' Rd.ic ?h1 ?_); (case h1 => walk_at "sd"))
  | ((with_reducible refine' Rd.setL ?h1 ?h2 ?h3 ?_); (case h1 => walk_at "lk"); (case h2 => exact rfl); (case h3 => walk_at "st")))
local macro_rules | `(tactic| walk_at "rd") => `(tactic| repeat walk_at "rd1")
local macro_rules | `(tactic| walk_at "lk") => `(tactic| first
  | with_reducible assumption
  | exact upd_same
  | exact SqL.of upd_same
  | exact SqT.of upd_same
  | exact SqL.of (by with_reducible assumption)
  | exact SqT.of (by with_reducible assumption)
  | ((with_reducible refine' same_get ?lks ?lkh); (case lks => with_reducible assumption); (case lkh => walk_at "lk"))
  | ((with_reducible refine' Same.seq ?lks ?lkh); (case lks => with_reducible assumption); (case lkh => walk_at "lk"))
  | ((with_reducible refine' sqT_mono ?lks ?lkh); (case lks => with_reducible assumption); (case lkh => walk_at "lk"))
  | ((with_reducible refine' dp_mono ?lks ?lkh); (case lks => with_reducible assumption); (case lkh => walk_at "lk")))
local macro_rules | `(tactic| walk_at "sd") => `(tactic| first
  | with_reducible assumption
  | decide
  | omega
  | exact Or.inl ⟨by decide, by decide⟩
  | exact ⟨by decide, by decide, by decide⟩
  | exact Or.inr ⟨by decide, by decide⟩
  | exact Or.inl ⟨by omega, by omega⟩
  | exact wide_div (by decide) (by decide : _ < 2 ^ 200) (by decide) (by decide)
  | exact wide_div (by with_reducible assumption) (by assumption : _ < 2 ^ 200) (by decide) (by decide))

local macro_rules | `(tactic| walk_at "cl") => `(tactic| first | exact ct_k (by with_reducible assumption) | exact cl_Tree (by with_reducible assumption) | exact cl_Spot (by with_reducible assumption) | exact cl_Edit (by with_reducible assumption))
local macro_rules | `(tactic| walk_at "na") => `(tactic| first | exact ct_rows (by with_reducible assumption) | exact ct_left (by with_reducible assumption) | exact na_rows (by with_reducible assumption) | exact na_left (by with_reducible assumption) | exact na_tree (by with_reducible assumption) | exact na_key (by with_reducible assumption) | exact na_etree (by with_reducible assumption) | exact na_saved (by with_reducible assumption))
local macro_rules | `(tactic| walk_at "fl") => `(tactic| first | exact lk_head | exact lk_second (by decide +kernel))
local macro_rules | `(tactic| walk_at "wi") => `(tactic| first | (simp only [wipe, List.map_cons, List.map_nil, List.set_cons_succ, List.set_cons_zero]; done) | (simp only [wipe, List.map_cons, List.map_nil, List.set_cons_succ, List.set_cons_zero]; exact rfl))

set_option hygiene false in
local macro_rules | `(tactic| walk_at "sq") => `(tactic| with_reducible refine Rd.seqT fun S2 hS2 => ?_)
set_option hygiene false in
local macro_rules | `(tactic| walk_at "nx") => `(tactic| subst hS2)

abbrev s__law_moves : Stmt := top 42
abbrev s__law_single : Stmt := top 43
abbrev s__law_odd : Stmt := top 44
abbrev s_law : Stmt := top 45
theorem sc__law_moves : FnScope ["_law_tree", "_law_some", "_law_told", "e"] ["_law_tree", "_law_some"] (defScope s__law_moves) := ⟨rfl, rfl, rfl, by decide +kernel, rfl, by decide +kernel, by decide +kernel⟩
theorem sc__law_single : FnScope ["_law_tree", "_law_move"] ["_law_tree", "_law_move"] (defScope s__law_single) := ⟨rfl, rfl, rfl, by decide +kernel, rfl, by decide +kernel, by decide +kernel⟩
theorem sc__law_odd : FnScope ["_law_bag_here", "_law_there", "_law_way"] ["_law_bag_here", "_law_there"] (defScope s__law_odd) := ⟨rfl, rfl, rfl, by decide +kernel, rfl, by decide +kernel, by decide +kernel⟩
theorem sc_law : FnScope ["_law_script", "_law_at", "_law_bag_here", "_law_turn", "_law_base", "_law_step", "_law_is_logged", "_law_tree", "_law_other", "_law_k", "_law_far", "_law_parent", "_law_there", "_law_rows", "_law_some", "_law_key", "_law_due", "_law_good", "_law_place", "_law_move", "_law_why", "_law_logged"] ["_law_script"] (defScope s_law) := ⟨rfl, rfl, rfl, by decide +kernel, rfl, by decide +kernel, by decide +kernel⟩
structure AdL where
  moves : Addr
  d_moves : FuncData
  single : Addr
  d_single : FuncData
  odd : Addr
  d_odd : FuncData
  bag : Addr
  d_bag : FuncData
  take : Addr
  d_take : FuncData
  c_RowsError : Addr
structure TxtL (P : Program) (K : PySem.W.Frag) (mg : Str → Option Value) (A : Ad) (L : AdL) : Prop extends Txt P K mg A where
  n_range : mg "range" = none
  n_abs : mg "abs" = none
  n_max : mg "max" = none
  n_min : mg "min" = none
  n_ValueError : mg "ValueError" = none
  g_RowsError : mg "RowsError" = some (.ref L.c_RowsError)
  g__law_moves : mg "_law_moves" = some (.ref L.moves)
  F__law_moves : Fun K "_law_moves" "_law_moves" s__law_moves L.moves L.d_moves
  g__law_single : mg "_law_single" = some (.ref L.single)
  F__law_single : Fun K "_law_single" "_law_single" s__law_single L.single L.d_single
  g__law_odd : mg "_law_odd" = some (.ref L.odd)
  F__law_odd : Fun K "_law_odd" "_law_odd" s__law_odd L.odd L.d_odd
  g__law_bag : mg "_law_bag" = some (.ref L.bag)
  F__law_bag : Fun K "_law_bag" "_law_bag" s__law_bag L.bag L.d_bag
  g__law_take : mg "_law_take" = some (.ref L.take)
  F__law_take : Fun K "_law_take" "_law_take" s__law_take L.take L.d_take
  e_Undone : ExcC K A.c_Undone
  f_Undone : XfC K A.c_Undone
  z_UR : PySem.W.kitOne K (.ref A.c_Undone) (.ref L.c_RowsError) = some true
  z_UV : PySem.W.kitOne K (.ref A.c_Undone) (.type "ValueError") = some true
section
variable {P : Program} {w : World} {K : PySem.W.Frag} {mg : Str → Option Value} {base : Heap} {A : Ad} {L : AdL}
open L2H HotX
theorem TxtL.b (T : TxtL P K mg A L) : TxtB K mg := ⟨T.n_len, T.n_int, T.n_abs, T.n_enumerate⟩
theorem passL2 {X : Cx} {W : WX} (tk : L2.Takes X W) (σ : L2.St) : PassesAt (L2.CX X.prog X.w) X σ (L2.WE W σ) := L2.passAt tk σ
/-- what a single move comes to -/
inductive StepR (rows : List Row) (d e : PyData) : Option Str → List Row → Prop
  | ok {rows' : List Row} : MoveOk rows d e rows' → StepR rows d e none rows'
  | key : MoveKey rows d e → StepR rows d e (some "key") rows
  | ring : MoveRing rows d e → StepR rows d e (some "ring") rows
def optS : Option Str → V
  | none => .non
  | some s => .str s
def spSingle (K : PySem.W.Frag) (C : Addr) : Sp := fun vs H Q _ => ∃ (t m : Addr) (v p : V) (d e : PyData) (S : List Addr) (dx : Addr) (l : V) (rows : List Row), vs = [.ref t, .ref m] ∧ SqT K H m [v, p] ∧ Dp K H v d ∧ Dp K H p e ∧ TreeS K S C dx [("left", l)] H t rows ∧ OkS S H ∧ t ∉ S ∧ Tr rows ∧ rows.length ≤ 1000 ∧
  ∀ o rows' H', StepR rows d e o rows' → Fr1 t H H' → TreeS K S C dx [("left", l)] H' t rows' → Q (optS o) H'
theorem ok_single (T : TxtL P K mg A L) : FnOk P w K mg base (L2.CX P w) 8 L.single L.d_single ["_law_tree", "_law_move"] (spSingle K A.c_Tree) := by
  have R_move : FnR P w K mg base (L2.CX P w) 6 A.f_T_move (spMove K A A.c_Tree) :=
    (((ok_T_move (P := P) (w := w) (base := base) T.toTxt T.ct_Tree).weakN.raw (T.F_T_move.binds (ps := ["self", "key", "parent"]) fun _ _ _ _ _ _ us hl => match us, hl with | [_, _, _], _ => rfl) .nil).mono (by decide)).imp fun _ _ _ _ h => by rw [List.append_nil]; exact h
  have hCT := T.ct_Tree
  refine T.F__law_single.okX sc__law_single (fun vs H Q E h => ?_) (fun cdv Ar outer s H vs Q E hr h => ?_)
  · obtain ⟨t, m, v, p, d, e, S, dx, l, rows, rfl, _⟩ := h
    rfl
  · obtain ⟨t, m, v, p, d, e, S, dx, l, rows, rfl, hm, hd, he, hSt, okS, ntS, htr, hl, q⟩ := h
    refine ⟨_, pss_cons (ps_tryC (K := K) rfl rfl rfl rfl sc__law_single.nd (fun hd => PassesOwnAt.leaving) (L2.takes_of rfl rfl rfl rfl)
      (fun W pn xe tk hpo => pss_one (ps_expr (pe_methP (pv 0) hCT.k T.mT_move R_move (hr.mono (by decide)) (fun σ => L2.passAt tk σ) (pa_cons (pe_ix (Kx.ix_seq (K := K) rfl) (pv 1) pe_int (fun _ _ => rfl)) (pa_cons (pe_ix (Kx.ix_seq (K := K) rfl) (pv 1) pe_int (fun _ _ => rfl)) pa_nil)))))
      (.no ⟨by rfl, by decide, .inl T.h_Ring⟩ (fun a oe cls d pn xe W hz hd tk => pss_one (ps_ret pe_str))
        (.no ⟨by rfl, by decide, .inl T.h_NoKey⟩ (fun a oe cls d pn xe W hz hd tk => pss_one (ps_ret pe_str)) .nil)))
      (pss_one (ps_ret pe_non)), ?_⟩
    try dsimp only [cxOf]
    rw [show L2.start ["_law_tree", "_law_move"] [V.ref t, V.ref m] = [some (V.ref t), some (V.ref m)] from rfl]
    obtain ⟨hrest, a0, ht, hR⟩ := id hSt
    walk_at "rd"
    refine Rd.methAt ht (hSt.noM n_m1 n_m2 n_m3) ?_
    walk_at "rd"
    refine ⟨t, v, p, S, dx, _, rows, d, e, rfl, hSt, okS, ntS, hd, he, htr, by omega, fun k o H' ed eo hk ho f' hS' => ?_, fun hk => ?_, fun hk ne nk => ?_, fun k q' ps ed eo hk hq hup hin => ?_⟩
    · walk_at "nx"
      walk_at "rd"
      exact q none _ H' (.ok ⟨k, o, ed, eo, hk, ho, rfl⟩) f' hS'
    · intro H5 d5 s5 hd5
      exact ⟨false, T.x_NR, (fun z => by cases z), fun _ => ⟨true, T.x_NN, fun _ a na => q (some "key") _ H5 (.key (.inl hk)) (Same.fr1 s5) (hSt.mono s5), fun z => by cases z⟩⟩
    · intro H5 d5 s5 hd5
      exact ⟨false, T.x_NR, (fun z => by cases z), fun _ => ⟨true, T.x_NN, fun _ a na => q (some "key") _ H5 (.key (.inr ⟨hk, ne, nk⟩)) (Same.fr1 s5) (hSt.mono s5), fun z => by cases z⟩⟩
    · intro H5 D5 T5 _ s5 hD5 hT5
      exact ⟨true, T.x_RR, fun _ a na => q (some "ring") _ H5 (.ring ⟨k, q', ps, ed, eo, hk, hq, hup, hin⟩) (Same.fr1 s5) (hSt.mono s5), fun z => by cases z⟩
end
end PR
end

section
set_option maxHeartbeats 4000000
namespace PR
open PySem L2 PySem.Spec PyProof.Rows PySem.EX
local macro_rules | `(tactic| walk_at "st") => `(tactic| first | with_reducible exact setAt_z | with_reducible exact setAt_s (by walk_at "st"))
local macro_rules | `(tactic| walk_at "rd1") => `(tactic| first
  | walk_at "sq"
  | with_reducible refine Rd.nxE ?_
  | with_reducible refine Rd.rtE ?_
  | with_reducible refine Rd.ctE ?_
  | with_reducible refine Rd.bkE ?_
  | with_reducible refine Rd.asg ?_
  | ((with_reducible refine' Rd.gnameW ?h0 ?hs ?_); (case h0 => walk_at "wi"); (case hs => walk_at "st"))
  | ((with_reducible refine' Rd.gname ?hs ?_); (case hs => walk_at "st"))
  | with_reducible refine Rd.ifS ?_
  | with_reducible refine Rd.ret ?_
  | with_reducible refine Rd.retN ?_
  | with_reducible refine Rd.drop ?_
  | with_reducible refine Rd.next ?_
  | ((with_reducible refine' Rd.var ?hv ?_); (case hv => exact rfl))
  | with_reducible refine Rd.c ?_
  | with_reducible refine Rd.op ?_
  | with_reducible refine Rd.un ?_
  | with_reducible refine Rd.neg ?_
  | with_reducible refine Rd.i0 ?_
  | with_reducible refine Rd.test ?_
  | with_reducible refine Rd.chain ?_
  | with_reducible refine Rd.tB ?_
  | with_reducible refine Rd.bl ?_
  | with_reducible refine Rd.not ?_
  | with_reducible refine Rd.and ?_
  | with_reducible refine Rd.or ?_
  | with_reducible refine Rd.andV ?_
  | with_reducible refine Rd.orV ?_
  | with_reducible refine Rd.notV ?_
  | with_reducible refine Rd.nilA ?_
  | with_reducible refine Rd.consA ?_
  | with_reducible refine Rd.cb ?_
  | with_reducible refine Rd.int1 ?_
  | with_reducible refine Rd.abs1 ?_
  | with_reducible refine Rd.gsub ?_
  | with_reducible refine Rd.tpar ?_
  | ((with_reducible refine' Rd.par ?hs ?ht ?_); (case hs => walk_at "st"); (case ht => walk_at "st"))
  | with_reducible refine Rd.ttup ?_
  | with_reducible refine Rd.tlst ?_
  | with_reducible refine Rd.isN ?_
  | with_reducible refine Rd.call ?_
  | with_reducible refine Rd.sl ?_
  | with_reducible refine Rd.noPart ?_
  | with_reducible refine Rd.part ?_
  | with_reducible refine Rd.ex_int ?_
  | with_reducible refine Rd.bm ?_
  | with_reducible refine Rd.tfld ?_
  | with_reducible refine Rd.tforT fun TB hTB => ?_
  | with_reducible refine Rd.tlc ?_
  | with_reducible refine Rd.mk1 ?_
  | with_reducible refine Rd.tdc ?_
  | with_reducible refine Rd.sfld ?_
  | with_reducible refine Rd.methP ?_
  | with_reducible refine Rd.xf ?_

  | with_reducible refine Rd.itemP ?_
  | with_reducible refine Rd.ost ?_
  | with_reducible refine Rd.enumT ?_
  | ((with_reducible refine' Rd.enumTAt ?h1 ?_); (case h1 => walk_at "lk"))
  | with_reducible refine Rd.meth ?_
  | with_reducible refine Rd.make ?_
  | with_reducible refine Rd.prop ?_
  | with_reducible refine Rd.item ?_
  | with_reducible refine Rd.sprop ?_
  | with_reducible refine Rd.star ?_
  | ((with_reducible refine' Rd.starL ?h1 ?_); (case h1 => walk_at "lk"))
  | with_reducible refine Rd.tdget ?_
  | ((with_reducible refine' Rd.fld ?h1 ?h2 ?h3 ?h4 ?_); (case h1 => walk_at "lk"); (case h2 => walk_at "cl"); (case h3 => walk_at "na"); (case h4 => walk_at "fl"))
  | ((with_reducible refine' Rd.ty ?h1 ?_); (case h1 => walk_at "lk"))
  | with_reducible refine Rd.tyes ?_
  | with_reducible refine Rd.noN ?_
  | with_reducible refine Rd.noNr ?_
  | with_reducible refine Rd.yesN ?_
  | with_reducible refine Rd.yesI ?_
  | with_reducible refine Rd.yesR ?_
  | with_reducible refine Rd.noNN ?_
  | with_reducible refine Rd.yes rfl ?_
  | with_reducible refine Rd.no Bool.false_ne_true ?_
  | ((with_reducible refine' Rd.wp ?h1 ?_); (case h1 => exact rfl))
  | ((with_reducible refine' Rd.isi ?h1 ?h2 ?_); (case h1 => walk_at "lk"); (case h2 => first | exact kit_int (dp_nodict (by with_reducible assumption)) | exact kit_bool (dp_nodict (by with_reducible assumption))))
  | with_reducible refine Rd.enum ?_
  | ((with_reducible refine' Rd.enumAt ?h1 ?_); (case h1 => walk_at "lk"))
  | with_reducible refine Rd.rng1 ?_
  | with_reducible refine Rd.rng2 ?_
  | with_reducible refine Rd.ilist ?_
  | with_reducible refine Rd.itup ?_
  | ((with_reducible refine' Rd.ilistAt ?h1 ?_); (case h1 => walk_at "lk"))
  | ((with_reducible refine' Rd.itupAt ?h1 ?_); (case h1 => walk_at "lk"))
  | ((with_reducible refine' Rd.slL ?h1 (fun q H1 nq sq hq => ?_)); (case h1 => walk_at "lk"))
  | with_reducible refine Rd.gcons ?_
  | with_reducible refine Rd.gnil ?_
  | ((with_reducible refine' Rd.gtup ?h1 ?h2 ?_); (case h1 => walk_at "lk"); (case h2 => exact rfl))
  | ((with_reducible refine' Rd.lenL ?h1 ?_); (case h1 => walk_at "lk"))
  | ((with_reducible refine' Rd.lenT ?h1 ?_); (case h1 => walk_at "lk"))
  | ((with_reducible refine' Rd.ixA ?h1 ?h2 ?_); (case h1 => walk_at "lk"); (case h2 => exact rfl))
  | ((with_reducible refine' Rd.ixB ?h1 ?h2 ?_); (case h1 => walk_at "lk"); (case h2 => exact rfl))
  | ((with_reducible refine' Rd.ixL ?h1 ?h2 ?_); (case h1 => walk_at "lk"); (case h2 => exact rfl))
  | ((with_reducible refine' Rd.newAt ?h1 (fun p H1 np sp hp => ?_)); (case h1 => exact sz_small (Nat.le_of_ble_eq_true rfl)))
  | ((with_reducible refine' Rd.ic ?h1 ?_); (case h1 => walk_at "sd"))
  | ((with_reducible refine' Rd.setL ?h1 ?h2 ?h3 ?_); (case h1 => walk_at "lk"); (case h2 => exact rfl); (case h3 => walk_at "st")))
local macro_rules | `(tactic| walk_at "rd") => `(tactic| repeat walk_at "rd1")
local macro_rules | `(tactic| walk_at "lk") => `(tactic| first
  | with_reducible assumption
  | exact upd_same
  | exact SqL.of upd_same
  | exact SqT.of upd_same
  | exact SqL.of (by with_reducible assumption)
  | exact SqT.of (by with_reducible assumption)
  | ((with_reducible refine' same_get ?lks ?lkh); (case lks => with_reducible assumption); (case lkh => walk_at "lk"))
  | ((with_reducible refine' Same.seq ?lks ?lkh); (case lks => with_reducible assumption); (case lkh => walk_at "lk"))
  | ((with_reducible refine' sqT_mono ?lks ?lkh); (case lks => with_reducible assumption); (case lkh => walk_at "lk"))
  | ((with_reducible refine' dp_mono ?lks ?lkh); (case lks => with_reducible assumption); (case lkh => walk_at "lk")))
local macro_rules | `(tactic| walk_at "sd") => `(tactic| first
  | with_reducible assumption
  | decide
  | omega
  | exact Or.inl ⟨by decide, by decide⟩
  | exact ⟨by decide, by decide, by decide⟩
  | exact Or.inr ⟨by decide, by decide⟩
  | exact Or.inl ⟨by omega, by omega⟩
  | exact wide_div (by decide) (by decide : _ < 2 ^ 200) (by decide) (by decide)
  | exact wide_div (by with_reducible assumption) (by assumption : _ < 2 ^ 200) (by decide) (by decide))

local macro_rules | `(tactic| walk_at "cl") => `(tactic| first | exact ct_k (by with_reducible assumption) | exact cl_Tree (by with_reducible assumption) | exact cl_Spot (by with_reducible assumption) | exact cl_Edit (by with_reducible assumption))
local macro_rules | `(tactic| walk_at "na") => `(tactic| first | exact ct_rows (by with_reducible assumption) | exact ct_left (by with_reducible assumption) | exact na_rows (by with_reducible assumption) | exact na_left (by with_reducible assumption) | exact na_tree (by with_reducible assumption) | exact na_key (by with_reducible assumption) | exact na_etree (by with_reducible assumption) | exact na_saved (by with_reducible assumption))
local macro_rules | `(tactic| walk_at "fl") => `(tactic| first | exact lk_head | exact lk_second (by decide +kernel))
local macro_rules | `(tactic| walk_at "wi") => `(tactic| first | (simp only [wipe, List.map_cons, List.map_nil, List.set_cons_succ, List.set_cons_zero]; done) | (simp only [wipe, List.map_cons, List.map_nil, List.set_cons_succ, List.set_cons_zero]; exact rfl))

set_option hygiene false in
local macro_rules | `(tactic| walk_at "sq") => `(tactic| with_reducible refine Rd.seqT fun S2 hS2 => ?_)
set_option hygiene false in
local macro_rules | `(tactic| walk_at "nx") => `(tactic| subst hS2)

section
variable {P : Program} {w : World} {K : PySem.W.Frag} {mg : Str → Option Value} {base : Heap} {A : Ad} {L : AdL}
open L2H HotX
def spOdd (K : PySem.W.Frag) : Sp := fun vs H Q _ => ∃ (p th : Addr) (ks : List Int) (S : List Addr), vs = [.ref p, .ref th] ∧ (∀ a, a ∈ S → H a ≠ none) ∧ BagAt H p ∧ SqL K H th (ks.map V.int) ∧ p ≠ th ∧ 0 < ks.length ∧ ks.length ≤ 1000 ∧
  ∀ v d H', Fr [p] H H' → BagAt H' p → Dp K (hid S H') v d → Q v H'
theorem ok_odd (T : TxtL P K mg A L) : FnOk P w K mg base (L2.CX P w) 2 L.odd L.d_odd ["_law_bag_here", "_law_there"] (spOdd K) := by
  have G__law_take := ok_take (P := P) (w := w) (base := base) T.b T.F__law_take
  have b__law_take := T.F__law_take.binds (ps := ["_law_bag_here", "_law_many"]) fun _ _ _ _ _ _ us hl => match us, hl with | [_, _], _ => rfl
  refine T.F__law_odd.okX sc__law_odd (fun vs H Q E h => ?_) (fun cdv Ar outer s H vs Q E hr h => ?_)
  · obtain ⟨p, th, ks, S, rfl, _⟩ := h
    rfl
  · obtain ⟨p, th, ks, S, rfl, hSS, bg, hth, npt, hk0, hkl, q⟩ := h
    have hu1 := hu65 hr
    refine ⟨_, (pss_cons (ps_set (i := 2) sc__law_odd.nd rfl (by first | exact Or.inl rfl | exact Or.inr rfl) (pe_call G__law_take (hr.mono (by decide)) rfl T.g__law_take T.F__law_take.kp b__law_take .nil passX (pa_cons (pv 0) (pa_cons pe_int pa_nil))))
    (pss_cons (ps_if (pt_cmpR (Kx.op_eqD (K := K) rfl hu1) (pv 2) pe_int (nomark _)) (pss_one (ps_ret (pe_op op_add (pe_op op_add (pe_callB (L2.cr_max rfl) (by rfl) T.n_max (by decide +kernel) (pa_cons (pv 1) pa_nil)) pe_int) (pe_call G__law_take (hr.mono (by decide)) rfl T.g__law_take T.F__law_take.kp b__law_take .nil passX (pa_cons (pv 0) (pa_cons pe_int pa_nil)))))) pss_nil)
    (pss_cons (ps_if (pt_cmpR (Kx.op_eqD (K := K) rfl hu1) (pv 2) pe_int (nomark _)) (pss_one (ps_ret (pe_ix (Kx.ix_seq (K := K) rfl) (pe_lst (pa_cons pe_bl (pa_cons pe_str (pa_cons pe_non (pa_cons (pe_lst pa_nil) (pa_cons (pe_tup (pa_cons pe_int pa_nil)) (pa_cons pe_str pa_nil))))))) (pe_call G__law_take (hr.mono (by decide)) rfl T.g__law_take T.F__law_take.kp b__law_take .nil passX (pa_cons (pv 0) (pa_cons pe_int pa_nil))) (fun _ _ => rfl)))) pss_nil)
    (pss_one (ps_ret (pe_ix (Kx.ix_seq (K := K) rfl) (pv 1) (pe_call G__law_take (hr.mono (by decide)) rfl T.g__law_take T.F__law_take.kp b__law_take .nil passX (pa_cons (pv 0) (pa_cons (pe_callB (Kx.call_len (K := K) rfl) (by rfl) T.n_len PySem.boot_len (pa_cons (pv 1) pa_nil)) pa_nil))) (fun _ _ => rfl))))))), ?_⟩
    try dsimp only [cxOf]
    rw [show L2.start ["_law_bag_here", "_law_there", "_law_way"] [V.ref p, V.ref th] = [some (V.ref p), some (V.ref th), none] from rfl]
    have eqi : ∀ {x y : Int} {R : VK} {H1 : Hp}, R (.bl (decide (x = y))) H1 → rEqD K (.int x) (.int y) H1 R := fun h => Rd.eqD (.int _) (.int _) (shaped_int _) (shaped_int _) (by rw [eqv_int]; exact h)
    walk_at "rd"
    refine take_at bg (by decide) (by decide) fun d0 H1 z0 z1 o1 bg1 => ?_
    have f1 : Fr [p] H H1 := o1.fr (by simp)
    have hth1 : SqL K H1 th (ks.map V.int) := by
      rcases hth with (e | ⟨o', e⟩) | e
      · exact .inl (.inl ((o1 th (fun z => npt z.symm)).trans e))
      · exact .inl (.inr ⟨o', (o1 th (fun z => npt z.symm)).trans e⟩)
      · exact .inr e
    have hL2 : ∀ {H2 : Hp}, OnlyAt p H1 H2 → SqL K H2 th (ks.map V.int) := fun {H2} o2 => by
      rcases hth1 with (e | ⟨o', e⟩) | e
      · exact .inl (.inl ((o2 th (fun z => npt z.symm)).trans e))
      · exact .inl (.inr ⟨o', (o2 th (fun z => npt z.symm)).trans e⟩)
      · exact .inr e
    walk_at "nx"
    walk_at "rd"
    refine eqi ?_
    walk_at "rd"
    refine ite2 (fun h1 => ?_) (fun h1 => ?_)
    · walk_at "rd"
      refine ⟨th, ks, rfl, hth1, hk0, fun m hm hle => ?_⟩
      walk_at "rd"
      refine take_at bg1 (by decide) (by decide) fun d2 H2 z2 z3 o2 bg2 => ?_
      walk_at "rd"
      exact q _ _ H2 (f1.trans (o2.fr (by simp))) bg2 (.int _)
    · walk_at "nx"
      walk_at "rd"
      refine eqi ?_
      walk_at "rd"
      refine ite2 (fun h2 => ?_) (fun h2 => ?_)
      · walk_at "rd"
        rename_i A1 Ha na sa ha A2 Hb nb sb hb A3 Hc nc sc hc
        have bgc : BagAt Hc p := bag_same (bag_same (bag_same bg1 sa) sb) sc
        have newp : ∀ {x : Addr} {H5 : Hp}, BagAt H5 p → H5 x = none → x ≠ p := fun {x H5} bg5 n z => by
          obtain ⟨_, _, _, _, _, hp⟩ := bg5
          rw [z, hp] at n
          cases n
        have n1 := newp bg1 na
        have n2 := newp (bag_same bg1 sa) nb
        have n3 := newp (bag_same (bag_same bg1 sa) sb) nc
        refine take_at bgc (by decide) (by decide) fun d2 H2 z2 z3 o2 bg2 => ?_
        have fr : Fr [p] H H2 := (((f1.trans (fr_same sa)).trans (fr_same sb)).trans (fr_same sc)).trans (o2.fr (by simp))
        have back : ∀ {x : Addr} {H5 : Hp}, Fr [p] H H5 → H5 x = none → x ≠ p → x ∉ S := fun {x H5} f5 n nx z => by
          cases e : H x with
          | none => exact hSS x z e
          | some o => rw [f5 x o (by simpa using nx) e] at n; cases n
        have m1 := back f1 na n1
        have m2 := back (f1.trans (fr_same sa)) nb n2
        have hA1 : hid S H2 A1 = some (.lst []) := (hid_out m1).trans ((o2 A1 n1).trans (sc _ _ (sb _ _ ha)))
        have hA2 : hid S H2 A2 = some (.tup [.int 1]) := (hid_out m2).trans ((o2 A2 n2).trans (sc _ _ hb))
        have hA3 : H2 A3 = some (.lst [.bl true, .str "", .non, .ref A1, .ref A2, .str "7"]) := (o2 A3 n3).trans hc
        obtain ⟨v, d, ev, hd⟩ : ∃ v d, atI [V.bl true, V.str "", V.non, V.ref A1, V.ref A2, V.str "7"] d2 = some v ∧ Dp K (hid S H2) v d := by
          rcases (by omega : d2 = 0 ∨ d2 = 1 ∨ d2 = 2 ∨ d2 = 3 ∨ d2 = 4 ∨ d2 = 5) with z | z | z | z | z | z
          · subst z; exact ⟨_, _, rfl, .bl true⟩
          · subst z; exact ⟨_, _, rfl, .str _⟩
          · subst z; exact ⟨_, _, rfl, .non⟩
          · subst z; exact ⟨_, _, rfl, .lst (SqL.of hA1) .nil⟩
          · subst z; exact ⟨_, _, rfl, .tup (SqT.of hA2) (.cons (.int _) .nil)⟩
          · subst z; exact ⟨_, _, rfl, .str _⟩
        refine Rd.ixA (SqL.of hA3) ev ?_
        exact q v d H2 fr bg2 hd
      · walk_at "nx"
        walk_at "rd"
        refine take_at bg1 (by rw [List.length_map]; omega) (by rw [List.length_map, Int.natAbs_natCast]; exact Nat.lt_of_le_of_lt hkl (by decide)) fun d2 H2 z2 z3 o2 bg2 => ?_
        rw [List.length_map] at z3
        have hlt : d2.toNat < ks.length := by omega
        refine Rd.ixA (hL2 o2) (atI_map z2 (List.getElem?_eq_getElem hlt)) ?_
        exact q _ _ H2 (f1.trans (o2.fr (by simp))) bg2 (.int _)
end
end PR
end

section
set_option maxHeartbeats 4000000
namespace PR
open PySem L2 PySem.Spec PyProof.Rows PySem.EX
local macro_rules | `(tactic| walk_at "st") => `(tactic| first | with_reducible exact setAt_z | with_reducible exact setAt_s (by walk_at "st"))
local macro_rules | `(tactic| walk_at "rd1") => `(tactic| first
  | walk_at "sq"
  | with_reducible refine Rd.nxE ?_
  | with_reducible refine Rd.rtE ?_
  | with_reducible refine Rd.ctE ?_
  | with_reducible refine Rd.bkE ?_
  | with_reducible refine Rd.asg ?_
  | ((with_reducible refine' Rd.gnameW ?h0 ?hs ?_); (case h0 => walk_at "wi"); (case hs => walk_at "st"))
  | ((with_reducible refine' Rd.gname ?hs ?_); (case hs => walk_at "st"))
  | with_reducible refine Rd.ifS ?_
  | with_reducible refine Rd.ret ?_
  | with_reducible refine Rd.retN ?_
  | with_reducible refine Rd.drop ?_
  | with_reducible refine Rd.next ?_
  | ((with_reducible refine' Rd.var ?hv ?_); (case hv => exact rfl))
  | with_reducible refine Rd.c ?_
  | with_reducible refine Rd.op ?_
  | with_reducible refine Rd.un ?_
  | with_reducible refine Rd.neg ?_
  | with_reducible refine Rd.i0 ?_
  | with_reducible refine Rd.test ?_
  | with_reducible refine Rd.chain ?_
  | with_reducible refine Rd.tB ?_
  | with_reducible refine Rd.bl ?_
  | with_reducible refine Rd.not ?_
  | with_reducible refine Rd.and ?_
  | with_reducible refine Rd.or ?_
  | with_reducible refine Rd.andV ?_
  | with_reducible refine Rd.orV ?_
  | with_reducible refine Rd.notV ?_
  | with_reducible refine Rd.nilA ?_
  | with_reducible refine Rd.consA ?_
  | with_reducible refine Rd.cb ?_
  | with_reducible refine Rd.int1 ?_
  | with_reducible refine Rd.abs1 ?_
  | with_reducible refine Rd.gsub ?_
  | with_reducible refine Rd.tpar ?_
  | ((with_reducible refine' Rd.par ?hs ?ht ?_); (case hs => walk_at "st"); (case ht => walk_at "st"))
  | with_reducible refine Rd.ttup ?_
  | with_reducible refine Rd.tlst ?_
  | with_reducible refine Rd.isN ?_
  | with_reducible refine Rd.call ?_
  | with_reducible refine Rd.sl ?_
  | with_reducible refine Rd.noPart ?_
  | with_reducible refine Rd.part ?_
  | with_reducible refine Rd.ex_int ?_
  | with_reducible refine Rd.bm ?_
  | with_reducible refine Rd.tfld ?_
  | with_reducible refine Rd.tforT fun TB hTB => ?_
  | with_reducible refine Rd.tlc ?_
  | with_reducible refine Rd.mk1 ?_
  | with_reducible refine Rd.tdc ?_
  | with_reducible refine Rd.sfld ?_
  | with_reducible refine Rd.methP ?_
  | with_reducible refine Rd.xf ?_

  | with_reducible refine Rd.itemP ?_
  | with_reducible refine Rd.ost ?_
  | with_reducible refine Rd.enumT ?_
  | ((with_reducible refine' Rd.enumTAt ?h1 ?_); (case h1 => walk_at "lk"))
  | with_reducible refine Rd.meth ?_
  | with_reducible refine Rd.make ?_
  | with_reducible refine Rd.prop ?_
  | with_reducible refine Rd.item ?_
  | with_reducible refine Rd.sprop ?_
  | with_reducible refine Rd.star ?_
  | ((with_reducible refine' Rd.starL ?h1 ?_); (case h1 => walk_at "lk"))
  | with_reducible refine Rd.tdget ?_
  | ((with_reducible refine' Rd.fld ?h1 ?h2 ?h3 ?h4 ?_); (case h1 => walk_at "lk"); (case h2 => walk_at "cl"); (case h3 => walk_at "na"); (case h4 => walk_at "fl"))
  | ((with_reducible refine' Rd.ty ?h1 ?_); (case h1 => walk_at "lk"))
  | with_reducible refine Rd.tyes ?_
  | with_reducible refine Rd.noN ?_
  | with_reducible refine Rd.noNr ?_
  | with_reducible refine Rd.yesN ?_
  | with_reducible refine Rd.yesI ?_
  | with_reducible refine Rd.yesR ?_
  | with_reducible refine Rd.noNN ?_
  | with_reducible refine Rd.yes rfl ?_
  | with_reducible refine Rd.no Bool.false_ne_true ?_
  | ((with_reducible refine' Rd.wp ?h1 ?_); (case h1 => exact rfl))
  | ((with_reducible refine' Rd.isi ?h1 ?h2 ?_); (case h1 => walk_at "lk"); (case h2 => first | exact kit_int (dp_nodict (by with_reducible assumption)) | exact kit_bool (dp_nodict (by with_reducible assumption))))
  | with_reducible refine Rd.enum ?_
  | ((with_reducible refine' Rd.enumAt ?h1 ?_); (case h1 => walk_at "lk"))
  | with_reducible refine Rd.rng1 ?_
  | with_reducible refine Rd.rng2 ?_
  | with_reducible refine Rd.ilist ?_
  | with_reducible refine Rd.itup ?_
  | ((with_reducible refine' Rd.ilistAt ?h1 ?_); (case h1 => walk_at "lk"))
  | ((with_reducible refine' Rd.itupAt ?h1 ?_); (case h1 => walk_at "lk"))
  | ((with_reducible refine' Rd.slL ?h1 (fun q H1 nq sq hq => ?_)); (case h1 => walk_at "lk"))
  | with_reducible refine Rd.gcons ?_
  | with_reducible refine Rd.gnil ?_
  | ((with_reducible refine' Rd.gtup ?h1 ?h2 ?_); (case h1 => walk_at "lk"); (case h2 => exact rfl))
  | ((with_reducible refine' Rd.lenL ?h1 ?_); (case h1 => walk_at "lk"))
  | ((with_reducible refine' Rd.lenT ?h1 ?_); (case h1 => walk_at "lk"))
  | ((with_reducible refine' Rd.ixA ?h1 ?h2 ?_); (case h1 => walk_at "lk"); (case h2 => exact rfl))
  | ((with_reducible refine' Rd.ixB ?h1 ?h2 ?_); (case h1 => walk_at "lk"); (case h2 => exact rfl))
  | ((with_reducible refine' Rd.ixL ?h1 ?h2 ?_); (case h1 => walk_at "lk"); (case h2 => exact rfl))
  | ((with_reducible refine' Rd.newAt ?h1 (fun p H1 np sp hp => ?_)); (case h1 => exact sz_small (Nat.le_of_ble_eq_true rfl)))
  | ((with_reducible refine' Rd.ic ?h1 ?_); (case h1 => walk_at "sd"))
  | ((with_reducible refine' Rd.setL ?h1 ?h2 ?h3 ?_); (case h1 => walk_at "lk"); (case h2 => exact rfl); (case h3 => walk_at "st")))
local macro_rules | `(tactic| walk_at "rd") => `(tactic| repeat walk_at "rd1")
local macro_rules | `(tactic| walk_at "lk") => `(tactic| first
  | with_reducible assumption
  | exact upd_same
  | exact SqL.of upd_same
  | exact SqT.of upd_same
  | exact SqL.of (by with_reducible assumption)
  | exact SqT.of (by with_reducible assumption)
  | ((with_reducible refine' same_get ?lks ?lkh); (case lks => with_reducible assumption); (case lkh => walk_at "lk"))
  | ((with_reducible refine' Same.seq ?lks ?lkh); (case lks => with_reducible assumption); (case lkh => walk_at "lk"))
  | ((with_reducible refine' sqT_mono ?lks ?lkh); (case lks => with_reducible assumption); (case lkh => walk_at "lk"))
  | ((with_reducible refine' dp_mono ?lks ?lkh); (case lks => with_reducible assumption); (case lkh => walk_at "lk")))
local macro_rules | `(tactic| walk_at "sd") => `(tactic| first
  | with_reducible assumption
  | decide
  | omega
  | exact Or.inl ⟨by decide, by decide⟩
  | exact ⟨by decide, by decide, by decide⟩
  | exact Or.inr ⟨by decide, by decide⟩
  | exact Or.inl ⟨by omega, by omega⟩
  | exact wide_div (by decide) (by decide : _ < 2 ^ 200) (by decide) (by decide)
  | exact wide_div (by with_reducible assumption) (by assumption : _ < 2 ^ 200) (by decide) (by decide))

local macro_rules | `(tactic| walk_at "cl") => `(tactic| first | exact ct_k (by with_reducible assumption) | exact cl_Tree (by with_reducible assumption) | exact cl_Spot (by with_reducible assumption) | exact cl_Edit (by with_reducible assumption))
local macro_rules | `(tactic| walk_at "na") => `(tactic| first | exact ct_rows (by with_reducible assumption) | exact ct_left (by with_reducible assumption) | exact na_rows (by with_reducible assumption) | exact na_left (by with_reducible assumption) | exact na_tree (by with_reducible assumption) | exact na_key (by with_reducible assumption) | exact na_etree (by with_reducible assumption) | exact na_saved (by with_reducible assumption))
local macro_rules | `(tactic| walk_at "fl") => `(tactic| first | exact lk_head | exact lk_second (by decide +kernel))
local macro_rules | `(tactic| walk_at "wi") => `(tactic| first | (simp only [wipe, List.map_cons, List.map_nil, List.set_cons_succ, List.set_cons_zero]; done) | (simp only [wipe, List.map_cons, List.map_nil, List.set_cons_succ, List.set_cons_zero]; exact rfl))

set_option hygiene false in
local macro_rules | `(tactic| walk_at "sq") => `(tactic| with_reducible refine Rd.seqT fun S2 hS2 => ?_)
set_option hygiene false in
local macro_rules | `(tactic| walk_at "nx") => `(tactic| subst hS2)

section
variable {X : Cx} {CX : CXT} {k : Nat} {C f g : Addr} {m : Str} {sp : Sp} {E : L2.St → XK} {o : Expr} {ta : TE} {apos pos : Pos} {pl : Sem Bool}
theorem pe_methP0 (he : PE X o ta) (c : Cls X.K C) (hm : Meth X.K C m f) (F : FnR X.prog X.w X.K X.mg X.base CX k f sp) (hr : Room k X.A) (hx : ∀ σ, PassesAt CX X σ (E σ))
    (ht : eval (.Call (.Attribute o m apos) [] [] pos) X.env = (do
      let ov ← eval o X.env
      standAt apos.atName
      let (f, first) ← holding [ov] (getMethod ov m pl)
      callWith pos f first (backTo pos (starEach [] X.env)) (backToKw pos (keywordEach [] X.env))) := by rfl) :
    PE X (.Call (.Attribute o m apos) [] [] pos) (tMethP C m sp E ta tNil) := by
  refine ⟨fun pins s σ H Q I h => ?_⟩
  refine PySem.W.methodCall_KW (pl := pl) (thn (he.run pins s σ H _ I h) fun u s1 ⟨x, H1, I1, rx, a, dx, fs, ex, ea, l, q⟩ => ?_) ht
  subst ex
  obtain rfl : u = Value.ref a := rx
  refine getmeth_ok I1 ea c hm l (PySem.W.callWith_K0 (first := [.ref a]) I1.kIn hm.kp ?_)
  exact wpAny_call (run_fnRS (us := [.ref a]) (vs := [.ref a]) F hr I1.env0 (hx σ) I1 (.cons rfl .nil) q)
end
section
variable {P : Program} {w : World} {K : PySem.W.Frag} {mg : Str → Option Value} {base : Heap} {A : Ad} {L : AdL} {C fp fa : Addr} {b : Bool}
open L2H HotX
def spMoves (K : PySem.W.Frag) (C : Addr) (b : Bool) : Sp := fun vs H Q _ => ∃ t m xs ms S dx l og rows log out, vs = [.ref t, .ref m] ∧ og.isSome = b ∧ SqL K H m xs ∧ MovesAt K (hid og.toList H) xs ms ∧ ms.length ≤ 5 ∧ StAt K S C dx l og H t rows log ∧ Tr rows ∧ rows.length ≤ 1000 ∧ log.length ≤ 1000 ∧ RunR rows ms 0 out ∧
  (∀ rows' H', out = .ok rows' → FrO t og H H' → StAt K S C dx l og H' t rows' (logAll log ms og) → Q .non H') ∧
  (∀ j why H' og' r, out = .bad j why → og'.isSome = b → FrP t og og' H H' → StAt K (newO og og' S) C dx l og' H' t rows log → H' r = some (.lst [.int (j : Nat), .str why, .bl true]) → Q (.ref r) H')
theorem n_a1 : ¬ (("rows" : Str) = "move_all") := by decide +kernel
theorem n_a2 : ("move_all" : Str) ≠ "left" := by decide +kernel
theorem n_a3 : ("move_all" : Str) ≠ "log" := by decide +kernel
theorem n_wp : ¬ (("why" : Str) = "place") := by decide +kernel
theorem ok_moves (T : TxtL P K mg A L) (F : ClsF P w K base mg A C b fp fa) : FnOk P w K mg base (L2.CX P w) 13 L.moves L.d_moves ["_law_tree", "_law_some"] (spMoves K C b) := by
  refine T.F__law_moves.okX sc__law_moves (fun vs H Q E h => ?_) (fun cdv Ar outer s H vs Q E hr h => ?_)
  · obtain ⟨t, m, xs, ms, S, dx, l, og, rows, log, out, rfl, _⟩ := h
    rfl
  · obtain ⟨t, m, xs, ms, S, dx, l, og, rows, log, out, rfl, hbo, hm, hms, hml, hSt, htr, hl, hll, hrun, q1, q2⟩ := h
    have hu1 := hu65 hr
    refine ⟨_, pss_cons (ps_tryC (K := K) rfl rfl rfl rfl sc__law_moves.nd (fun hd => PassesOwnAt.leaving) (L2.takes_of rfl rfl rfl rfl)
      (fun W pn xe tk hpo => (pss_one (ps_if (pt_cmpR (Kx.op_eqD (K := K) rfl hu1) (pe_callB (Kx.call_len (K := K) rfl) (by rfl) T.n_len PySem.boot_len (pa_cons (pv 1) pa_nil)) pe_int (nomark _)) (pss_one (ps_set (i := 2) sc__law_moves.nd rfl (by first | exact Or.inl rfl | exact Or.inr rfl) (pe_methP0 (pv 0) F.ct.k F.m_all F.r_all (hr.mono (by decide)) (fun σ => L2.passAt tk σ)))) (pss_one (ps_if (pt_cmpR (Kx.op_eqD (K := K) rfl hu1) (pe_callB (Kx.call_len (K := K) rfl) (by rfl) T.n_len PySem.boot_len (pa_cons (pv 1) pa_nil)) pe_int (nomark _)) (pss_one (ps_set (i := 2) sc__law_moves.nd rfl (by first | exact Or.inl rfl | exact Or.inr rfl) (pe_methP (pv 0) F.ct.k F.m_all F.r_all (hr.mono (by decide)) (fun σ => L2.passAt tk σ) (pa_cons (pe_ix (Kx.ix_seq (K := K) rfl) (pv 1) pe_int (fun _ _ => rfl)) pa_nil)))) (pss_one (ps_if (pt_cmpR (Kx.op_eqD (K := K) rfl hu1) (pe_callB (Kx.call_len (K := K) rfl) (by rfl) T.n_len PySem.boot_len (pa_cons (pv 1) pa_nil)) pe_int (nomark _)) (pss_one (ps_set (i := 2) sc__law_moves.nd rfl (by first | exact Or.inl rfl | exact Or.inr rfl) (pe_methP (pv 0) F.ct.k F.m_all F.r_all (hr.mono (by decide)) (fun σ => L2.passAt tk σ) (pa_cons (pe_ix (Kx.ix_seq (K := K) rfl) (pv 1) pe_int (fun _ _ => rfl)) (pa_cons (pe_ix (Kx.ix_seq (K := K) rfl) (pv 1) pe_int (fun _ _ => rfl)) pa_nil))))) (pss_one (ps_if (pt_cmpR (Kx.op_eqD (K := K) rfl hu1) (pe_callB (Kx.call_len (K := K) rfl) (by rfl) T.n_len PySem.boot_len (pa_cons (pv 1) pa_nil)) pe_int (nomark _)) (pss_one (ps_set (i := 2) sc__law_moves.nd rfl (by first | exact Or.inl rfl | exact Or.inr rfl) (pe_methP (pv 0) F.ct.k F.m_all F.r_all (hr.mono (by decide)) (fun σ => L2.passAt tk σ) (pa_cons (pe_ix (Kx.ix_seq (K := K) rfl) (pv 1) pe_int (fun _ _ => rfl)) (pa_cons (pe_ix (Kx.ix_seq (K := K) rfl) (pv 1) pe_int (fun _ _ => rfl)) (pa_cons (pe_ix (Kx.ix_seq (K := K) rfl) (pv 1) pe_int (fun _ _ => rfl)) pa_nil)))))) (pss_one (ps_if (pt_cmpR (Kx.op_eqD (K := K) rfl hu1) (pe_callB (Kx.call_len (K := K) rfl) (by rfl) T.n_len PySem.boot_len (pa_cons (pv 1) pa_nil)) pe_int (nomark _)) (pss_one (ps_set (i := 2) sc__law_moves.nd rfl (by first | exact Or.inl rfl | exact Or.inr rfl) (pe_methP (pv 0) F.ct.k F.m_all F.r_all (hr.mono (by decide)) (fun σ => L2.passAt tk σ) (pa_cons (pe_ix (Kx.ix_seq (K := K) rfl) (pv 1) pe_int (fun _ _ => rfl)) (pa_cons (pe_ix (Kx.ix_seq (K := K) rfl) (pv 1) pe_int (fun _ _ => rfl)) (pa_cons (pe_ix (Kx.ix_seq (K := K) rfl) (pv 1) pe_int (fun _ _ => rfl)) (pa_cons (pe_ix (Kx.ix_seq (K := K) rfl) (pv 1) pe_int (fun _ _ => rfl)) pa_nil))))))) (pss_one (ps_set (i := 2) sc__law_moves.nd rfl (by first | exact Or.inl rfl | exact Or.inr rfl) (pe_methP (pv 0) F.ct.k F.m_all F.r_all (hr.mono (by decide)) (fun σ => L2.passAt tk σ) (pa_cons (pe_ix (Kx.ix_seq (K := K) rfl) (pv 1) pe_int (fun _ _ => rfl)) (pa_cons (pe_ix (Kx.ix_seq (K := K) rfl) (pv 1) pe_int (fun _ _ => rfl)) (pa_cons (pe_ix (Kx.ix_seq (K := K) rfl) (pv 1) pe_int (fun _ _ => rfl)) (pa_cons (pe_ix (Kx.ix_seq (K := K) rfl) (pv 1) pe_int (fun _ _ => rfl)) (pa_cons (pe_ix (Kx.ix_seq (K := K) rfl) (pv 1) pe_int (fun _ _ => rfl)) pa_nil)))))))))))))))))))
      (.as_ (i := 3) ⟨by rfl, by decide, .inl T.g_Undone⟩ rfl rfl (fun a oe cls d pn xe W hz hd tk =>
            pss_one (ps_ret (pe_lst (pa_cons (pe_xfN T.f_Undone T.u_place hz hd (pv 3)) (pa_cons (pe_xfN T.f_Undone T.u_why hz hd (pv 3))
              (pa_cons (pe_and (pe_callB (call_isX (K := K) rfl hz hd) (by rfl) T.n_isinstance (by decide +kernel) (pa_cons (pv 3) (pa_cons (pe_glob (v := .ref L.c_RowsError) (by rfl) T.g_RowsError rfl) pa_nil)))
                (pe_one (pe_callB (call_isX (K := K) rfl hz hd) (by rfl) T.n_isinstance (by decide +kernel) (pa_cons (pv 3) (pa_cons (pe_bltn (v := .ty "ValueError") (by rfl) T.n_ValueError (by decide +kernel) rfl) pa_nil))))) pa_nil)))))) .nil))
      (pss_one (ps_ret (pv 2))), ?_⟩
    try dsimp only [cxOf]
    rw [show L2.start ["_law_tree", "_law_some", "_law_told", "e"] [V.ref t, V.ref m] = [some (V.ref t), some (V.ref m), none, none] from rfl]
    obtain ⟨hrest, a0, ht, hR⟩ := id hSt.1
    have hxl := moves_len hms
    have go : ∀ {Qm : VK} {Em : XK}, (∀ rows' H', out = .ok rows' → FrO t og H H' → StAt K S C dx l og H' t rows' (logAll log ms og) → Qm .non H') →
        (∀ j why H' d og', out = .bad j why → og'.isSome = b → FrP t og og' H H' → StAt K (newO og og' S) C dx l og' H' t rows log → H' d = some (.xd [("why", .str why), ("place", .int (j : Nat))]) → Em (.ref A.c_Undone) (some d) H') → starSp (spAllX K A C b) (V.ref t :: xs) H Qm Em := by
      intro Qm Em h1 h2
      refine ⟨[.ref t], xs, rfl, rfl, by rw [hxl]; exact Nat.le_trans hml (by decide), fun p np => ?_⟩
      have s2 : Same H (upd H p (.tup xs)) := same_upd np
      have hpp : upd H p (.tup xs) p = some (.tup xs) := upd_same
      generalize upd H p (.tup xs) = H2 at s2 hpp
      have npS : p ∉ og.toList := fun z => hSt.okS.new np (hSt.sub _ z)
      exact ⟨t, p, xs, ms, S, dx, l, og, rows, log, out, rfl, hbo, SqT.of ((hid_out npS).trans hpp), moves_mono (Same.hid s2) hms, by omega, hSt.mono s2, htr, by omega, by omega, hrun, fun rows' H' eo f hS' => h1 rows' H' eo ((FrO.same s2).trans f) hS', fun j why H' d og' eo hb' f hS' hd => h2 j why H' d og' eo hb' (fun c o n e => f c o n (Same.hid s2 c o e)) hS' hd⟩
    have undone : ∀ {dn : L2.St → Hp → Prop} {dr : VK} {db dc : L2.St → Hp → Prop} {H5 : Hp} {a dd : Addr} {σ2 : Option V} {j : Nat} {why : Str} {og' : Option Addr}, out = .bad j why → og'.isSome = b → FrP t og og' H H5 → StAt K (newO og og' S) C dx l og' H5 t rows log → H5 dd = some (.xd [("why", .str why), ("place", .int (j : Nat))]) → (∀ v H', Q v H' → dr v H') →
        tRet (tLst (tCons (tXf a (.ref A.c_Undone) (some dd) A.c_Undone "place" (tVar 3)) (tCons (tXf a (.ref A.c_Undone) (some dd) A.c_Undone "why" (tVar 3)) (tCons (tAndV (tCB (rIsX K (.ref A.c_Undone) (some dd) a) (tCons (tVar 3) (tCons (tC (V.ref L.c_RowsError)) tNil))) (tCB (rIsX K (.ref A.c_Undone) (some dd) a) (tCons (tVar 3) (tCons (tC (V.ty "ValueError")) tNil)))) tNil)))) { nx := dn, rt := dr, bk := db, ct := dc } [some (V.ref t), some (V.ref m), σ2, some (V.ref a)] H5 := by
      intro dn dr db dc H5 a dd σ2 j why og' eo hb' f5 hS5 hdd hrt
      walk_at "rd"
      refine ⟨rfl, rfl, dd, _, _, rfl, hdd, lk_second n_wp, ?_⟩
      walk_at "rd"
      refine ⟨rfl, rfl, dd, _, _, rfl, hdd, lk_head, ?_⟩
      walk_at "rd"
      refine Rd.isX T.e_Undone (fun _ r => r) hdd T.z_UR ?_
      walk_at "rd"
      refine Rd.isX T.e_Undone (fun _ r => r) hdd T.z_UV ?_
      walk_at "rd"
      rename_i r H6 nr sr hrr
      exact hrt _ _ (q2 j why H6 og' r eo hb' (fun c o n e => Same.hid sr _ _ (f5 c o n e)) (hS5.mono sr) hrr)
    have no : ∀ {n c : Int} {R : VK} {H1 : Hp}, n ≠ c → R (.bl false) H1 → rEqD K (.int n) (.int c) H1 R := fun e h => Rd.eqD (.int _) (.int _) (shaped_int _) (shaped_int _) (by rw [eqv_int, decide_eq_false e]; exact h)
    have yes : ∀ {n c : Int} {R : VK} {H1 : Hp}, n = c → R (.bl true) H1 → rEqD K (.int n) (.int c) H1 R := fun e h => Rd.eqD (.int _) (.int _) (shaped_int _) (shaped_int _) (by rw [eqv_int, decide_eq_true e]; exact h)
    walk_at "rd"
    rcases xs with _ | ⟨x0, _ | ⟨x1, _ | ⟨x2, _ | ⟨x3, _ | ⟨x4, _ | ⟨x5, r⟩⟩⟩⟩⟩⟩
    · refine yes (by simp) ⟨_, rfl, ?_⟩
      rw [if_pos rfl]
      walk_at "rd"
      refine Rd.methAt ht (hSt.1.noM n_a1 n_a2 n_a3) ?_
      walk_at "rd"
      refine go (fun rows' H' eo f hS' => ?_) (fun j why H' d og' eo hb' f hS' hd => ⟨true, T.x_UU, fun _ a na => undone eo hb' f hS' hd (fun v H' h => h), fun z => by cases z⟩)
      walk_at "rd"
      walk_at "nx"
      walk_at "rd"
      exact q1 rows' H' eo f hS'
    · refine no (by simp) ⟨_, rfl, ?_⟩
      rw [if_neg (by simp)]
      walk_at "rd"
      refine yes (by simp) ⟨_, rfl, ?_⟩
      rw [if_pos rfl]
      walk_at "rd"
      refine Rd.methAt ht (hSt.1.noM n_a1 n_a2 n_a3) ?_
      walk_at "rd"
      refine go (fun rows' H' eo f hS' => ?_) (fun j why H' d og' eo hb' f hS' hd => ⟨true, T.x_UU, fun _ a na => undone eo hb' f hS' hd (fun v H' h => h), fun z => by cases z⟩)
      walk_at "rd"
      walk_at "nx"
      walk_at "rd"
      exact q1 rows' H' eo f hS'
    · refine no (by simp) ⟨_, rfl, ?_⟩
      rw [if_neg (by simp)]
      walk_at "rd"
      refine no (by simp) ⟨_, rfl, ?_⟩
      rw [if_neg (by simp)]
      walk_at "rd"
      refine yes (by simp) ⟨_, rfl, ?_⟩
      rw [if_pos rfl]
      walk_at "rd"
      refine Rd.methAt ht (hSt.1.noM n_a1 n_a2 n_a3) ?_
      walk_at "rd"
      refine go (fun rows' H' eo f hS' => ?_) (fun j why H' d og' eo hb' f hS' hd => ⟨true, T.x_UU, fun _ a na => undone eo hb' f hS' hd (fun v H' h => h), fun z => by cases z⟩)
      walk_at "rd"
      walk_at "nx"
      walk_at "rd"
      exact q1 rows' H' eo f hS'
    · refine no (by simp) ⟨_, rfl, ?_⟩
      rw [if_neg (by simp)]
      walk_at "rd"
      refine no (by simp) ⟨_, rfl, ?_⟩
      rw [if_neg (by simp)]
      walk_at "rd"
      refine no (by simp) ⟨_, rfl, ?_⟩
      rw [if_neg (by simp)]
      walk_at "rd"
      refine yes (by simp) ⟨_, rfl, ?_⟩
      rw [if_pos rfl]
      walk_at "rd"
      refine Rd.methAt ht (hSt.1.noM n_a1 n_a2 n_a3) ?_
      walk_at "rd"
      refine go (fun rows' H' eo f hS' => ?_) (fun j why H' d og' eo hb' f hS' hd => ⟨true, T.x_UU, fun _ a na => undone eo hb' f hS' hd (fun v H' h => h), fun z => by cases z⟩)
      walk_at "rd"
      walk_at "nx"
      walk_at "rd"
      exact q1 rows' H' eo f hS'
    · refine no (by simp) ⟨_, rfl, ?_⟩
      rw [if_neg (by simp)]
      walk_at "rd"
      refine no (by simp) ⟨_, rfl, ?_⟩
      rw [if_neg (by simp)]
      walk_at "rd"
      refine no (by simp) ⟨_, rfl, ?_⟩
      rw [if_neg (by simp)]
      walk_at "rd"
      refine no (by simp) ⟨_, rfl, ?_⟩
      rw [if_neg (by simp)]
      walk_at "rd"
      refine yes (by simp) ⟨_, rfl, ?_⟩
      rw [if_pos rfl]
      walk_at "rd"
      refine Rd.methAt ht (hSt.1.noM n_a1 n_a2 n_a3) ?_
      walk_at "rd"
      refine go (fun rows' H' eo f hS' => ?_) (fun j why H' d og' eo hb' f hS' hd => ⟨true, T.x_UU, fun _ a na => undone eo hb' f hS' hd (fun v H' h => h), fun z => by cases z⟩)
      walk_at "rd"
      walk_at "nx"
      walk_at "rd"
      exact q1 rows' H' eo f hS'
    · refine no (by simp) ⟨_, rfl, ?_⟩
      rw [if_neg (by simp)]
      walk_at "rd"
      refine no (by simp) ⟨_, rfl, ?_⟩
      rw [if_neg (by simp)]
      walk_at "rd"
      refine no (by simp) ⟨_, rfl, ?_⟩
      rw [if_neg (by simp)]
      walk_at "rd"
      refine no (by simp) ⟨_, rfl, ?_⟩
      rw [if_neg (by simp)]
      walk_at "rd"
      refine no (by simp) ⟨_, rfl, ?_⟩
      rw [if_neg (by simp)]
      walk_at "rd"
      refine Rd.methAt ht (hSt.1.noM n_a1 n_a2 n_a3) ?_
      walk_at "rd"
      refine go (fun rows' H' eo f hS' => ?_) (fun j why H' d og' eo hb' f hS' hd => ⟨true, T.x_UU, fun _ a na => undone eo hb' f hS' hd (fun v H' h => h), fun z => by cases z⟩)
      walk_at "rd"
      walk_at "nx"
      walk_at "rd"
      exact q1 rows' H' eo f hS'
    · exfalso
      simp only [List.length_cons] at hxl
      omega
end
end PR
end

section
set_option maxHeartbeats 4000000
namespace PR
open PySem L2 PySem.Spec PyProof.Rows PySem.EX
/-! the moves one by one, and the law's loop over them: no program here -/
theorem RunR.snoc' {rows : List Row} {ms : List (PyData × PyData)} {j : Nat} {o : Out} (h : RunR rows ms j o) : ∀ {R R' : List Row} {d e : PyData}, o = .ok R → MoveOk R d e R' → RunR rows (ms ++ [(d, e)]) j (.ok R') := by
  induction h with
  | nil =>
    intro R R' d e eo m
    cases eo
    exact .ok m .nil
  | ok m0 _ ih =>
    intro R R' d e eo m
    exact .ok m0 (ih eo m)
  | key _ => intro R R' d e eo; cases eo
  | ring _ => intro R R' d e eo; cases eo
theorem RunR.snoc {rows R R' : List Row} {ms : List (PyData × PyData)} {j : Nat} {d e : PyData} (h : RunR rows ms j (.ok R)) (m : MoveOk R d e R') : RunR rows (ms ++ [(d, e)]) j (.ok R') := h.snoc' rfl m
theorem RunR.bad' {rows : List Row} {ms : List (PyData × PyData)} {j : Nat} {o : Out} (h : RunR rows ms j o) : ∀ {R : List Row} {why : Str} {r : List (PyData × PyData)}, o = .ok R → (∀ i, RunR R r i (.bad i why)) → RunR rows (ms ++ r) j (.bad (j + ms.length) why) := by
  induction h with
  | nil =>
    intro R why r eo m
    cases eo
    exact m _
  | @ok _ _ _ _ ms j' _ m0 _ ih =>
    intro R why r eo m
    have := ih eo m
    rw [List.length_cons, show j' + (ms.length + 1) = j' + 1 + ms.length by omega]
    exact .ok m0 this
  | key _ => intro R why r eo; cases eo
  | ring _ => intro R why r eo; cases eo
/-- where the loop stands: what is wrong so far, how many are good, the rows behind these -/
inductive Mid (rows : List Row) (ms : List (PyData × PyData)) (i : Nat) : Option (Nat × Str) → Nat → List Row → Prop
  | run {R : List Row} : RunR rows (ms.take i) 0 (.ok R) → Mid rows ms i none i R
  | bad {R : List Row} {j : Nat} {why : Str} : RunR rows (ms.take j) 0 (.ok R) → RunR rows ms 0 (.bad j why) → j ≤ ms.length → Mid rows ms i (some (j, why)) j R
theorem take_snoc {ms : List (PyData × PyData)} {i : Nat} {m : PyData × PyData} (e : ms[i]? = some m) : ms.take (i + 1) = ms.take i ++ [m] := by rw [List.take_add_one, e]; rfl
theorem split_at {ms : List (PyData × PyData)} {i : Nat} {m : PyData × PyData} (e : ms[i]? = some m) : ms = ms.take i ++ m :: ms.drop (i + 1) := by
  obtain ⟨hi, ei⟩ := List.getElem?_eq_some_iff.mp e
  rw [← ei, ← List.drop_eq_getElem_cons hi, List.take_append_drop]
theorem Mid.step1 {rows R R' : List Row} {ms : List (PyData × PyData)} {i n : Nat} {d e : PyData} (h : Mid rows ms i none n R) (em : ms[i]? = some (d, e)) (s : StepR R d e none R') : n = i ∧ Mid rows ms (i + 1) none (i + 1) R' := by
  cases h with
  | run h =>
    cases s with
    | ok m => exact ⟨rfl, .run (by rw [take_snoc em]; exact h.snoc m)⟩
theorem Mid.step2 {rows R R' : List Row} {ms : List (PyData × PyData)} {i n : Nat} {d e : PyData} {why : Str} (h : Mid rows ms i none n R) (em : ms[i]? = some (d, e)) (s : StepR R d e (some why) R') : R' = R ∧ n = i ∧ Mid rows ms (i + 1) (some (i, why)) i R := by
  cases h with
  | run h =>
    have hi := (List.getElem?_eq_some_iff.mp em).1
    have hl : (ms.take i).length = i := by rw [List.length_take]; omega
    have fin : (∀ k, RunR R ((d, e) :: ms.drop (i + 1)) k (.bad k why)) → RunR rows ms 0 (.bad i why) := fun z => by
      have := h.bad' rfl z
      rw [hl, Nat.zero_add, ← split_at em] at this
      exact this
    cases s with
    | key m => exact ⟨rfl, rfl, .bad h (fin fun k => .key m) (by omega)⟩
    | ring m => exact ⟨rfl, rfl, .bad h (fin fun k => .ring m) (by omega)⟩
theorem Mid.step3 {rows R : List Row} {ms : List (PyData × PyData)} {i n : Nat} {x : Nat × Str} (h : Mid rows ms i (some x) n R) : Mid rows ms (i + 1) (some x) n R := by
  cases h with
  | bad h1 h2 h3 => exact .bad h1 h2 h3
theorem RunR.tr' {rows : List Row} {ms : List (PyData × PyData)} {j : Nat} {o : Out} (h : RunR rows ms j o) : ∀ {R : List Row}, o = .ok R → Tr rows → Tr R ∧ R.length = rows.length := by
  induction h with
  | nil => intro R eo t; cases eo; exact ⟨t, rfl⟩
  | ok m _ ih =>
    intro R eo t
    obtain ⟨t1, l1⟩ := m.tr t
    obtain ⟨t2, l2⟩ := ih eo t1
    exact ⟨t2, l2.trans l1⟩
  | key _ => intro R eo; cases eo
  | ring _ => intro R eo; cases eo
theorem Mid.tr {rows R : List Row} {ms : List (PyData × PyData)} {i n : Nat} {x : Option (Nat × Str)} (h : Mid rows ms i x n R) (t : Tr rows) : Tr R ∧ R.length = rows.length := by
  cases h with
  | run h => exact h.tr' rfl t
  | bad h _ _ => exact h.tr' rfl t
/-! ### what hides, what stays -/
section
variable {K : PySem.W.Frag} {C dx : Addr} {rest : List (Str × V)} {H H' : Hp} {p t o : Addr} {S S' : List Addr} {rows : List Row} {og og' : Option Addr} {u : HO}
theorem newO_mem {a : Addr} (h : a ∈ newO og og' S) : a ∈ og'.toList ∨ a ∈ S := by
  cases og with
  | none => exact .inr h
  | some g => cases og' with
    | none => exact .inr h
    | some g' =>
      rcases List.mem_cons.mp h with z | z
      · exact .inl (by rw [z]; simp)
      · exact .inr z
theorem newO_of {a : Addr} (h : a ∈ S) : a ∈ newO og og' S := by
  cases og with
  | none => exact h
  | some g => cases og' with
    | none => exact h
    | some g' => exact List.mem_cons_of_mem _ h
/-- what stood stands, and the new log is new -/
theorem FrP.get {b : Addr} {x : HO} (f : FrP t og og' H H') (n : b ≠ t) (no : b ∉ og.toList) (e : H b = some x) : H' b = some x ∧ b ∉ og'.toList := hid_some (f b x n ((hid_out no).trans e))
theorem FrP.hidS (f : FrP t og og' H H') (hs : ∀ a, a ∈ og.toList → a ∈ S) : Fr1 t (hid S H) (hid (newO og og' S) H') := fun b x nb eb => by
  obtain ⟨e1, e2⟩ := hid_some eb
  obtain ⟨e3, e4⟩ := f.get nb (fun z => e2 (hs b z)) e1
  exact (hid_out (fun z => (newO_mem z).elim e4 e2)).trans e3
/-- another tree, behind a change of this one -/
theorem TreeS.frP (h : TreeS K S C dx rest H o rows) (f : FrP t og og' H H') (ht : H t = some u) (nu : NoSeq u) (n : o ≠ t) (ntS : t ∉ S) (noS : o ∉ S) (hs : ∀ a, a ∈ og.toList → a ∈ S) : TreeS K (newO og og' S) C dx rest H' o rows := by
  obtain ⟨r, a, e, hR⟩ := h
  exact ⟨r, a, (f.get n (fun z => noS (hs o z)) e).1, rows_fr1 (f.hidS hs) ((hid_out ntS).trans ht) nu hR⟩
theorem TreeS.frO (h : TreeS K S C dx rest H o rows) (f : FrO t og H H') (ht : H t = some u) (nu : NoSeq u) (n : o ≠ t) (ntS : t ∉ S) (noS : o ∉ S) (hs : ∀ a, a ∈ og.toList → a ∈ S) : TreeS K S C dx rest H' o rows := by
  obtain ⟨r, a, e, hR⟩ := h
  exact ⟨r, a, (FrP.get f n (fun z => noS (hs o z)) e).1, rows_fr1 (f.hidS hs) ((hid_out ntS).trans ht) nu hR⟩
end
end PR
end

section
set_option maxHeartbeats 4000000
namespace PR
open PySem L2 PySem.Spec PyProof.Rows PySem.EX
section
variable {K : PySem.W.Frag} {CT C dx dx' : Addr} {l l' : V} {b : Bool} {H H' : Hp} {p t o : Addr} {rows rows' rowsN : List Row} {log logN : List PyData} {og og' : Option Addr} {u : HO}
theorem StAt.fr1 {S : List Addr} (h : StAt K S C dx l og H t rows log) (f : Fr1 o H H') (ho : H o = some u) (nu : NoSeq u) (ho' : ∃ x, H' o = some x) (n : t ≠ o) (no : o ∉ S) : StAt K S C dx l og H' t rows log := by
  have sub := h.sub
  obtain ⟨⟨hr, a, ht, hR⟩, okS, ntS, h2, h3⟩ := h
  refine ⟨⟨hr, a, f t _ n ht, rows_fr1 (Fr1.hid f) ((hid_out no).trans ho) nu hR⟩, okS.fr1 f ho', ntS, fun g eg => ?_, h3⟩
  obtain ⟨ng, xs, hg, hx⟩ := h2 g eg
  exact ⟨ng, xs, f g _ (fun z => no (by rw [← z]; exact ng)) hg, dpAll_fr1 (Fr1.hid f) ((hid_out no).trans ho) nu hx⟩
/-- the law's two trees and the bag -/
structure TwoT (K : PySem.W.Frag) (CT C : Addr) (b : Bool) (S : List Addr) (p t o : Addr) (og : Option Addr) (dx : Addr) (l : V) (dx' : Addr) (l' : V) (H : Hp) (rows rows' : List Row) (log : List PyData) : Prop where
  hb : og.isSome = b
  st : StAt K S C dx l og H t rows log
  ent : ∀ d ∈ log, ShN 1 d
  pS : p ∈ S
  np : p ∉ og.toList
  no : o ∉ S
  ne : o ≠ t
  bg : BagAt H p
  ot : TreeS K S CT dx' [("left", l')] H o rows'
section
variable {S : List Addr}
theorem TwoT.op (h : TwoT K CT C b S p t o og dx l dx' l' H rows rows' log) : o ≠ p := fun z => h.no (by rw [z]; exact h.pS)
theorem TwoT.tp (h : TwoT K CT C b S p t o og dx l dx' l' H rows rows' log) : t ≠ p := fun z => h.st.ntS (by rw [z]; exact h.pS)
theorem TwoT.same (h : TwoT K CT C b S p t o og dx l dx' l' H rows rows' log) (s : Same H H') : TwoT K CT C b S p t o og dx l dx' l' H' rows rows' log :=
  ⟨h.hb, h.st.mono s, h.ent, h.pS, h.np, h.no, h.ne, bag_same h.bg s, h.ot.mono s⟩
/-- hidden places were changed, not the log -/
theorem TwoT.frS {X : List Addr} (h : TwoT K CT C b S p t o og dx l dx' l' H rows rows' log) (f : Fr X H H') (hX : ∀ x, x ∈ X → x ∈ S ∧ x ∉ og.toList) (hs : ∀ x, x ∈ X → ∃ o, H' x = some o) (bg : BagAt H' p) : TwoT K CT C b S p t o og dx l dx' l' H' rows rows' log :=
  ⟨h.hb, h.st.frS f hX hs, h.ent, h.pS, h.np, h.no, h.ne, bg, h.ot.frS h.no f fun x z => (hX x z).1⟩
theorem TwoT.take (h : TwoT K CT C b S p t o og dx l dx' l' H rows rows' log) (f : OnlyAt p H H') (bg : BagAt H' p) : TwoT K CT C b S p t o og dx l dx' l' H' rows rows' log :=
  h.frS (X := [p]) (f.fr (by simp)) (fun x z => by rw [show x = p by simpa using z]; exact ⟨h.pS, h.np⟩) (fun x z => by
    rw [show x = p by simpa using z]
    obtain ⟨_, _, _, _, _, hp⟩ := bg
    exact ⟨_, hp⟩) bg
/-- one more hidden place, a new one -/
theorem TwoT.new {n : Addr} {x : HO} (h : TwoT K CT C b S p t o og dx l dx' l' H rows rows' log) (nn : H n = none) (s : Same H H') (hn : H' n = some x) : TwoT K CT C b (n :: S) p t o og dx l dx' l' H' rows rows' log :=
  ⟨h.hb, h.st.cons nn s hn, h.ent, List.mem_cons_of_mem _ h.pS, h.np, (by
    obtain ⟨_, a, e, _⟩ := h.ot
    simpa using ⟨show o ≠ n from fun z => (by rw [z, nn] at e; cases e), h.no⟩), h.ne, bag_same h.bg s, h.ot.cons nn s⟩
theorem TwoT.okS (h : TwoT K CT C b S p t o og dx l dx' l' H rows rows' log) : OkS S H ∧ o ∉ S := ⟨h.st.okS, h.no⟩
theorem FrP.bag (f : FrP t og og' H H') (n : p ≠ t) (no : p ∉ og.toList) (bg : BagAt H p) : BagAt H' p ∧ p ∉ og'.toList := by
  obtain ⟨c, m, h1, h2, h3, hp⟩ := bg
  obtain ⟨e1, e2⟩ := f.get n no hp
  exact ⟨⟨c, m, h1, h2, h3, e1⟩, e2⟩
/-- this tree was changed -/
theorem TwoT.tree (h : TwoT K CT C b S p t o og dx l dx' l' H rows rows' log) (f : FrP t og og' H H') (hb : og'.isSome = b) (st : StAt K (newO og og' S) C dx l og' H' t rowsN logN) (en : ∀ d ∈ logN, ShN 1 d) : TwoT K CT C b (newO og og' S) p t o og' dx l dx' l' H' rowsN rows' logN := by
  obtain ⟨_, a, ht, _⟩ := id h.st.1
  obtain ⟨_, a', ho, _⟩ := id h.ot
  obtain ⟨b1, b2⟩ := f.bag h.tp.symm h.np h.bg
  exact ⟨hb, st, en, newO_of h.pS, b2, fun z => (newO_mem z).elim (f.get h.ne (fun z => h.no (h.st.sub _ z)) ho).2 h.no, h.ne, b1, h.ot.frP f ht trivial h.ne h.st.ntS h.no h.st.sub⟩
theorem TwoT.treeO (h : TwoT K CT C b S p t o og dx l dx' l' H rows rows' log) (f : FrO t og H H') (st : StAt K S C dx l og H' t rowsN logN) (en : ∀ d ∈ logN, ShN 1 d) : TwoT K CT C b S p t o og dx l dx' l' H' rowsN rows' logN := by
  obtain ⟨_, a, ht, _⟩ := id h.st.1
  exact ⟨h.hb, st, en, h.pS, h.np, h.no, h.ne, (FrP.bag f h.tp.symm h.np h.bg).1, h.ot.frO f ht trivial h.ne h.st.ntS h.no h.st.sub⟩
/-- the other tree was changed -/
theorem TwoT.other (h : TwoT K CT C b S p t o og dx l dx' l' H rows rows' log) (f : Fr1 o H H') (ot : TreeS K S CT dx' [("left", l')] H' o rowsN) : TwoT K CT C b S p t o og dx l dx' l' H' rows rowsN log := by
  obtain ⟨_, a, ho, _⟩ := id h.ot
  obtain ⟨_, a', ho', _⟩ := id ot
  exact ⟨h.hb, h.st.fr1 f ho trivial ⟨_, ho'⟩ h.ne.symm h.no, h.ent, h.pS, h.np, h.no, h.ne, bag_fr1 h.bg f h.op.symm, ot⟩
end
end
end PR
end

section
set_option maxHeartbeats 4000000
namespace PR
open PySem L2 PySem.Spec PyProof.Rows PySem.EX
local macro_rules | `(tactic| walk_at "st") => `(tactic| first | with_reducible exact setAt_z | with_reducible exact setAt_s (by walk_at "st"))
local macro_rules | `(tactic| walk_at "rd1") => `(tactic| first
  | walk_at "sq"
  | with_reducible refine Rd.nxE ?_
  | with_reducible refine Rd.rtE ?_
  | with_reducible refine Rd.ctE ?_
  | with_reducible refine Rd.bkE ?_
  | with_reducible refine Rd.asg ?_
  | ((with_reducible refine' Rd.gnameW ?h0 ?hs ?_); (case h0 => walk_at "wi"); (case hs => walk_at "st"))
  | ((with_reducible refine' Rd.gname ?hs ?_); (case hs => walk_at "st"))
  | with_reducible refine Rd.ifS ?_
  | with_reducible refine Rd.ret ?_
  | with_reducible refine Rd.retN ?_
  | with_reducible refine Rd.drop ?_
  | with_reducible refine Rd.next ?_
  | ((with_reducible refine' Rd.var ?hv ?_); (case hv => exact rfl))
  | with_reducible refine Rd.c ?_
  | with_reducible refine Rd.op ?_
  | with_reducible refine Rd.un ?_
  | with_reducible refine Rd.neg ?_
  | with_reducible refine Rd.i0 ?_
  | with_reducible refine Rd.test ?_
  | with_reducible refine Rd.chain ?_
  | with_reducible refine Rd.tB ?_
  | with_reducible refine Rd.bl ?_
  | with_reducible refine Rd.not ?_
  | with_reducible refine Rd.and ?_
  | with_reducible refine Rd.or ?_
  | with_reducible refine Rd.andV ?_
  | with_reducible refine Rd.orV ?_
  | with_reducible refine Rd.notV ?_
  | with_reducible refine Rd.nilA ?_
  | with_reducible refine Rd.consA ?_
  | with_reducible refine Rd.cb ?_
  | with_reducible refine Rd.int1 ?_
  | with_reducible refine Rd.abs1 ?_
  | with_reducible refine Rd.gsub ?_
  | with_reducible refine Rd.tpar ?_
  | ((with_reducible refine' Rd.par ?hs ?ht ?_); (case hs => walk_at "st"); (case ht => walk_at "st"))
  | with_reducible refine Rd.ttup ?_
  | with_reducible refine Rd.tlst ?_
  | with_reducible refine Rd.isN ?_
  | with_reducible refine Rd.call ?_
  | with_reducible refine Rd.sl ?_
  | with_reducible refine Rd.noPart ?_
  | with_reducible refine Rd.part ?_
  | with_reducible refine Rd.ex_int ?_
  | with_reducible refine Rd.bm ?_
  | with_reducible refine Rd.tfld ?_
  | with_reducible refine Rd.tforT fun TB hTB => ?_
  | with_reducible refine Rd.tlc ?_
  | with_reducible refine Rd.mk1 ?_
  | with_reducible refine Rd.tdc ?_
  | with_reducible refine Rd.sfld ?_
  | with_reducible refine Rd.methP ?_
  | with_reducible refine Rd.xf ?_

  | with_reducible refine Rd.itemP ?_
  | with_reducible refine Rd.ost ?_
  | with_reducible refine Rd.enumT ?_
  | ((with_reducible refine' Rd.enumTAt ?h1 ?_); (case h1 => walk_at "lk"))
  | with_reducible refine Rd.meth ?_
  | with_reducible refine Rd.make ?_
  | with_reducible refine Rd.prop ?_
  | with_reducible refine Rd.item ?_
  | with_reducible refine Rd.sprop ?_
  | with_reducible refine Rd.star ?_
  | ((with_reducible refine' Rd.starL ?h1 ?_); (case h1 => walk_at "lk"))
  | with_reducible refine Rd.tdget ?_
  | ((with_reducible refine' Rd.fld ?h1 ?h2 ?h3 ?h4 ?_); (case h1 => walk_at "lk"); (case h2 => walk_at "cl"); (case h3 => walk_at "na"); (case h4 => walk_at "fl"))
  | ((with_reducible refine' Rd.ty ?h1 ?_); (case h1 => walk_at "lk"))
  | with_reducible refine Rd.tyes ?_
  | with_reducible refine Rd.noN ?_
  | with_reducible refine Rd.noNr ?_
  | with_reducible refine Rd.yesN ?_
  | with_reducible refine Rd.yesI ?_
  | with_reducible refine Rd.yesR ?_
  | with_reducible refine Rd.noNN ?_
  | with_reducible refine Rd.yes rfl ?_
  | with_reducible refine Rd.no Bool.false_ne_true ?_
  | ((with_reducible refine' Rd.wp ?h1 ?_); (case h1 => exact rfl))
  | ((with_reducible refine' Rd.isi ?h1 ?h2 ?_); (case h1 => walk_at "lk"); (case h2 => first | exact kit_int (dp_nodict (by with_reducible assumption)) | exact kit_bool (dp_nodict (by with_reducible assumption))))
  | with_reducible refine Rd.enum ?_
  | ((with_reducible refine' Rd.enumAt ?h1 ?_); (case h1 => walk_at "lk"))
  | with_reducible refine Rd.rng1 ?_
  | with_reducible refine Rd.rng2 ?_
  | with_reducible refine Rd.ilist ?_
  | with_reducible refine Rd.itup ?_
  | ((with_reducible refine' Rd.ilistAt ?h1 ?_); (case h1 => walk_at "lk"))
  | ((with_reducible refine' Rd.itupAt ?h1 ?_); (case h1 => walk_at "lk"))
  | ((with_reducible refine' Rd.slL ?h1 (fun q H1 nq sq hq => ?_)); (case h1 => walk_at "lk"))
  | with_reducible refine Rd.gcons ?_
  | with_reducible refine Rd.gnil ?_
  | ((with_reducible refine' Rd.gtup ?h1 ?h2 ?_); (case h1 => walk_at "lk"); (case h2 => exact rfl))
  | ((with_reducible refine' Rd.lenL ?h1 ?_); (case h1 => walk_at "lk"))
  | ((with_reducible refine' Rd.lenT ?h1 ?_); (case h1 => walk_at "lk"))
  | ((with_reducible refine' Rd.ixA ?h1 ?h2 ?_); (case h1 => walk_at "lk"); (case h2 => exact rfl))
  | ((with_reducible refine' Rd.ixB ?h1 ?h2 ?_); (case h1 => walk_at "lk"); (case h2 => exact rfl))
  | ((with_reducible refine' Rd.ixL ?h1 ?h2 ?_); (case h1 => walk_at "lk"); (case h2 => exact rfl))
  | ((with_reducible refine' Rd.newAt ?h1 (fun p H1 np sp hp => ?_)); (case h1 => exact sz_small (Nat.le_of_ble_eq_true rfl)))
  | ((with_reducible refine' Rd.ic ?h1 ?_); (case h1 => walk_at "sd"))
  | ((with_reducible refine' Rd.setL ?h1 ?h2 ?h3 ?_); (case h1 => walk_at "lk"); (case h2 => exact rfl); (case h3 => walk_at "st")))
local macro_rules | `(tactic| walk_at "rd") => `(tactic| repeat walk_at "rd1")
local macro_rules | `(tactic| walk_at "lk") => `(tactic| first
  | with_reducible assumption
  | exact upd_same
  | exact SqL.of upd_same
  | exact SqT.of upd_same
  | exact SqL.of (by with_reducible assumption)
  | exact SqT.of (by with_reducible assumption)
  | ((with_reducible refine' same_get ?lks ?lkh); (case lks => with_reducible assumption); (case lkh => walk_at "lk"))
  | ((with_reducible refine' Same.seq ?lks ?lkh); (case lks => with_reducible assumption); (case lkh => walk_at "lk"))
  | ((with_reducible refine' sqT_mono ?lks ?lkh); (case lks => with_reducible assumption); (case lkh => walk_at "lk"))
  | ((with_reducible refine' dp_mono ?lks ?lkh); (case lks => with_reducible assumption); (case lkh => walk_at "lk")))
local macro_rules | `(tactic| walk_at "sd") => `(tactic| first
  | with_reducible assumption
  | decide
  | omega
  | exact Or.inl ⟨by decide, by decide⟩
  | exact ⟨by decide, by decide, by decide⟩
  | exact Or.inr ⟨by decide, by decide⟩
  | exact Or.inl ⟨by omega, by omega⟩
  | exact wide_div (by decide) (by decide : _ < 2 ^ 200) (by decide) (by decide)
  | exact wide_div (by with_reducible assumption) (by assumption : _ < 2 ^ 200) (by decide) (by decide))

local macro_rules | `(tactic| walk_at "cl") => `(tactic| first | exact ct_k (by with_reducible assumption) | exact cl_Tree (by with_reducible assumption) | exact cl_Spot (by with_reducible assumption) | exact cl_Edit (by with_reducible assumption))
local macro_rules | `(tactic| walk_at "na") => `(tactic| first | exact ct_rows (by with_reducible assumption) | exact ct_left (by with_reducible assumption) | exact na_rows (by with_reducible assumption) | exact na_left (by with_reducible assumption) | exact na_tree (by with_reducible assumption) | exact na_key (by with_reducible assumption) | exact na_etree (by with_reducible assumption) | exact na_saved (by with_reducible assumption))
local macro_rules | `(tactic| walk_at "fl") => `(tactic| first | exact lk_head | exact lk_second (by decide +kernel))
local macro_rules | `(tactic| walk_at "wi") => `(tactic| first | (simp only [wipe, List.map_cons, List.map_nil, List.set_cons_succ, List.set_cons_zero]; done) | (simp only [wipe, List.map_cons, List.map_nil, List.set_cons_succ, List.set_cons_zero]; exact rfl))

set_option hygiene false in
local macro_rules | `(tactic| walk_at "sq") => `(tactic| with_reducible refine Rd.seqT fun S2 hS2 => ?_)
set_option hygiene false in
local macro_rules | `(tactic| walk_at "nx") => `(tactic| subst hS2)

section
variable {P : Program} {w : World} {K : PySem.W.Frag} {mg : Str → Option Value} {base : Heap} {A : Ad} {L : AdL} {C fp fa : Addr} {b : Bool}
open L2H HotX
abbrev LX (P : Program) (w : World) (K : PySem.W.Frag) (mg : Str → Option Value) (base : Heap) (f : Addr) (cdv : Value) (Ar : Around) (outer : List Env) (s0 : Shared) (Hz : Hp) (E : XK) : Cx :=
  cxOf (L2.CX P w) P w K mg base ["_law_script", "_law_at", "_law_bag_here", "_law_turn", "_law_base", "_law_step", "_law_is_logged", "_law_tree", "_law_other", "_law_k", "_law_far", "_law_parent", "_law_there", "_law_rows", "_law_some", "_law_key", "_law_due", "_law_good", "_law_place", "_law_move", "_law_why", "_law_logged"] "law" (defScope s_law) f cdv Ar outer s0 Hz E
theorem passXA {N : List Str} {qual : Str} {scope : Scope} {f : Addr} {cd : Value} {Ar : Around} {outer : List Env} {s : Shared} {H : Hp} {E : XK} (σ : L2.St) : PassesAt (L2.CX P w) (cxOf (L2.CX P w) P w K mg base N qual scope f cd Ar outer s H E) σ E := fun pins H s e s' I c => passX pins σ H s e s' I c
theorem entO {wd : Str} {log : List PyData} {k : Int} {o : Option Int} {og : Option Addr} (hw : PyData.strOk wd = true) (h : ∀ d ∈ log, ShN 1 d) : ∀ d ∈ logO wd log k o og, ShN 1 d := fun d hd => by
  cases og with
  | none => cases hd
  | some g =>
    rcases List.mem_append.mp hd with z | z
    · exact h d z
    · have : d = entryD wd k o := by simpa using z
      rw [this]
      refine shN_tuple (n := 0) fun e he => ?_
      rcases List.mem_cons.mp he with e1 | he
      · rw [e1]; exact ⟨by simpa [PyData.canLay0] using hw, by simp [PyData.depth]⟩
      rcases List.mem_cons.mp he with e1 | he
      · rw [e1]; exact ⟨by simp [PyData.canLay0], by simp [PyData.depth]⟩
      rcases List.mem_cons.mp he with e1 | he
      · rw [e1]
        cases o with
        | none => exact ⟨by simp [optD, PyData.canLay0], by simp [optD, PyData.depth]⟩
        | some q => exact ⟨by simp [optD, PyData.canLay0], by simp [optD, PyData.depth]⟩
      · cases he
theorem lenO {wd : Str} {log : List PyData} {k : Int} {o : Option Int} {og : Option Addr} : (logO wd log k o og).length ≤ log.length + 1 := by
  cases og with
  | none => exact Nat.zero_le _
  | some g => show (log ++ _).length ≤ _; rw [List.length_append]; exact Nat.le_refl _
/-- one turn of the loop that puts the rows -/
def spPutB (K : PySem.W.Frag) (CT C : Addr) (b : Bool) : TS := fun D σ H => ∃ (a0 a1 a3 a6 u10 u11 : Option V) (us : List (Option V)) (S : List Addr) (p t o : Addr) (og : Option Addr) (dx : Addr) (l : V) (dx' : Addr) (l' : V) (base step : Int) (j : Nat) (rows : List Row) (log : List PyData),
  σ = a0 :: a1 :: some (.ref p) :: a3 :: some (.int base) :: some (.int step) :: a6 :: some (.ref t) :: some (.ref o) :: some (.int (j : Nat)) :: u10 :: u11 :: us ∧ us.length = 10 ∧ (-(10 ^ 21) ≤ base ∧ base ≤ 10 ^ 21) ∧ (1 ≤ step ∧ step ≤ 10 ^ 10) ∧ j < 50 ∧
  TwoT K CT C b S p t o og dx l dx' l' H rows rows log ∧ log.length ≤ j ∧ KeysUp base step j rows ∧
  ∀ H' u10' u11' rows' log', Fr (p :: t :: o :: og.toList) H H' → TwoT K CT C b S p t o og dx l dx' l' H' rows' rows' log' → log'.length ≤ j + 1 → KeysUp base step (j + 1) rows' →
    D.nx (a0 :: a1 :: some (.ref p) :: a3 :: some (.int base) :: some (.int step) :: a6 :: some (.ref t) :: some (.ref o) :: some (.int (j : Nat)) :: u10' :: u11' :: us) H'
theorem blk_put (T : TxtL P K mg A L) (F : ClsF P w K base mg A C b fp fa) {f : Addr} {cdv : Value} {Ar : Around} {outer : List Env} {s0 : Shared} {Hz : Hp} {E : XK} (hr : Room 14 (LX P w K mg base f cdv Ar outer s0 Hz E).A) :
    PSs (LX P w K mg base f cdv Ar outer s0 Hz E) (fB (nthS (fB (nthS (fB (nthS (defBody s_law) 0)) 1)) 2)) (spPutB K A.c_Tree C b) := by
  have G__law_take := ok_take (P := P) (w := w) (base := base) T.b T.F__law_take
  have b__law_take := T.F__law_take.binds (ps := ["_law_bag_here", "_law_many"]) fun _ _ _ _ _ _ us hl => match us, hl with | [_, _], _ => rfl
  have G_T_put := (ok_T_put (P := P) (w := w) (base := base) T.toTxt T.ct_Tree).weakN
  have b_T_put := bind_put T.toTxt
  have hu1 := hu65 hr
  refine PSs.weak (pss_cons (ps_set (i := 10) sc_law.nd rfl (by first | exact Or.inl rfl | exact Or.inr rfl) (pe_ix (Kx.ix_seq (K := K) rfl) (pe_lst (pa_cons (pe_op op_sub (pv 9) pe_int) (pa_cons (pe_op op_sub (pe_call G__law_take (hr.mono (by decide)) rfl T.g__law_take T.F__law_take.kp b__law_take .nil passX (pa_cons (pv 2) (pa_cons (pe_op op_add (pv 9) pe_int) pa_nil))) pe_int) pa_nil))) (pe_call G__law_take (hr.mono (by decide)) rfl T.g__law_take T.F__law_take.kp b__law_take .nil passX (pa_cons (pv 2) (pa_cons pe_int pa_nil))) (fun _ _ => rfl)))
    (pss_cons (ps_set (i := 11) sc_law.nd rfl (by first | exact Or.inl rfl | exact Or.inr rfl) (pe_ifExp (pt_cmpR op_ge (pv 10) pe_int (nomark _)) (pe_op op_add (pv 4) (pe_op op_mul (pv 5) (pv 10))) pe_non))
    (pss_cons (ps_expr (pe_methP (pv 7) F.ct.k F.m_put F.r_put (hr.mono (by decide)) (passXA (P := P) (w := w) (K := K) (mg := mg) (base := base)) (pa_cons (pe_op op_add (pv 4) (pe_op op_mul (pv 5) (pv 9))) (pa_cons (pv 11) pa_nil))))
    (pss_one (ps_expr (pe_meth (pv 8) T.ct_Tree.k T.mT_put G_T_put (hr.mono (by decide)) b_T_put .nil passX (pa_cons (pe_op op_add (pv 4) (pe_op op_mul (pv 5) (pv 9))) (pa_cons (pv 11) pa_nil)))))))) (fun D σ H9 hh => ?_)
  obtain ⟨dn, dr, db, dc⟩ := D
  obtain ⟨a0, a1, a3, a6, u10, u11, us, S, p, t, o, og, dx, l, dx', l', base, step, j, rows, log, rfl, hus, hb1, hs1, hj50, tw, hlg, ⟨htr, hlen, hkeys⟩, q⟩ := hh
  try dsimp only [cxOf]
  walk_at "rd"
  refine take_at tw.bg (by omega) (by omega) fun d4 H11 d40 d41 o11 bg11 => ?_
  have tw11 := tw.take o11 bg11
  walk_at "rd"
  rename_i L1 H12 n12 s12 h12
  have tw12 := tw11.same s12
  refine take_at tw12.bg (by decide) (by decide) fun d5 H13 d50 d51 o13 bg13 => ?_
  have tw13 := tw12.take o13 bg13
  have f13 : Fr (p :: t :: o :: og.toList) H9 H13 := ((o11.fr (by simp)).trans (fr_same s12)).trans (o13.fr (by simp))
  have nL : L1 ≠ p := fun z => by
    obtain ⟨_, _, _, _, _, hp⟩ := bg11
    rw [z, hp] at n12
    cases n12
  have hL13 := (o13 L1 nL).trans h12
  obtain ⟨far, efar, hf1, hf2⟩ : ∃ far : Int, atI [V.int ((j : Nat) - 1), .int (d4 - 1)] d5 = some (.int far) ∧ -1 ≤ far ∧ far < j := by
    rcases (by omega : d5 = 0 ∨ d5 = 1) with z | z
    · subst z; exact ⟨_, rfl, by omega, by omega⟩
    · subst z; exact ⟨_, rfl, by omega, by omega⟩
  refine Rd.ixA (SqL.of hL13) efar ?_
  walk_at "rd"
  walk_at "nx"
  walk_at "rd"
  refine Rd.cutE (P := fun v => ∃ o, v = optV o ∧ ∀ q, o = some q → ∃ m : Nat, m < j ∧ q = base + step * m) (fun Q' kq => ?_) ?_
  · refine Rd.ifE ?_
    walk_at "rd"
    refine ite2 (fun h1 => ?_) (fun h1 => ?_)
    · have hf0 : 0 ≤ far := of_decide_eq_true h1
      walk_at "rd"
      refine kq _ ⟨some _, rfl, fun q z => ?_⟩
      cases z
      exact ⟨far.toNat, by omega, by rw [Int.toNat_of_nonneg hf0]⟩
    · walk_at "rd"
      exact kq _ ⟨none, rfl, fun q z => by cases z⟩
  · rintro _ ⟨op, rfl, ho⟩
    walk_at "rd"
    walk_at "nx"
    obtain ⟨_, a13, ht13, hR13⟩ := id tw13.st.1
    walk_at "rd"
    refine Rd.methAt ht13 (tw13.st.1.noM n_p1 n_p2 n_p3) ?_
    walk_at "rd"
    have hjs : 0 ≤ step * (j : Nat) ∧ step * (j : Nat) ≤ 10 ^ 10 * 50 := by
      refine ⟨Int.mul_nonneg (by omega) (by omega), ?_⟩
      exact Int.mul_le_mul hs1.2 (by omega) (by omega) (by decide)
    have kd : keyD (.int (base + step * (j : Nat))) = true := by
      show (decide (-bigK < _) && decide (_ < bigK)) = true
      unfold bigK
      rw [decide_eq_true (by omega), decide_eq_true (by omega)]
      rfl
    have kn : base + step * (j : Nat) ∉ keysOf rows := fun z => by
      obtain ⟨m, hm, em⟩ := (hkeys _).mp z
      have : step * (j : Nat) = step * (m : Nat) := by omega
      have := Int.eq_of_mul_eq_mul_left (by omega) this
      omega
    have key_in : ∀ q, q ∈ keysOf rows → hasK rows (.int q) = true := fun q z => by
      obtain ⟨m, hm, em⟩ := (hkeys q).mp z
      have hms : 0 ≤ step * (m : Nat) ∧ step * (m : Nat) ≤ 10 ^ 10 * 50 := by
        refine ⟨Int.mul_nonneg (by omega) (by omega), ?_⟩
        exact Int.mul_le_mul hs1.2 (by omega) (by omega) (by decide)
      show ((decide (-bigK < q) && decide (q < bigK)) && decide (q ∈ keysOf rows)) = true
      unfold bigK
      rw [decide_eq_true (by omega), decide_eq_true (by omega), decide_eq_true z]
      rfl
    have nk : hasK rows (.int (base + step * (j : Nat))) = false := by
      show ((decide (-bigK < _) && decide (_ < bigK)) && decide (_ ∈ keysOf rows)) = false
      rw [decide_eq_false kn, Bool.and_false]
    have hop : ∀ q, op = some q → q ∈ keysOf rows := fun q z => (hkeys q).mpr (ho q z)
    refine ⟨t, base + step * (j : Nat), op, S, dx, l, og, rows, log, rfl, tw13.hb, tw13.st, by omega, by omega, kd, nk, fun q z => key_in q (hop q z), fun H14 f14 st14 => ?_⟩
    have tw14 := tw13.treeO f14 st14 (entO (by decide +kernel) tw13.ent)
    walk_at "rd"
    walk_at "nx"
    obtain ⟨_, o14, ho14, hO14⟩ := id tw14.ot
    walk_at "rd"
    refine Rd.methAt ho14 (tw14.ot.noM n_p1 n_p2 n_p3) ?_
    walk_at "rd"
    obtain ⟨okS, noS⟩ := tw14.okS
    refine ⟨o, .int (base + step * (j : Nat)), optV op, _, dx', _, rows, .int (base + step * (j : Nat)), optD op, rfl, tw14.ot, okS, noS, .int _, optV_dp op, by omega, fun k' o' H' e1 e2 _ _ _ f' hT' => ?_, fun z => ?_, fun z => ?_, fun _ _ ne z => ?_⟩
    · cases e1
      have eo := opt_inj e2
      subst eo
      have tw15 := tw14.other f' hT'
      have f14' : Fr (p :: t :: o :: og.toList) H13 H14 := fun c x n e => by
        have n1 : c ≠ p ∧ c ≠ t ∧ c ≠ o ∧ c ∉ og.toList := by simpa using n
        exact (hid_some (f14 c x n1.2.1 ((hid_out n1.2.2.2).trans e))).1
      walk_at "rd"
      refine q _ _ _ (putR rows _ op) _ ((f13.trans f14').trans (f'.fr (by simp))) tw15 (Nat.le_trans lenO (by omega)) ⟨putR_tr htr kn hop, ?_, fun k => ?_⟩
      · have := (putR_perm rows (base + step * (j : Nat)) op).length_eq
        rw [this, List.length_cons, hlen]
      · have pk : (keysOf (putR rows (base + step * (j : Nat)) op)).Perm ((base + step * (j : Nat)) :: keysOf rows) := (putR_perm rows _ op).map Prod.fst
        rw [pk.mem_iff, List.mem_cons, hkeys]
        refine ⟨fun z => ?_, fun ⟨m, hm, em⟩ => ?_⟩
        · rcases z with z | ⟨m, hm, em⟩
          · exact ⟨j, by omega, z⟩
          · exact ⟨m, by omega, em⟩
        · by_cases z : m = j
          · subst z; exact .inl em
          · exact .inr ⟨m, by omega, em⟩
    · rw [kd] at z; cases z
    · rw [nk] at z; cases z
    · cases op with
      | none => exact absurd rfl ne
      | some q0 =>
        rw [show optD (some q0) = PyData.int q0 from rfl, key_in q0 (hop q0 rfl)] at z
        cases z
end
end PR
end

section
set_option maxHeartbeats 4000000
namespace PR
open PySem L2 PySem.Spec PyProof.Rows PySem.EX
local macro_rules | `(tactic| walk_at "st") => `(tactic| first | with_reducible exact setAt_z | with_reducible exact setAt_s (by walk_at "st"))
local macro_rules | `(tactic| walk_at "rd1") => `(tactic| first
  | walk_at "sq"
  | with_reducible refine Rd.nxE ?_
  | with_reducible refine Rd.rtE ?_
  | with_reducible refine Rd.ctE ?_
  | with_reducible refine Rd.bkE ?_
  | with_reducible refine Rd.asg ?_
  | ((with_reducible refine' Rd.gnameW ?h0 ?hs ?_); (case h0 => walk_at "wi"); (case hs => walk_at "st"))
  | ((with_reducible refine' Rd.gname ?hs ?_); (case hs => walk_at "st"))
  | with_reducible refine Rd.ifS ?_
  | with_reducible refine Rd.ret ?_
  | with_reducible refine Rd.retN ?_
  | with_reducible refine Rd.drop ?_
  | with_reducible refine Rd.next ?_
  | ((with_reducible refine' Rd.var ?hv ?_); (case hv => exact rfl))
  | with_reducible refine Rd.c ?_
  | with_reducible refine Rd.op ?_
  | with_reducible refine Rd.un ?_
  | with_reducible refine Rd.neg ?_
  | with_reducible refine Rd.i0 ?_
  | with_reducible refine Rd.test ?_
  | with_reducible refine Rd.chain ?_
  | with_reducible refine Rd.tB ?_
  | with_reducible refine Rd.bl ?_
  | with_reducible refine Rd.not ?_
  | with_reducible refine Rd.and ?_
  | with_reducible refine Rd.or ?_
  | with_reducible refine Rd.andV ?_
  | with_reducible refine Rd.orV ?_
  | with_reducible refine Rd.notV ?_
  | with_reducible refine Rd.nilA ?_
  | with_reducible refine Rd.consA ?_
  | with_reducible refine Rd.cb ?_
  | with_reducible refine Rd.int1 ?_
  | with_reducible refine Rd.abs1 ?_
  | with_reducible refine Rd.gsub ?_
  | with_reducible refine Rd.tpar ?_
  | ((with_reducible refine' Rd.par ?hs ?ht ?_); (case hs => walk_at "st"); (case ht => walk_at "st"))
  | with_reducible refine Rd.ttup ?_
  | with_reducible refine Rd.tlst ?_
  | with_reducible refine Rd.isN ?_
  | with_reducible refine Rd.call ?_
  | with_reducible refine Rd.sl ?_
  | with_reducible refine Rd.noPart ?_
  | with_reducible refine Rd.part ?_
  | with_reducible refine Rd.ex_int ?_
  | with_reducible refine Rd.bm ?_
  | with_reducible refine Rd.tfld ?_
  | with_reducible refine Rd.tforT fun TB hTB => ?_
  | with_reducible refine Rd.tlc ?_
  | with_reducible refine Rd.mk1 ?_
  | with_reducible refine Rd.tdc ?_
  | with_reducible refine Rd.sfld ?_
  | with_reducible refine Rd.methP ?_
  | with_reducible refine Rd.xf ?_

  | with_reducible refine Rd.itemP ?_
  | with_reducible refine Rd.ost ?_
  | with_reducible refine Rd.enumT ?_
  | ((with_reducible refine' Rd.enumTAt ?h1 ?_); (case h1 => walk_at "lk"))
  | with_reducible refine Rd.meth ?_
  | with_reducible refine Rd.make ?_
  | with_reducible refine Rd.prop ?_
  | with_reducible refine Rd.item ?_
  | with_reducible refine Rd.sprop ?_
  | with_reducible refine Rd.star ?_
  | ((with_reducible refine' Rd.starL ?h1 ?_); (case h1 => walk_at "lk"))
  | with_reducible refine Rd.tdget ?_
  | ((with_reducible refine' Rd.fld ?h1 ?h2 ?h3 ?h4 ?_); (case h1 => walk_at "lk"); (case h2 => walk_at "cl"); (case h3 => walk_at "na"); (case h4 => walk_at "fl"))
  | ((with_reducible refine' Rd.ty ?h1 ?_); (case h1 => walk_at "lk"))
  | with_reducible refine Rd.tyes ?_
  | with_reducible refine Rd.noN ?_
  | with_reducible refine Rd.noNr ?_
  | with_reducible refine Rd.yesN ?_
  | with_reducible refine Rd.yesI ?_
  | with_reducible refine Rd.yesR ?_
  | with_reducible refine Rd.noNN ?_
  | with_reducible refine Rd.yes rfl ?_
  | with_reducible refine Rd.no Bool.false_ne_true ?_
  | ((with_reducible refine' Rd.wp ?h1 ?_); (case h1 => exact rfl))
  | ((with_reducible refine' Rd.isi ?h1 ?h2 ?_); (case h1 => walk_at "lk"); (case h2 => first | exact kit_int (dp_nodict (by with_reducible assumption)) | exact kit_bool (dp_nodict (by with_reducible assumption))))
  | with_reducible refine Rd.enum ?_
  | ((with_reducible refine' Rd.enumAt ?h1 ?_); (case h1 => walk_at "lk"))
  | with_reducible refine Rd.rng1 ?_
  | with_reducible refine Rd.rng2 ?_
  | with_reducible refine Rd.ilist ?_
  | with_reducible refine Rd.itup ?_
  | ((with_reducible refine' Rd.ilistAt ?h1 ?_); (case h1 => walk_at "lk"))
  | ((with_reducible refine' Rd.itupAt ?h1 ?_); (case h1 => walk_at "lk"))
  | ((with_reducible refine' Rd.slL ?h1 (fun q H1 nq sq hq => ?_)); (case h1 => walk_at "lk"))
  | with_reducible refine Rd.gcons ?_
  | with_reducible refine Rd.gnil ?_
  | ((with_reducible refine' Rd.gtup ?h1 ?h2 ?_); (case h1 => walk_at "lk"); (case h2 => exact rfl))
  | ((with_reducible refine' Rd.lenL ?h1 ?_); (case h1 => walk_at "lk"))
  | ((with_reducible refine' Rd.lenT ?h1 ?_); (case h1 => walk_at "lk"))
  | ((with_reducible refine' Rd.ixA ?h1 ?h2 ?_); (case h1 => walk_at "lk"); (case h2 => exact rfl))
  | ((with_reducible refine' Rd.ixB ?h1 ?h2 ?_); (case h1 => walk_at "lk"); (case h2 => exact rfl))
  | ((with_reducible refine' Rd.ixL ?h1 ?h2 ?_); (case h1 => walk_at "lk"); (case h2 => exact rfl))
  | ((with_reducible refine' Rd.newAt ?h1 (fun p H1 np sp hp => ?_)); (case h1 => exact sz_small (Nat.le_of_ble_eq_true rfl)))
  | ((with_reducible refine' Rd.ic ?h1 ?_); (case h1 => walk_at "sd"))
  | ((with_reducible refine' Rd.setL ?h1 ?h2 ?h3 ?_); (case h1 => walk_at "lk"); (case h2 => exact rfl); (case h3 => walk_at "st")))
local macro_rules | `(tactic| walk_at "rd") => `(tactic| repeat walk_at "rd1")
local macro_rules | `(tactic| walk_at "lk") => `(tactic| first
  | with_reducible assumption
  | exact upd_same
  | exact SqL.of upd_same
  | exact SqT.of upd_same
  | exact SqL.of (by with_reducible assumption)
  | exact SqT.of (by with_reducible assumption)
  | ((with_reducible refine' same_get ?lks ?lkh); (case lks => with_reducible assumption); (case lkh => walk_at "lk"))
  | ((with_reducible refine' Same.seq ?lks ?lkh); (case lks => with_reducible assumption); (case lkh => walk_at "lk"))
  | ((with_reducible refine' sqT_mono ?lks ?lkh); (case lks => with_reducible assumption); (case lkh => walk_at "lk"))
  | ((with_reducible refine' dp_mono ?lks ?lkh); (case lks => with_reducible assumption); (case lkh => walk_at "lk")))
local macro_rules | `(tactic| walk_at "sd") => `(tactic| first
  | with_reducible assumption
  | decide
  | omega
  | exact Or.inl ⟨by decide, by decide⟩
  | exact ⟨by decide, by decide, by decide⟩
  | exact Or.inr ⟨by decide, by decide⟩
  | exact Or.inl ⟨by omega, by omega⟩
  | exact wide_div (by decide) (by decide : _ < 2 ^ 200) (by decide) (by decide)
  | exact wide_div (by with_reducible assumption) (by assumption : _ < 2 ^ 200) (by decide) (by decide))

local macro_rules | `(tactic| walk_at "cl") => `(tactic| first | exact ct_k (by with_reducible assumption) | exact cl_Tree (by with_reducible assumption) | exact cl_Spot (by with_reducible assumption) | exact cl_Edit (by with_reducible assumption))
local macro_rules | `(tactic| walk_at "na") => `(tactic| first | exact ct_rows (by with_reducible assumption) | exact ct_left (by with_reducible assumption) | exact na_rows (by with_reducible assumption) | exact na_left (by with_reducible assumption) | exact na_tree (by with_reducible assumption) | exact na_key (by with_reducible assumption) | exact na_etree (by with_reducible assumption) | exact na_saved (by with_reducible assumption))
local macro_rules | `(tactic| walk_at "fl") => `(tactic| first | exact lk_head | exact lk_second (by decide +kernel))
local macro_rules | `(tactic| walk_at "wi") => `(tactic| first | (simp only [wipe, List.map_cons, List.map_nil, List.set_cons_succ, List.set_cons_zero]; done) | (simp only [wipe, List.map_cons, List.map_nil, List.set_cons_succ, List.set_cons_zero]; exact rfl))

set_option hygiene false in
local macro_rules | `(tactic| walk_at "sq") => `(tactic| with_reducible refine Rd.seqT fun S2 hS2 => ?_)
set_option hygiene false in
local macro_rules | `(tactic| walk_at "nx") => `(tactic| subst hS2)

section
variable {P : Program} {w : World} {K : PySem.W.Frag} {mg : Str → Option Value} {base : Heap} {A : Ad} {L : AdL} {C fp fa : Addr} {b : Bool}
open L2H HotX
/-- one turn of the loop that makes the moves -/
def spMk (K : PySem.W.Frag) : TS := fun D σ H => ∃ (a0 a1 a3 a4 a5 a6 a7 a8 a9 a10 a11 a13 a15 : Option V) (us : List (Option V)) (p th M : Addr) (ks : List Int) (S : List Addr) (xs : List V) (ms : List (PyData × PyData)),
  σ = a0 :: a1 :: some (.ref p) :: a3 :: a4 :: a5 :: a6 :: a7 :: a8 :: a9 :: a10 :: a11 :: some (.ref th) :: a13 :: some (.ref M) :: a15 :: us ∧ us.length = 6 ∧ BagAt H p ∧ H th = some (.lst (ks.map V.int)) ∧ 0 < ks.length ∧ ks.length ≤ 1000 ∧ H M = some (.lst xs) ∧ xs.length ≤ 1000 ∧ p ≠ th ∧ p ≠ M ∧ th ≠ M ∧
  p ∈ S ∧ M ∈ S ∧ (∀ a, a ∈ S → H a ≠ none) ∧ MovesAt K (hid S H) xs ms ∧
  ∀ H' a11' a15' x m, Fr [p, M] H H' → BagAt H' p → H' M = some (.lst (xs ++ [x])) → MovesAt K (hid S H') (xs ++ [x]) (ms ++ [m]) →
    D.nx (a0 :: a1 :: some (.ref p) :: a3 :: a4 :: a5 :: a6 :: a7 :: a8 :: a9 :: a10 :: a11' :: some (.ref th) :: a13 :: some (.ref M) :: a15' :: us) H'
theorem moves_snoc {H : Hp} {x : V} {m : PyData × PyData} : ∀ {xs : List V} {ms : List (PyData × PyData)}, MovesAt K H xs ms → (∃ T y z, x = .ref T ∧ SqT K H T [y, z] ∧ Dp K H y m.1 ∧ Dp K H z m.2) → MovesAt K H (xs ++ [x]) (ms ++ [m])
  | [], [], _, h => ⟨h, trivial⟩
  | _ :: _, _ :: _, ⟨h1, h2⟩, h => ⟨h1, moves_snoc h2 h⟩
  | [], _ :: _, h, _ => h.elim
  | _ :: _, [], h, _ => h.elim
theorem blk_mk (T : TxtL P K mg A L) {f : Addr} {cdv : Value} {Ar : Around} {outer : List Env} {s0 : Shared} {Hz : Hp} {E : XK} (hr : Room 14 (LX P w K mg base f cdv Ar outer s0 Hz E).A) :
    PSs (LX P w K mg base f cdv Ar outer s0 Hz E) (fB (nthS (fB (nthS (fB (nthS (defBody s_law) 0)) 1)) 4)) (spMk K) := by
  have G__law_take := ok_take (P := P) (w := w) (base := base) T.b T.F__law_take
  have b__law_take := T.F__law_take.binds (ps := ["_law_bag_here", "_law_many"]) fun _ _ _ _ _ _ us hl => match us, hl with | [_, _], _ => rfl
  have G__law_odd := ok_odd (P := P) (w := w) (base := base) T
  have b__law_odd := T.F__law_odd.binds (ps := ["_law_bag_here", "_law_there"]) fun _ _ _ _ _ _ us hl => match us, hl with | [_, _], _ => rfl
  have hu1 := hu65 hr
  refine PSs.weak (pss_cons (ps_par (i := 15) (j := 11) rfl sc_law.nd rfl rfl (by decide) rfl rfl (pa_cons (pe_call G__law_odd (hr.mono (by decide)) rfl T.g__law_odd T.F__law_odd.kp b__law_odd .nil passX (pa_cons (pv 2) (pa_cons (pv 12) pa_nil))) (pa_cons (pe_ifExp (pt_cmpR (Kx.op_eqD (K := K) rfl hu1) (pe_call G__law_take (hr.mono (by decide)) rfl T.g__law_take T.F__law_take.kp b__law_take .nil passX (pa_cons (pv 2) (pa_cons pe_int pa_nil))) pe_int (nomark _)) pe_non (pe_call G__law_odd (hr.mono (by decide)) rfl T.g__law_odd T.F__law_odd.kp b__law_odd .nil passX (pa_cons (pv 2) (pa_cons (pv 12) pa_nil)))) pa_nil)) (by rfl))
    (pss_one (ps_expr (pe_bm PySem.F.plainAttrs_list PySem.F.slot_list_append PySem.F.type_list_append mt_append (pv 14) (pa_cons (pe_tup (pa_cons (pv 15) (pa_cons (pv 11) pa_nil))) pa_nil))))) (fun D σ H9 hh => ?_)
  obtain ⟨dn, dr, db, dc⟩ := D
  obtain ⟨a0, a1, a3, a4, a5, a6, a7, a8, a9, a10, a11, a13, a15, us, p, th, M, ks, S, xs, ms, rfl, hus, bg, hth, hk0, hkl, hM, hxl, npt, npM, ntM, hpS, hMS, hSS, hms, q⟩ := hh
  try dsimp only [cxOf]
  walk_at "rd"
  have ss : ∀ {H5 : Hp}, Fr [p] H9 H5 → BagAt H5 p → ∀ a, a ∈ S → H5 a ≠ none := fun {H5} f5 bg5 a ha z => by
    by_cases e : a = p
    · obtain ⟨_, _, _, _, _, hp⟩ := bg5
      rw [← e, z] at hp
      cases hp
    · cases e2 : H9 a with
      | none => exact hSS a ha e2
      | some o => rw [f5 a o (by simpa using e) e2] at z; cases z
  have hs : ∀ {H5 H6 : Hp}, Fr [p] H5 H6 → Same (hid S H5) (hid S H6) := fun {H5 H6} f5 b o e => by
    obtain ⟨e1, e2⟩ := hid_some e
    exact (hid_out e2).trans (f5 b o (fun z => e2 (by rw [show b = p by simpa using z]; exact hpS)) e1)
  refine ⟨p, th, ks, S, rfl, hSS, bg, SqL.of hth, npt, hk0, hkl, fun v1 d1 H1 f1 bg1 hd1 => ?_⟩
  walk_at "rd"
  refine Rd.cutH (P := fun v2 H3 => ∃ d2, Fr [p] H1 H3 ∧ BagAt H3 p ∧ Dp K (hid S H3) v2 d2) (fun Q' kq => ?_) ?_
  · refine Rd.ifE ?_
    walk_at "rd"
    refine take_at bg1 (by decide) (by decide) fun d5 H2 z0 z1 o2 bg2 => ?_
    have f2 : Fr [p] H1 H2 := o2.fr (by simp)
    walk_at "rd"
    refine Rd.eqD (.int _) (.int _) (shaped_int _) (shaped_int _) ?_
    rw [eqv_int]
    walk_at "rd"
    refine ite2 (fun h1 => ?_) (fun h1 => ?_)
    · walk_at "rd"
      exact kq _ _ ⟨.none, f2, bg2, .non⟩
    · walk_at "rd"
      exact ⟨p, th, ks, S, rfl, ss (f1.trans f2) bg2, bg2, SqL.of ((f1.trans f2) th _ (by simpa using npt.symm) hth), npt, hk0, hkl, fun v2 d2 H3 f3 bg3 hd3 => kq _ _ ⟨d2, f2.trans f3, bg3, hd3⟩⟩
  · rintro v2 H3 ⟨d2, f3, bg3, hd2⟩
    have f13 := f1.trans f3
    walk_at "rd"
    have hM3 : H3 M = some (.lst xs) := f13 M _ (by simpa using npM.symm) hM
    walk_at "nx"
    walk_at "rd"
    rename_i T H4 nT sT hT
    have hM4 : H4 M = some (.lst xs) := sT _ _ hM3
    refine Rd.app hM4 (Nat.lt_of_le_of_lt hxl (by decide)) ?_
    walk_at "rd"
    have nTS : T ∉ S := fun z => ss f13 bg3 T z nT
    have e5 : hid S (upd H4 M (.lst (xs ++ [.ref T]))) = hid S H4 := hid_mut hMS
    refine q _ _ _ (.ref T) (d1, d2) (fun c o n e => ?_) ?_ upd_same ?_
    · have n1 : c ≠ p ∧ c ≠ M := by simpa using n
      rw [upd_ne n1.2]
      exact sT _ _ (f13 c o (by simpa using n1.1) e)
    · obtain ⟨c, m, h1, h2, h3, hp⟩ := bag_same bg3 sT
      exact ⟨c, m, h1, h2, h3, by rw [upd_ne npM]; exact hp⟩
    · rw [e5]
      exact moves_snoc (moves_mono ((hs f13).trans (Same.hid sT)) hms) ⟨T, v1, v2, rfl, SqT.of ((hid_out nTS).trans hT), dp_mono ((hs f3).trans (Same.hid sT)) hd1, dp_mono (Same.hid sT) hd2⟩
end
end PR
end

section
set_option maxHeartbeats 4000000
namespace PR
open PySem L2 PySem.Spec PyProof.Rows PySem.EX
local macro_rules | `(tactic| walk_at "st") => `(tactic| first | with_reducible exact setAt_z | with_reducible exact setAt_s (by walk_at "st"))
local macro_rules | `(tactic| walk_at "rd1") => `(tactic| first
  | walk_at "sq"
  | with_reducible refine Rd.nxE ?_
  | with_reducible refine Rd.rtE ?_
  | with_reducible refine Rd.ctE ?_
  | with_reducible refine Rd.bkE ?_
  | with_reducible refine Rd.asg ?_
  | ((with_reducible refine' Rd.gnameW ?h0 ?hs ?_); (case h0 => walk_at "wi"); (case hs => walk_at "st"))
  | ((with_reducible refine' Rd.gname ?hs ?_); (case hs => walk_at "st"))
  | with_reducible refine Rd.ifS ?_
  | with_reducible refine Rd.ret ?_
  | with_reducible refine Rd.retN ?_
  | with_reducible refine Rd.drop ?_
  | with_reducible refine Rd.next ?_
  | ((with_reducible refine' Rd.var ?hv ?_); (case hv => exact rfl))
  | with_reducible refine Rd.c ?_
  | with_reducible refine Rd.op ?_
  | with_reducible refine Rd.un ?_
  | with_reducible refine Rd.neg ?_
  | with_reducible refine Rd.i0 ?_
  | with_reducible refine Rd.test ?_
  | with_reducible refine Rd.chain ?_
  | with_reducible refine Rd.tB ?_
  | with_reducible refine Rd.bl ?_
  | with_reducible refine Rd.not ?_
  | with_reducible refine Rd.and ?_
  | with_reducible refine Rd.or ?_
  | with_reducible refine Rd.andV ?_
  | with_reducible refine Rd.orV ?_
  | with_reducible refine Rd.notV ?_
  | with_reducible refine Rd.nilA ?_
  | with_reducible refine Rd.consA ?_
  | with_reducible refine Rd.cb ?_
  | with_reducible refine Rd.int1 ?_
  | with_reducible refine Rd.abs1 ?_
  | with_reducible refine Rd.gsub ?_
  | with_reducible refine Rd.tpar ?_
  | ((with_reducible refine' Rd.par ?hs ?ht ?_); (case hs => walk_at "st"); (case ht => walk_at "st"))
  | with_reducible refine Rd.ttup ?_
  | with_reducible refine Rd.tlst ?_
  | with_reducible refine Rd.isN ?_
  | with_reducible refine Rd.call ?_
  | with_reducible refine Rd.sl ?_
  | with_reducible refine Rd.noPart ?_
  | with_reducible refine Rd.part ?_
  | with_reducible refine Rd.ex_int ?_
  | with_reducible refine Rd.bm ?_
  | with_reducible refine Rd.tfld ?_
  | with_reducible refine Rd.tforT fun TB hTB => ?_
  | with_reducible refine Rd.tlc ?_
  | with_reducible refine Rd.mk1 ?_
  | with_reducible refine Rd.tdc ?_
  | with_reducible refine Rd.sfld ?_
  | with_reducible refine Rd.methP ?_
  | with_reducible refine Rd.xf ?_

  | with_reducible refine Rd.itemP ?_
  | with_reducible refine Rd.ost ?_
  | with_reducible refine Rd.enumT ?_
  | ((with_reducible refine' Rd.enumTAt ?h1 ?_); (case h1 => walk_at "lk"))
  | with_reducible refine Rd.meth ?_
  | with_reducible refine Rd.make ?_
  | with_reducible refine Rd.prop ?_
  | with_reducible refine Rd.item ?_
  | with_reducible refine Rd.sprop ?_
  | with_reducible refine Rd.star ?_
  | ((with_reducible refine' Rd.starL ?h1 ?_); (case h1 => walk_at "lk"))
  | with_reducible refine Rd.tdget ?_
  | ((with_reducible refine' Rd.fld ?h1 ?h2 ?h3 ?h4 ?_); (case h1 => walk_at "lk"); (case h2 => walk_at "cl"); (case h3 => walk_at "na"); (case h4 => walk_at "fl"))
  | ((with_reducible refine' Rd.ty ?h1 ?_); (case h1 => walk_at "lk"))
  | with_reducible refine Rd.tyes ?_
  | with_reducible refine Rd.noN ?_
  | with_reducible refine Rd.noNr ?_
  | with_reducible refine Rd.yesN ?_
  | with_reducible refine Rd.yesI ?_
  | with_reducible refine Rd.yesR ?_
  | with_reducible refine Rd.noNN ?_
  | with_reducible refine Rd.yes rfl ?_
  | with_reducible refine Rd.no Bool.false_ne_true ?_
  | ((with_reducible refine' Rd.wp ?h1 ?_); (case h1 => exact rfl))
  | ((with_reducible refine' Rd.isi ?h1 ?h2 ?_); (case h1 => walk_at "lk"); (case h2 => first | exact kit_int (dp_nodict (by with_reducible assumption)) | exact kit_bool (dp_nodict (by with_reducible assumption))))
  | with_reducible refine Rd.enum ?_
  | ((with_reducible refine' Rd.enumAt ?h1 ?_); (case h1 => walk_at "lk"))
  | with_reducible refine Rd.rng1 ?_
  | with_reducible refine Rd.rng2 ?_
  | with_reducible refine Rd.ilist ?_
  | with_reducible refine Rd.itup ?_
  | ((with_reducible refine' Rd.ilistAt ?h1 ?_); (case h1 => walk_at "lk"))
  | ((with_reducible refine' Rd.itupAt ?h1 ?_); (case h1 => walk_at "lk"))
  | ((with_reducible refine' Rd.slL ?h1 (fun q H1 nq sq hq => ?_)); (case h1 => walk_at "lk"))
  | with_reducible refine Rd.gcons ?_
  | with_reducible refine Rd.gnil ?_
  | ((with_reducible refine' Rd.gtup ?h1 ?h2 ?_); (case h1 => walk_at "lk"); (case h2 => exact rfl))
  | ((with_reducible refine' Rd.lenL ?h1 ?_); (case h1 => walk_at "lk"))
  | ((with_reducible refine' Rd.lenT ?h1 ?_); (case h1 => walk_at "lk"))
  | ((with_reducible refine' Rd.ixA ?h1 ?h2 ?_); (case h1 => walk_at "lk"); (case h2 => exact rfl))
  | ((with_reducible refine' Rd.ixB ?h1 ?h2 ?_); (case h1 => walk_at "lk"); (case h2 => exact rfl))
  | ((with_reducible refine' Rd.ixL ?h1 ?h2 ?_); (case h1 => walk_at "lk"); (case h2 => exact rfl))
  | ((with_reducible refine' Rd.newAt ?h1 (fun p H1 np sp hp => ?_)); (case h1 => exact sz_small (Nat.le_of_ble_eq_true rfl)))
  | ((with_reducible refine' Rd.ic ?h1 ?_); (case h1 => walk_at "sd"))
  | ((with_reducible refine' Rd.setL ?h1 ?h2 ?h3 ?_); (case h1 => walk_at "lk"); (case h2 => exact rfl); (case h3 => walk_at "st")))
local macro_rules | `(tactic| walk_at "rd") => `(tactic| repeat walk_at "rd1")
local macro_rules | `(tactic| walk_at "lk") => `(tactic| first
  | with_reducible assumption
  | exact upd_same
  | exact SqL.of upd_same
  | exact SqT.of upd_same
  | exact SqL.of (by with_reducible assumption)
  | exact SqT.of (by with_reducible assumption)
  | ((with_reducible refine' same_get ?lks ?lkh); (case lks => with_reducible assumption); (case lkh => walk_at "lk"))
  | ((with_reducible refine' Same.seq ?lks ?lkh); (case lks => with_reducible assumption); (case lkh => walk_at "lk"))
  | ((with_reducible refine' sqT_mono ?lks ?lkh); (case lks => with_reducible assumption); (case lkh => walk_at "lk"))
  | ((with_reducible refine' dp_mono ?lks ?lkh); (case lks => with_reducible assumption); (case lkh => walk_at "lk")))
local macro_rules | `(tactic| walk_at "sd") => `(tactic| first
  | with_reducible assumption
  | decide
  | omega
  | exact Or.inl ⟨by decide, by decide⟩
  | exact ⟨by decide, by decide, by decide⟩
  | exact Or.inr ⟨by decide, by decide⟩
  | exact Or.inl ⟨by omega, by omega⟩
  | exact wide_div (by decide) (by decide : _ < 2 ^ 200) (by decide) (by decide)
  | exact wide_div (by with_reducible assumption) (by assumption : _ < 2 ^ 200) (by decide) (by decide))

local macro_rules | `(tactic| walk_at "cl") => `(tactic| first | exact ct_k (by with_reducible assumption) | exact cl_Tree (by with_reducible assumption) | exact cl_Spot (by with_reducible assumption) | exact cl_Edit (by with_reducible assumption))
local macro_rules | `(tactic| walk_at "na") => `(tactic| first | exact ct_rows (by with_reducible assumption) | exact ct_left (by with_reducible assumption) | exact na_rows (by with_reducible assumption) | exact na_left (by with_reducible assumption) | exact na_tree (by with_reducible assumption) | exact na_key (by with_reducible assumption) | exact na_etree (by with_reducible assumption) | exact na_saved (by with_reducible assumption))
local macro_rules | `(tactic| walk_at "fl") => `(tactic| first | exact lk_head | exact lk_second (by decide +kernel))
local macro_rules | `(tactic| walk_at "wi") => `(tactic| first | (simp only [wipe, List.map_cons, List.map_nil, List.set_cons_succ, List.set_cons_zero]; done) | (simp only [wipe, List.map_cons, List.map_nil, List.set_cons_succ, List.set_cons_zero]; exact rfl))

set_option hygiene false in
local macro_rules | `(tactic| walk_at "sq") => `(tactic| with_reducible refine Rd.seqT fun S2 hS2 => ?_)
set_option hygiene false in
local macro_rules | `(tactic| walk_at "nx") => `(tactic| subst hS2)

section
variable {P : Program} {w : World} {K : PySem.W.Frag} {mg : Str → Option Value} {base : Heap} {A : Ad} {L : AdL} {C fp fa : Addr} {b : Bool}
open L2H HotX
theorem moves_fr1 {H H' : Hp} {t : Addr} {u : HO} (f : Fr1 t H H') (ht : H t = some u) (n : NoSeq u) : ∀ {xs : List V} {ms : List (PyData × PyData)}, MovesAt K H xs ms → MovesAt K H' xs ms
  | [], [], _ => trivial
  | _ :: _, _ :: _, ⟨⟨T, x, y, e, h1, h2, h3⟩, r⟩ => ⟨⟨T, x, y, e, sqT_fr1 f ht n h1, dp_fr1 f ht n h2, dp_fr1 f ht n h3⟩, moves_fr1 f ht n r⟩
  | [], _ :: _, h => h.elim
  | _ :: _, [], h => h.elim
/-- what the law awaits -/
def DueAt (H : Hp) : Option (Nat × Str) → V → Prop
  | none, v => v = .non
  | some (j, why), v => ∃ D, v = .ref D ∧ H D = some (.lst [.int (j : Nat), .str why, .bl true])
/-- one turn of the loop that does the moves one by one -/
def spSb (K : PySem.W.Frag) (CT : Addr) : TS := fun D σ H => ∃ (a0 a1 a2 a3 a4 a5 a6 a7 a9 a10 a11 a12 a13 a14 a15 a20 a21 : Option V) (o G Tm : Addr) (v y due : V) (m : PyData × PyData) (SO S : List Addr) (dx : Addr) (l : V) (rows R : List Row) (ms : List (PyData × PyData)) (gs : List V) (i n : Nat) (st : Option (Nat × Str)),
  σ = [a0, a1, a2, a3, a4, a5, a6, a7, some (.ref o), a9, a10, a11, a12, a13, a14, a15, some due, some (.ref G), some (.int (i : Nat)), some (.ref Tm), a20, a21] ∧ Tr rows ∧ rows.length ≤ 1000 ∧ ms[i]? = some m ∧ ms.length ≤ 1000 ∧ Mid rows ms i st n R ∧ n ≤ ms.length ∧
  TreeS K SO CT dx [("left", l)] H o R ∧ OkS SO H ∧ o ∉ SO ∧ G ∈ SO ∧ G ∈ S ∧ o ∉ S ∧ o ≠ G ∧ SqT K (hid S H) Tm [v, y] ∧ Dp K (hid S H) v m.1 ∧ Dp K (hid S H) y m.2 ∧ H G = some (.lst gs) ∧ MovesAt K (hid S H) gs (ms.take n) ∧ DueAt (hid SO H) st due ∧
  ∀ H' st' n' R' gs' due' a20', Fr [o, G] H H' → Mid rows ms (i + 1) st' n' R' → n' ≤ ms.length → TreeS K SO CT dx [("left", l)] H' o R' → H' G = some (.lst gs') → MovesAt K (hid S H') gs' (ms.take n') → DueAt (hid SO H') st' due' →
    D.nx [a0, a1, a2, a3, a4, a5, a6, a7, some (.ref o), a9, a10, a11, a12, a13, a14, a15, some due', some (.ref G), some (.int (i : Nat)), some (.ref Tm), a20', a21] H'
theorem blk_sb (T : TxtL P K mg A L) {f : Addr} {cdv : Value} {Ar : Around} {outer : List Env} {s0 : Shared} {Hz : Hp} {E : XK} (hr : Room 14 (LX P w K mg base f cdv Ar outer s0 Hz E).A) :
    PSs (LX P w K mg base f cdv Ar outer s0 Hz E) (fB (nthS (fB (nthS (fB (nthS (defBody s_law) 0)) 1)) 6)) (spSb K A.c_Tree) := by
  have G__law_single := ok_single (P := P) (w := w) (base := base) T
  have b__law_single := T.F__law_single.binds (ps := ["_law_tree", "_law_move"]) fun _ _ _ _ _ _ us hl => match us, hl with | [_, _], _ => rfl
  have hu1 := hu65 hr
  refine PSs.weak (pss_cons (ps_set (i := 20) sc_law.nd rfl (by first | exact Or.inl rfl | exact Or.inr rfl) (pe_ifExp (pt_cmpR op_isN (pv 16) pe_non (nomark _)) (pe_call G__law_single (hr.mono (by decide)) rfl T.g__law_single T.F__law_single.kp b__law_single .nil passX (pa_cons (pv 8) (pa_cons (pv 19) pa_nil))) pe_non))
    (pss_one (ps_if (pt_cmpR op_notN (pv 20) pe_non (nomark _)) (pss_one (ps_set (i := 16) sc_law.nd rfl (by first | exact Or.inl rfl | exact Or.inr rfl) (pe_lst (pa_cons (pv 18) (pa_cons (pv 20) (pa_cons pe_bl pa_nil)))))) (pss_one (ps_if (pt_cmpR op_isN (pv 16) pe_non (nomark _)) (pss_one (ps_expr (pe_bm PySem.F.plainAttrs_list PySem.F.slot_list_append PySem.F.type_list_append mt_append (pv 17) (pa_cons (pv 19) pa_nil)))) pss_nil))))) (fun D σ H9 hh => ?_)
  obtain ⟨dn, dr, db, dc⟩ := D
  obtain ⟨a0, a1, a2, a3, a4, a5, a6, a7, a9, a10, a11, a12, a13, a14, a15, a20, a21, o, G, Tm, v, y, due, m, SO, S, dx, l, rows, R, ms, gs, i, n, st, rfl, htr, hrl, em, hml, mid, hn, hO, okO, noO, hGO, hGS, noS, noG, hTm, hd1, hd2, hG, hgs, hdue, q⟩ := hh
  obtain ⟨trR, lenR⟩ := mid.tr htr
  obtain ⟨_, aO, hoO, _⟩ := id hO
  try dsimp only [cxOf]
  walk_at "rd"
  cases st with
  | some x =>
    obtain ⟨j, why⟩ := x
    obtain ⟨D0, rfl, hD0⟩ := hdue
    refine Rd.ifE ?_
    walk_at "rd"
    walk_at "nx"
    walk_at "rd"
    exact q H9 (some (j, why)) n R gs _ _ Fr.refl mid.step3 hn hO hG hgs ⟨D0, rfl, hD0⟩
  | none =>
    obtain rfl : due = .non := hdue
    refine Rd.ifE ?_
    walk_at "rd"
    refine ⟨o, Tm, v, y, m.1, m.2, SO, dx, l, R, rfl, sqT_mono hid_same hTm, dp_mono hid_same hd1, dp_mono hid_same hd2, hO, okO, noO, trR, by omega, fun ow R' H1 step f1 hO1 => ?_⟩
    have hG1 : H1 G = some (.lst gs) := f1 G _ noG.symm hG
    have hoS := (hid_out (H := H9) noS).trans hoO
    have hgs1 := moves_fr1 (Fr1.hid (S := S) f1) hoS trivial hgs
    have hTm1 := sqT_fr1 (Fr1.hid (S := S) f1) hoS trivial hTm
    have hd11 := dp_fr1 (Fr1.hid (S := S) f1) hoS trivial hd1
    have hd21 := dp_fr1 (Fr1.hid (S := S) f1) hoS trivial hd2
    have fr1 : Fr [o, G] H9 H1 := fun c x nn e => f1 c x (fun z => nn (by rw [z]; simp)) e
    have hgl : gs.length ≤ 1000 := by
      rw [moves_len hgs, List.length_take]
      omega
    cases ow with
    | none =>
      obtain ⟨rfl, mid'⟩ := mid.step1 em step
      dsimp only [optS]
      walk_at "rd"
      walk_at "nx"
      walk_at "rd"
      refine Rd.app hG1 (Nat.lt_of_le_of_lt hgl (by decide)) ?_
      walk_at "rd"
      have hi := (List.getElem?_eq_some_iff.mp em).1
      have e5 : hid S (upd H1 G (.lst (gs ++ [.ref Tm]))) = hid S H1 := hid_mut hGS
      have e6 : hid SO (upd H1 G (.lst (gs ++ [.ref Tm]))) = hid SO H1 := hid_mut hGO
      refine q _ none (n + 1) R' (gs ++ [.ref Tm]) .non _ (fun c x nn e => ?_) mid' (by omega) ?_ upd_same ?_ rfl
      · rw [upd_ne (fun z => nn (by rw [z]; simp))]
        exact fr1 c x nn e
      · obtain ⟨r1, a1', h1, h2⟩ := hO1
        exact ⟨r1, a1', by rw [upd_ne noG]; exact h1, by rw [e6]; exact h2⟩
      · rw [e5, take_snoc em]
        exact moves_snoc hgs1 ⟨Tm, v, y, rfl, hTm1, hd11, hd21⟩
    | some why =>
      obtain ⟨rfl, rfl, mid'⟩ := mid.step2 em step
      dsimp only [optS]
      walk_at "rd"
      walk_at "nx"
      walk_at "rd"
      rename_i D1 H2 nD sD hD1
      have nSO : D1 ∉ SO := okO.new (by
        cases e : H9 D1 with
        | none => rfl
        | some x =>
          by_cases z : D1 = o
          · obtain ⟨_, _, ho1, _⟩ := id hO1
            rw [z, ho1] at nD
            cases nD
          · rw [f1 D1 x z e] at nD
            cases nD)
      exact q H2 (some (n, why)) n _ gs (.ref D1) _ (fr1.trans (fr_same sD)) mid' hn (hO1.mono sD) (sD _ _ hG1) (moves_mono (Same.hid sD) hgs1) ⟨D1, rfl, (hid_out nSO).trans hD1⟩
end
end PR
end

section
set_option maxHeartbeats 4000000
namespace PR
open PySem L2 PySem.Spec PyProof.Rows PySem.EX
section
variable {P : Program} {w : World} {K : PySem.W.Frag} {mg : Str → Option Value} {base : Heap} {A : Ad} {C : Addr}
theorem noX_LN : NoX (L2N.CX P w) := fun outer H s e s' z => by
  obtain ⟨a, B, H', cls, d, z⟩ := z
  obtain ⟨_, _, _, _, _, _, _, h⟩ := z
  exact h
theorem passNF {X : Cx} : Passes (L2N.CX X.prog X.w) X (fun _ _ _ => False) := fun _ _ _ _ _ _ _ c => (noX_LN _ _ _ _ _ c).elim
theorem R_len (T : Txt P K mg A) : FnR P w K mg base (L2N.CX P w) 1 A.f_T_len (spTLen K) :=
  ((ok_T_len (P := P) (w := w) (base := base) T).raw (T.F_T_len.binds (ps := ["self"]) fun _ _ _ _ _ _ us hl => match us, hl with | [_], _ => rfl) .nil).imp fun _ _ _ _ h => by rw [List.append_nil]; exact h
/-- list(tree) -/
theorem Rd.listT {S : List Addr} {dx t : Addr} {rest : List (Str × V)} {H : Hp} {rows : List Row} {Q : VK} (hT : TreeS K S C dx rest H t rows) (hCT : ClsT K C) (hl : rows.length ≤ sizeLine) (h : ∀ q xs, H q = none → DpAll K (hid S H) xs (rows.map rowD) → Q (.ref q) (upd H q (.lst xs))) :
    rListO K C (okT K) (spTLen K) [.ref t] H Q := by
  obtain ⟨hr, a, ht, xs, hS, hX⟩ := id hT
  exact ⟨t, dx, _, a, xs, rfl, ht, hid_same.seq hS, fun H' s => ⟨⟨C, dx, rest, xs, s _ _ ht, hCT, s.seq (hid_same.seq hS)⟩, ⟨t, C, dx, rest, rows, rfl, hCT, (hT.mono s).at, rows.length, rfl, hl, rfl⟩⟩, fun q nq => h q xs nq hX⟩
/-- one of two promises of a block -/
theorem pss_alt {X : Cx} {l : List Stmt} {t u : TS} (h : PSs X l t) (k : PSs X l u) : PSs X l (fun D σ H => t D σ H ∨ u D σ H) :=
  ⟨fun pins s σ H D I q => q.elim (fun q => h.run pins s σ H D I q) fun q => k.run pins s σ H D I q⟩
theorem pe_alt {X : Cx} {e : Expr} {t u : TE} (h : PE X e t) (k : PE X e u) : PE X e (fun σ H Q => t σ H Q ∨ u σ H Q) :=
  ⟨fun pins s σ H Q I q => q.elim (fun q => h.run pins s σ H Q I q) fun q => k.run pins s σ H Q I q⟩
end
end PR
end

section
set_option maxHeartbeats 4000000
namespace PR
open PySem L2 PySem.Spec PyProof.Rows PySem.EX
local macro_rules | `(tactic| walk_at "st") => `(tactic| first | with_reducible exact setAt_z | with_reducible exact setAt_s (by walk_at "st"))
local macro_rules | `(tactic| walk_at "rd1") => `(tactic| first
  | walk_at "sq"
  | with_reducible refine Rd.nxE ?_
  | with_reducible refine Rd.rtE ?_
  | with_reducible refine Rd.ctE ?_
  | with_reducible refine Rd.bkE ?_
  | with_reducible refine Rd.asg ?_
  | ((with_reducible refine' Rd.gnameW ?h0 ?hs ?_); (case h0 => walk_at "wi"); (case hs => walk_at "st"))
  | ((with_reducible refine' Rd.gname ?hs ?_); (case hs => walk_at "st"))
  | with_reducible refine Rd.ifS ?_
  | with_reducible refine Rd.ret ?_
  | with_reducible refine Rd.retN ?_
  | with_reducible refine Rd.drop ?_
  | with_reducible refine Rd.next ?_
  | ((with_reducible refine' Rd.var ?hv ?_); (case hv => exact rfl))
  | with_reducible refine Rd.c ?_
  | with_reducible refine Rd.op ?_
  | with_reducible refine Rd.un ?_
  | with_reducible refine Rd.neg ?_
  | with_reducible refine Rd.i0 ?_
  | with_reducible refine Rd.test ?_
  | with_reducible refine Rd.chain ?_
  | with_reducible refine Rd.tB ?_
  | with_reducible refine Rd.bl ?_
  | with_reducible refine Rd.not ?_
  | with_reducible refine Rd.and ?_
  | with_reducible refine Rd.or ?_
  | with_reducible refine Rd.andV ?_
  | with_reducible refine Rd.orV ?_
  | with_reducible refine Rd.notV ?_
  | with_reducible refine Rd.nilA ?_
  | with_reducible refine Rd.consA ?_
  | with_reducible refine Rd.cb ?_
  | with_reducible refine Rd.int1 ?_
  | with_reducible refine Rd.abs1 ?_
  | with_reducible refine Rd.gsub ?_
  | with_reducible refine Rd.tpar ?_
  | ((with_reducible refine' Rd.par ?hs ?ht ?_); (case hs => walk_at "st"); (case ht => walk_at "st"))
  | with_reducible refine Rd.ttup ?_
  | with_reducible refine Rd.tlst ?_
  | with_reducible refine Rd.isN ?_
  | with_reducible refine Rd.call ?_
  | with_reducible refine Rd.sl ?_
  | with_reducible refine Rd.noPart ?_
  | with_reducible refine Rd.part ?_
  | with_reducible refine Rd.ex_int ?_
  | with_reducible refine Rd.bm ?_
  | with_reducible refine Rd.tfld ?_
  | with_reducible refine Rd.tforT fun TB hTB => ?_
  | with_reducible refine Rd.tlc ?_
  | with_reducible refine Rd.mk1 ?_
  | with_reducible refine Rd.tdc ?_
  | with_reducible refine Rd.sfld ?_
  | with_reducible refine Rd.methP ?_
  | with_reducible refine Rd.xf ?_

  | with_reducible refine Rd.itemP ?_
  | with_reducible refine Rd.ost ?_
  | with_reducible refine Rd.enumT ?_
  | ((with_reducible refine' Rd.enumTAt ?h1 ?_); (case h1 => walk_at "lk"))
  | with_reducible refine Rd.meth ?_
  | with_reducible refine Rd.make ?_
  | with_reducible refine Rd.prop ?_
  | with_reducible refine Rd.item ?_
  | with_reducible refine Rd.sprop ?_
  | with_reducible refine Rd.star ?_
  | ((with_reducible refine' Rd.starL ?h1 ?_); (case h1 => walk_at "lk"))
  | with_reducible refine Rd.tdget ?_
  | ((with_reducible refine' Rd.fld ?h1 ?h2 ?h3 ?h4 ?_); (case h1 => walk_at "lk"); (case h2 => walk_at "cl"); (case h3 => walk_at "na"); (case h4 => walk_at "fl"))
  | ((with_reducible refine' Rd.ty ?h1 ?_); (case h1 => walk_at "lk"))
  | with_reducible refine Rd.tyes ?_
  | with_reducible refine Rd.noN ?_
  | with_reducible refine Rd.noNr ?_
  | with_reducible refine Rd.yesN ?_
  | with_reducible refine Rd.yesI ?_
  | with_reducible refine Rd.yesR ?_
  | with_reducible refine Rd.noNN ?_
  | with_reducible refine Rd.yes rfl ?_
  | with_reducible refine Rd.no Bool.false_ne_true ?_
  | ((with_reducible refine' Rd.wp ?h1 ?_); (case h1 => exact rfl))
  | ((with_reducible refine' Rd.isi ?h1 ?h2 ?_); (case h1 => walk_at "lk"); (case h2 => first | exact kit_int (dp_nodict (by with_reducible assumption)) | exact kit_bool (dp_nodict (by with_reducible assumption))))
  | with_reducible refine Rd.enum ?_
  | ((with_reducible refine' Rd.enumAt ?h1 ?_); (case h1 => walk_at "lk"))
  | with_reducible refine Rd.rng1 ?_
  | with_reducible refine Rd.rng2 ?_
  | with_reducible refine Rd.ilist ?_
  | with_reducible refine Rd.itup ?_
  | ((with_reducible refine' Rd.ilistAt ?h1 ?_); (case h1 => walk_at "lk"))
  | ((with_reducible refine' Rd.itupAt ?h1 ?_); (case h1 => walk_at "lk"))
  | ((with_reducible refine' Rd.slL ?h1 (fun q H1 nq sq hq => ?_)); (case h1 => walk_at "lk"))
  | with_reducible refine Rd.gcons ?_
  | with_reducible refine Rd.gnil ?_
  | ((with_reducible refine' Rd.gtup ?h1 ?h2 ?_); (case h1 => walk_at "lk"); (case h2 => exact rfl))
  | ((with_reducible refine' Rd.lenL ?h1 ?_); (case h1 => walk_at "lk"))
  | ((with_reducible refine' Rd.lenT ?h1 ?_); (case h1 => walk_at "lk"))
  | ((with_reducible refine' Rd.ixA ?h1 ?h2 ?_); (case h1 => walk_at "lk"); (case h2 => exact rfl))
  | ((with_reducible refine' Rd.ixB ?h1 ?h2 ?_); (case h1 => walk_at "lk"); (case h2 => exact rfl))
  | ((with_reducible refine' Rd.ixL ?h1 ?h2 ?_); (case h1 => walk_at "lk"); (case h2 => exact rfl))
  | ((with_reducible refine' Rd.newAt ?h1 (fun p H1 np sp hp => ?_)); (case h1 => exact sz_small (Nat.le_of_ble_eq_true rfl)))
  | ((with_reducible refine' Rd.ic ?h1 ?_); (case h1 => walk_at "sd"))
  | ((with_reducible refine' Rd.setL ?h1 ?h2 ?h3 ?_); (case h1 => walk_at "lk"); (case h2 => exact rfl); (case h3 => walk_at "st")))
local macro_rules | `(tactic| walk_at "rd") => `(tactic| repeat walk_at "rd1")
local macro_rules | `(tactic| walk_at "lk") => `(tactic| first
  | with_reducible assumption
  | exact upd_same
  | exact SqL.of upd_same
  | exact SqT.of upd_same
  | exact SqL.of (by with_reducible assumption)
  | exact SqT.of (by with_reducible assumption)
  | ((with_reducible refine' same_get ?lks ?lkh); (case lks => with_reducible assumption); (case lkh => walk_at "lk"))
  | ((with_reducible refine' Same.seq ?lks ?lkh); (case lks => with_reducible assumption); (case lkh => walk_at "lk"))
  | ((with_reducible refine' sqT_mono ?lks ?lkh); (case lks => with_reducible assumption); (case lkh => walk_at "lk"))
  | ((with_reducible refine' dp_mono ?lks ?lkh); (case lks => with_reducible assumption); (case lkh => walk_at "lk")))
local macro_rules | `(tactic| walk_at "sd") => `(tactic| first
  | with_reducible assumption
  | decide
  | omega
  | exact Or.inl ⟨by decide, by decide⟩
  | exact ⟨by decide, by decide, by decide⟩
  | exact Or.inr ⟨by decide, by decide⟩
  | exact Or.inl ⟨by omega, by omega⟩
  | exact wide_div (by decide) (by decide : _ < 2 ^ 200) (by decide) (by decide)
  | exact wide_div (by with_reducible assumption) (by assumption : _ < 2 ^ 200) (by decide) (by decide))

local macro_rules | `(tactic| walk_at "cl") => `(tactic| first | exact ct_k (by with_reducible assumption) | exact cl_Tree (by with_reducible assumption) | exact cl_Spot (by with_reducible assumption) | exact cl_Edit (by with_reducible assumption))
local macro_rules | `(tactic| walk_at "na") => `(tactic| first | exact ct_rows (by with_reducible assumption) | exact ct_left (by with_reducible assumption) | exact na_rows (by with_reducible assumption) | exact na_left (by with_reducible assumption) | exact na_tree (by with_reducible assumption) | exact na_key (by with_reducible assumption) | exact na_etree (by with_reducible assumption) | exact na_saved (by with_reducible assumption))
local macro_rules | `(tactic| walk_at "fl") => `(tactic| first | exact lk_head | exact lk_second (by decide +kernel))
local macro_rules | `(tactic| walk_at "wi") => `(tactic| first | (simp only [wipe, List.map_cons, List.map_nil, List.set_cons_succ, List.set_cons_zero]; done) | (simp only [wipe, List.map_cons, List.map_nil, List.set_cons_succ, List.set_cons_zero]; exact rfl))

set_option hygiene false in
local macro_rules | `(tactic| walk_at "sq") => `(tactic| with_reducible refine Rd.seqT fun S2 hS2 => ?_)
set_option hygiene false in
local macro_rules | `(tactic| walk_at "nx") => `(tactic| subst hS2)

section
variable {P : Program} {w : World} {K : PySem.W.Frag} {mg : Str → Option Value} {base : Heap} {A : Ad} {L : AdL} {C fp fa : Addr} {b : Bool}
open L2H HotX
theorem eqv_sh {d : PyData} (h : SeqAt.shaped d = true) : PyData.eqv d d = true := by
  have h' : (d.canLay0 && decide (d.depth ≤ 64)) = true := h
  exact SeqAt.eqv_refl _ (Bool.and_eq_true_iff.mp h').1
theorem shaped_rows {rows : List Row} : SeqAt.shaped (.list (rows.map rowD)) = true := by
  refine shaped_of (n := 2) (shN_list (n := 1) fun d hd => ?_) (by decide)
  obtain ⟨r, _, rfl⟩ := List.mem_map.mp hd
  refine shN_tuple fun z hz => ?_
  rcases List.mem_cons.mp hz with e | hz
  · rw [e]; exact ⟨by simp [PyData.canLay0], by simp [PyData.depth]⟩
  rcases List.mem_cons.mp hz with e | hz
  · rw [e]
    cases r.2 with
    | none => exact ⟨by simp [optD, PyData.canLay0], by simp [optD, PyData.depth]⟩
    | some q => exact ⟨by simp [optD, PyData.canLay0], by simp [optD, PyData.depth]⟩
  · cases hz
/-- the end of a turn: the good moves alone -/
def spLast (K : PySem.W.Frag) (CT C : Addr) (b : Bool) : TS := fun D σ H => ∃ (a0 a1 a2 a3 a4 a5 a6 a9 a10 a11 a12 a13 a14 a15 a18 a19 a20 a21 : Option V) (t o p G : Addr) (due : V) (S : List Addr) (og : Option Addr) (dx : Addr) (l : V) (dx' : Addr) (l' : V) (rows R : List Row) (log : List PyData) (gs : List V) (mgd : List (PyData × PyData)) (st : Option (Nat × Str)),
  σ = [a0, a1, a2, a3, a4, a5, a6, some (.ref t), some (.ref o), a9, a10, a11, a12, a13, a14, a15, some due, some (.ref G), a18, a19, a20, a21] ∧ DueAt H st due ∧ Tr rows ∧ rows.length ≤ 1000 ∧ log.length ≤ 1000 ∧
  (st ≠ none → TwoT K CT C b S p t o og dx l dx' l' H rows R log ∧ G ∉ og.toList ∧ H G = some (.lst gs) ∧ MovesAt K (hid og.toList H) gs mgd ∧ mgd.length ≤ 5 ∧ RunR rows mgd 0 (.ok R)) ∧
  ∀ H', FrO t og H H' → D.nx [a0, a1, a2, a3, a4, a5, a6, some (.ref t), some (.ref o), a9, a10, a11, a12, a13, a14, a15, some due, some (.ref G), a18, a19, a20, a21] H'
theorem blk_last (T : TxtL P K mg A L) (F : ClsF P w K base mg A C b fp fa) {f : Addr} {cdv : Value} {Ar : Around} {outer : List Env} {s0 : Shared} {Hz : Hp} {E : XK} (hr : Room 14 (LX P w K mg base f cdv Ar outer s0 Hz E).A) :
    PS (LX P w K mg base f cdv Ar outer s0 Hz E) (nthS (fB (nthS (fB (nthS (defBody s_law) 0)) 1)) 11) (spLast K A.c_Tree C b) := by
  have G__law_moves := ok_moves (P := P) (w := w) (base := base) T F
  have b__law_moves := T.F__law_moves.binds (ps := ["_law_tree", "_law_some"]) fun _ _ _ _ _ _ us hl => match us, hl with | [_, _], _ => rfl
  have RI := ok_T_iter (P := P) (w := w) (base := base) T.toTxt
  have RL := R_len (P := P) (w := w) (base := base) T.toTxt
  have hu1 := hu65 hr
  refine PS.weak (ps_if (PW.pt (pw_and (pt_cmpR op_notN (pv 16) pe_non (nomark _)) (pw_and1 (PW.pt (pw_or (pt_cmpR op_notN (pe_call G__law_moves (hr.mono (by decide)) rfl T.g__law_moves T.F__law_moves.kp b__law_moves .nil passX (pa_cons (pv 7) (pa_cons (pv 17) pa_nil))) pe_non (nomark _)) (pw_or1 (pt_cmpR (Kx.op_neD (K := K) rfl hu1) (pe_callTy (call_listO F.s_iter F.s_len RI RL noX_LN passNF (hr.mono (by decide)) rfl) (by rfl) T.n_list (by decide +kernel) (pa_cons (pv 7) pa_nil)) (pe_callTy (call_listO T.sT_iter T.sT_len RI RL noX_LN passNF (hr.mono (by decide)) rfl) (by rfl) T.n_list (by decide +kernel) (pa_cons (pv 8) pa_nil)) (nomark _)))))))) (pss_one (ps_ret pe_bl)) pss_nil) (fun D σ H9 hh => ?_)
  obtain ⟨dn, dr, db, dc⟩ := D
  obtain ⟨a0, a1, a2, a3, a4, a5, a6, a9, a10, a11, a12, a13, a14, a15, a18, a19, a20, a21, t, o, p, G, due, S, og, dx, l, dx', l', rows, R, log, gs, mgd, st, rfl, hdue, htr, hrl, hll, hsome, q⟩ := hh
  try dsimp only [cxOf]
  walk_at "rd"
  cases st with
  | none =>
    obtain rfl : due = .non := hdue
    walk_at "rd"
    exact q H9 Fr1.refl
  | some x =>
    obtain ⟨j, why⟩ := x
    obtain ⟨D0, rfl, hD0⟩ := hdue
    obtain ⟨tw, nG, hG, hgs, hm5, hrun⟩ := hsome (by simp)
    walk_at "rd"
    refine ⟨t, G, gs, mgd, S, dx, l, og, rows, log, _, rfl, tw.hb, SqL.of hG, hgs, hm5, tw.st, htr, hrl, hll, hrun, fun rows' H1 eo f1 st1 => ?_, fun j why H' og' r z => by cases z⟩
    cases eo
    walk_at "rd"
    have lenR : R.length = rows.length := (hrun.tr' rfl htr).2
    have hzl : R.length ≤ sizeLine := by rw [lenR]; exact Nat.le_trans hrl (by decide)
    obtain ⟨_, a9t, ht9, _⟩ := id tw.st.1
    have hO1 := tw.ot.frO f1 ht9 trivial tw.ne tw.st.ntS tw.no tw.st.sub
    refine Rd.listT st1.1 F.ct hzl fun q1 xs1 n1 hx1 => ?_
    have s1 : Same H1 (upd H1 q1 (.lst xs1)) := same_upd n1
    have hq1 : upd H1 q1 (.lst xs1) q1 = some (.lst xs1) := upd_same
    generalize upd H1 q1 (.lst xs1) = H2 at s1 hq1
    walk_at "rd"
    refine Rd.listT (hO1.mono s1) T.ct_Tree hzl fun q2 xs2 n2 hx2 => ?_
    have s2 : Same H2 (upd H2 q2 (.lst xs2)) := same_upd n2
    have hq2 : upd H2 q2 (.lst xs2) q2 = some (.lst xs2) := upd_same
    generalize upd H2 q2 (.lst xs2) = H3 at s2 hq2
    refine Rd.neD (d := .list (R.map rowD)) (e := .list (R.map rowD)) (.lst (SqL.of (s2 _ _ hq1)) (dpAll_mono (hid_same.trans (s1.trans s2)) hx1)) (.lst (SqL.of hq2) (dpAll_mono (hid_same.trans s2) hx2)) shaped_rows shaped_rows ?_
    rw [eqv_sh shaped_rows]
    walk_at "rd"
    exact q H3 (f1.trans (FrO.same (s1.trans s2)))
end
end PR
end

section
set_option maxHeartbeats 4000000
namespace PR
open PySem L2 PySem.Spec PyProof.Rows PySem.EX
local macro_rules | `(tactic| walk_at "st") => `(tactic| first | with_reducible exact setAt_z | with_reducible exact setAt_s (by walk_at "st"))
local macro_rules | `(tactic| walk_at "rd1") => `(tactic| first
  | walk_at "sq"
  | with_reducible refine Rd.nxE ?_
  | with_reducible refine Rd.rtE ?_
  | with_reducible refine Rd.ctE ?_
  | with_reducible refine Rd.bkE ?_
  | with_reducible refine Rd.asg ?_
  | ((with_reducible refine' Rd.gnameW ?h0 ?hs ?_); (case h0 => walk_at "wi"); (case hs => walk_at "st"))
  | ((with_reducible refine' Rd.gname ?hs ?_); (case hs => walk_at "st"))
  | with_reducible refine Rd.ifS ?_
  | with_reducible refine Rd.ret ?_
  | with_reducible refine Rd.retN ?_
  | with_reducible refine Rd.drop ?_
  | with_reducible refine Rd.next ?_
  | ((with_reducible refine' Rd.var ?hv ?_); (case hv => exact rfl))
  | with_reducible refine Rd.c ?_
  | with_reducible refine Rd.op ?_
  | with_reducible refine Rd.un ?_
  | with_reducible refine Rd.neg ?_
  | with_reducible refine Rd.i0 ?_
  | with_reducible refine Rd.test ?_
  | with_reducible refine Rd.chain ?_
  | with_reducible refine Rd.tB ?_
  | with_reducible refine Rd.bl ?_
  | with_reducible refine Rd.not ?_
  | with_reducible refine Rd.and ?_
  | with_reducible refine Rd.or ?_
  | with_reducible refine Rd.andV ?_
  | with_reducible refine Rd.orV ?_
  | with_reducible refine Rd.notV ?_
  | with_reducible refine Rd.nilA ?_
  | with_reducible refine Rd.consA ?_
  | with_reducible refine Rd.cb ?_
  | with_reducible refine Rd.int1 ?_
  | with_reducible refine Rd.abs1 ?_
  | with_reducible refine Rd.gsub ?_
  | with_reducible refine Rd.tpar ?_
  | ((with_reducible refine' Rd.par ?hs ?ht ?_); (case hs => walk_at "st"); (case ht => walk_at "st"))
  | with_reducible refine Rd.ttup ?_
  | with_reducible refine Rd.tlst ?_
  | with_reducible refine Rd.isN ?_
  | with_reducible refine Rd.call ?_
  | with_reducible refine Rd.sl ?_
  | with_reducible refine Rd.noPart ?_
  | with_reducible refine Rd.part ?_
  | with_reducible refine Rd.ex_int ?_
  | with_reducible refine Rd.bm ?_
  | with_reducible refine Rd.tfld ?_
  | with_reducible refine Rd.tforT fun TB hTB => ?_
  | with_reducible refine Rd.tlc ?_
  | with_reducible refine Rd.mk1 ?_
  | with_reducible refine Rd.tdc ?_
  | with_reducible refine Rd.sfld ?_
  | with_reducible refine Rd.methP ?_
  | with_reducible refine Rd.xf ?_

  | with_reducible refine Rd.itemP ?_
  | with_reducible refine Rd.ost ?_
  | with_reducible refine Rd.enumT ?_
  | ((with_reducible refine' Rd.enumTAt ?h1 ?_); (case h1 => walk_at "lk"))
  | with_reducible refine Rd.meth ?_
  | with_reducible refine Rd.make ?_
  | with_reducible refine Rd.prop ?_
  | with_reducible refine Rd.item ?_
  | with_reducible refine Rd.sprop ?_
  | with_reducible refine Rd.star ?_
  | ((with_reducible refine' Rd.starL ?h1 ?_); (case h1 => walk_at "lk"))
  | with_reducible refine Rd.tdget ?_
  | ((with_reducible refine' Rd.fld ?h1 ?h2 ?h3 ?h4 ?_); (case h1 => walk_at "lk"); (case h2 => walk_at "cl"); (case h3 => walk_at "na"); (case h4 => walk_at "fl"))
  | ((with_reducible refine' Rd.ty ?h1 ?_); (case h1 => walk_at "lk"))
  | with_reducible refine Rd.tyes ?_
  | with_reducible refine Rd.noN ?_
  | with_reducible refine Rd.noNr ?_
  | with_reducible refine Rd.yesN ?_
  | with_reducible refine Rd.yesI ?_
  | with_reducible refine Rd.yesR ?_
  | with_reducible refine Rd.noNN ?_
  | with_reducible refine Rd.yes rfl ?_
  | with_reducible refine Rd.no Bool.false_ne_true ?_
  | ((with_reducible refine' Rd.wp ?h1 ?_); (case h1 => exact rfl))
  | ((with_reducible refine' Rd.isi ?h1 ?h2 ?_); (case h1 => walk_at "lk"); (case h2 => first | exact kit_int (dp_nodict (by with_reducible assumption)) | exact kit_bool (dp_nodict (by with_reducible assumption))))
  | with_reducible refine Rd.enum ?_
  | ((with_reducible refine' Rd.enumAt ?h1 ?_); (case h1 => walk_at "lk"))
  | with_reducible refine Rd.rng1 ?_
  | with_reducible refine Rd.rng2 ?_
  | with_reducible refine Rd.ilist ?_
  | with_reducible refine Rd.itup ?_
  | ((with_reducible refine' Rd.ilistAt ?h1 ?_); (case h1 => walk_at "lk"))
  | ((with_reducible refine' Rd.itupAt ?h1 ?_); (case h1 => walk_at "lk"))
  | ((with_reducible refine' Rd.slL ?h1 (fun q H1 nq sq hq => ?_)); (case h1 => walk_at "lk"))
  | with_reducible refine Rd.gcons ?_
  | with_reducible refine Rd.gnil ?_
  | ((with_reducible refine' Rd.gtup ?h1 ?h2 ?_); (case h1 => walk_at "lk"); (case h2 => exact rfl))
  | ((with_reducible refine' Rd.lenL ?h1 ?_); (case h1 => walk_at "lk"))
  | ((with_reducible refine' Rd.lenT ?h1 ?_); (case h1 => walk_at "lk"))
  | ((with_reducible refine' Rd.ixA ?h1 ?h2 ?_); (case h1 => walk_at "lk"); (case h2 => exact rfl))
  | ((with_reducible refine' Rd.ixB ?h1 ?h2 ?_); (case h1 => walk_at "lk"); (case h2 => exact rfl))
  | ((with_reducible refine' Rd.ixL ?h1 ?h2 ?_); (case h1 => walk_at "lk"); (case h2 => exact rfl))
  | ((with_reducible refine' Rd.newAt ?h1 (fun p H1 np sp hp => ?_)); (case h1 => exact sz_small (Nat.le_of_ble_eq_true rfl)))
  | ((with_reducible refine' Rd.ic ?h1 ?_); (case h1 => walk_at "sd"))
  | ((with_reducible refine' Rd.setL ?h1 ?h2 ?h3 ?_); (case h1 => walk_at "lk"); (case h2 => exact rfl); (case h3 => walk_at "st")))
local macro_rules | `(tactic| walk_at "rd") => `(tactic| repeat walk_at "rd1")
local macro_rules | `(tactic| walk_at "lk") => `(tactic| first
  | with_reducible assumption
  | exact upd_same
  | exact SqL.of upd_same
  | exact SqT.of upd_same
  | exact SqL.of (by with_reducible assumption)
  | exact SqT.of (by with_reducible assumption)
  | ((with_reducible refine' same_get ?lks ?lkh); (case lks => with_reducible assumption); (case lkh => walk_at "lk"))
  | ((with_reducible refine' Same.seq ?lks ?lkh); (case lks => with_reducible assumption); (case lkh => walk_at "lk"))
  | ((with_reducible refine' sqT_mono ?lks ?lkh); (case lks => with_reducible assumption); (case lkh => walk_at "lk"))
  | ((with_reducible refine' dp_mono ?lks ?lkh); (case lks => with_reducible assumption); (case lkh => walk_at "lk")))
local macro_rules | `(tactic| walk_at "sd") => `(tactic| first
  | with_reducible assumption
  | decide
  | omega
  | exact Or.inl ⟨by decide, by decide⟩
  | exact ⟨by decide, by decide, by decide⟩
  | exact Or.inr ⟨by decide, by decide⟩
  | exact Or.inl ⟨by omega, by omega⟩
  | exact wide_div (by decide) (by decide : _ < 2 ^ 200) (by decide) (by decide)
  | exact wide_div (by with_reducible assumption) (by assumption : _ < 2 ^ 200) (by decide) (by decide))

local macro_rules | `(tactic| walk_at "cl") => `(tactic| first | exact ct_k (by with_reducible assumption) | exact cl_Tree (by with_reducible assumption) | exact cl_Spot (by with_reducible assumption) | exact cl_Edit (by with_reducible assumption))
local macro_rules | `(tactic| walk_at "na") => `(tactic| first | exact ct_rows (by with_reducible assumption) | exact ct_left (by with_reducible assumption) | exact na_rows (by with_reducible assumption) | exact na_left (by with_reducible assumption) | exact na_tree (by with_reducible assumption) | exact na_key (by with_reducible assumption) | exact na_etree (by with_reducible assumption) | exact na_saved (by with_reducible assumption))
local macro_rules | `(tactic| walk_at "fl") => `(tactic| first | exact lk_head | exact lk_second (by decide +kernel))
local macro_rules | `(tactic| walk_at "wi") => `(tactic| first | (simp only [wipe, List.map_cons, List.map_nil, List.set_cons_succ, List.set_cons_zero]; done) | (simp only [wipe, List.map_cons, List.map_nil, List.set_cons_succ, List.set_cons_zero]; exact rfl))

set_option hygiene false in
local macro_rules | `(tactic| walk_at "sq") => `(tactic| with_reducible refine Rd.seqT fun S2 hS2 => ?_)
set_option hygiene false in
local macro_rules | `(tactic| walk_at "nx") => `(tactic| subst hS2)

section
variable {P : Program} {w : World} {K : PySem.W.Frag} {mg : Str → Option Value} {base : Heap} {A : Ad} {L : AdL} {C fp fa : Addr} {b : Bool}
open L2H HotX
theorem RunR.why {rows : List Row} {ms : List (PyData × PyData)} {j : Nat} {o : Out} (h : RunR rows ms j o) : ∀ {i : Nat} {why : Str}, o = .bad i why → why = "key" ∨ why = "ring" := by
  induction h with
  | nil => intro i why e; cases e
  | ok _ _ ih => intro i why e; exact ih e
  | key _ => intro i why e; cases e; exact .inl rfl
  | ring _ => intro i why e; cases e; exact .inr rfl
theorem shaped_due {n : Int} {why : Str} (h : why = "key" ∨ why = "ring") : SeqAt.shaped (.list [.int n, .str why, .bool true]) = true := by
  refine shaped_of (n := 1) (shN_list (n := 0) fun d hd => ?_) (by decide)
  rcases List.mem_cons.mp hd with e | hd
  · rw [e]; exact ⟨by simp [PyData.canLay0], by simp [PyData.depth]⟩
  rcases List.mem_cons.mp hd with e | hd
  · rw [e]
    rcases h with rfl | rfl
    · exact ⟨by simp only [PyData.canLay0]; decide +kernel, by simp [PyData.depth]⟩
    · exact ⟨by simp only [PyData.canLay0]; decide +kernel, by simp [PyData.depth]⟩
  rcases List.mem_cons.mp hd with e | hd
  · rw [e]; exact ⟨by simp [PyData.canLay0], by simp [PyData.depth]⟩
  · cases hd
/-- the moves at once, asked -/
def spAsk (K : PySem.W.Frag) (CT C : Addr) (b : Bool) : TS := fun D σ H => ∃ (a0 a1 a2 a3 a4 a5 a6 a9 a10 a11 a12 a13 a15 a17 a18 a19 a20 a21 : Option V) (t o p M : Addr) (due : V) (S : List Addr) (og : Option Addr) (dx : Addr) (l : V) (dx' : Addr) (l' : V) (rows R : List Row) (log : List PyData) (xs : List V) (ms : List (PyData × PyData)) (out : Out),
  σ = [a0, a1, a2, a3, a4, a5, a6, some (.ref t), some (.ref o), a9, a10, a11, a12, a13, some (.ref M), a15, some due, a17, a18, a19, a20, a21] ∧ TwoT K CT C b S p t o og dx l dx' l' H rows R log ∧ Tr rows ∧ rows.length ≤ 1000 ∧ log.length ≤ 1000 ∧
  M ∉ og.toList ∧ H M = some (.lst xs) ∧ MovesAt K (hid og.toList H) xs ms ∧ ms.length ≤ 5 ∧ RunR rows ms 0 out ∧ (∀ j why, out = .bad j why → DueAt (hid og.toList H) (some (j, why)) due) ∧ (∀ R', out = .ok R' → due = .non) ∧
  (∀ R' H', out = .ok R' → FrO t og H H' → StAt K S C dx l og H' t R' (logAll log ms og) → D.nx [a0, a1, a2, a3, a4, a5, a6, some (.ref t), some (.ref o), a9, a10, a11, a12, a13, some (.ref M), a15, some due, a17, a18, a19, a20, a21] H') ∧
  (∀ j why H' og', out = .bad j why → og'.isSome = b → FrP t og og' H H' → StAt K (newO og og' S) C dx l og' H' t rows log → D.nx [a0, a1, a2, a3, a4, a5, a6, some (.ref t), some (.ref o), a9, a10, a11, a12, a13, some (.ref M), a15, some due, a17, a18, a19, a20, a21] H')
theorem blk_ask (T : TxtL P K mg A L) (F : ClsF P w K base mg A C b fp fa) {f : Addr} {cdv : Value} {Ar : Around} {outer : List Env} {s0 : Shared} {Hz : Hp} {E : XK} (hr : Room 14 (LX P w K mg base f cdv Ar outer s0 Hz E).A) :
    PS (LX P w K mg base f cdv Ar outer s0 Hz E) (nthS (fB (nthS (fB (nthS (defBody s_law) 0)) 1)) 8) (spAsk K A.c_Tree C b) := by
  have G__law_moves := ok_moves (P := P) (w := w) (base := base) T F
  have b__law_moves := T.F__law_moves.binds (ps := ["_law_tree", "_law_some"]) fun _ _ _ _ _ _ us hl => match us, hl with | [_, _], _ => rfl
  have hu1 := hu65 hr
  refine PS.weak (ps_if (pt_cmpR (Kx.op_neD (K := K) rfl hu1) (pe_call G__law_moves (hr.mono (by decide)) rfl T.g__law_moves T.F__law_moves.kp b__law_moves .nil passX (pa_cons (pv 7) (pa_cons (pe_callTy (Kx.call_list_of (K := K) rfl) (by rfl) T.n_list (by decide +kernel) (pa_cons (pv 14) pa_nil)) pa_nil))) (pv 16) (nomark _)) (pss_one (ps_ret pe_bl)) pss_nil) (fun D σ H9 hh => ?_)
  obtain ⟨dn, dr, db, dc⟩ := D
  obtain ⟨a0, a1, a2, a3, a4, a5, a6, a9, a10, a11, a12, a13, a15, a17, a18, a19, a20, a21, t, o, p, M, due, S, og, dx, l, dx', l', rows, R, log, xs, ms, out, rfl, tw, htr, hrl, hll, nM, hM, hms, hm5, hrun, hbad, hok, q1, q2⟩ := hh
  try dsimp only [cxOf]
  walk_at "rd"
  refine ⟨M, xs, rfl, .inl (SqL.of hM), fun M2 n1 => ?_⟩
  have s1 : Same H9 (upd H9 M2 (.lst xs)) := same_upd n1
  have hM2 : upd H9 M2 (.lst xs) M2 = some (.lst xs) := upd_same
  generalize upd H9 M2 (.lst xs) = H1 at s1 hM2
  walk_at "rd"
  refine ⟨t, M2, xs, ms, S, dx, l, og, rows, log, out, rfl, tw.hb, SqL.of hM2, moves_mono (Same.hid s1) hms, hm5, tw.st.mono s1, htr, hrl, hll, hrun, fun rows' H2 eo f1 st1 => ?_, fun j why H2 og' r eo hb' f1 st1 hr2 => ?_⟩
  · have hdue := hok rows' eo
    subst hdue
    walk_at "rd"
    refine Rd.neD (d := .none) (e := .none) .non .non shaped_none shaped_none ?_
    rw [eqv_sh shaped_none]
    walk_at "rd"
    exact q1 rows' H2 eo ((FrO.same s1).trans f1) st1
  · obtain ⟨D0, rfl, hD0⟩ := hbad j why eo
    have hw := hrun.why eo
    have fP : FrP t og og' H9 H2 := fun c x n e => f1 c x n (Same.hid s1 c x e)
    have hDt : D0 ≠ t := fun z => by
      obtain ⟨_, a, e, _⟩ := tw.st.1
      rw [z] at hD0
      have := (hid_some hD0).1
      rw [e] at this
      cases this
    have hD2 : H2 D0 = some (.lst [.int (j : Nat), .str why, .bl true]) := (hid_some (fP D0 _ hDt hD0)).1
    have dl : ∀ {r : Addr}, H2 r = some (.lst [.int (j : Nat), .str why, .bl true]) → Dp K H2 (.ref r) (.list [.int (j : Nat), .str why, .bool true]) := fun h => .lst (SqL.of h) (.cons (.int _) (.cons (.str _) (.cons (.bl _) .nil)))
    walk_at "rd"
    refine Rd.neD (dl hr2) (dl hD2) (shaped_due hw) (shaped_due hw) ?_
    rw [eqv_sh (shaped_due hw)]
    walk_at "rd"
    exact q2 j why H2 og' eo hb' fP st1
end
end PR
end

section
set_option maxHeartbeats 4000000
namespace PR
open PySem L2 PySem.Spec PyProof.Rows PySem.EX
local macro_rules | `(tactic| walk_at "st") => `(tactic| first | with_reducible exact setAt_z | with_reducible exact setAt_s (by walk_at "st"))
local macro_rules | `(tactic| walk_at "rd1") => `(tactic| first
  | walk_at "sq"
  | with_reducible refine Rd.nxE ?_
  | with_reducible refine Rd.rtE ?_
  | with_reducible refine Rd.ctE ?_
  | with_reducible refine Rd.bkE ?_
  | with_reducible refine Rd.asg ?_
  | ((with_reducible refine' Rd.gnameW ?h0 ?hs ?_); (case h0 => walk_at "wi"); (case hs => walk_at "st"))
  | ((with_reducible refine' Rd.gname ?hs ?_); (case hs => walk_at "st"))
  | with_reducible refine Rd.ifS ?_
  | with_reducible refine Rd.ret ?_
  | with_reducible refine Rd.retN ?_
  | with_reducible refine Rd.drop ?_
  | with_reducible refine Rd.next ?_
  | ((with_reducible refine' Rd.var ?hv ?_); (case hv => exact rfl))
  | with_reducible refine Rd.c ?_
  | with_reducible refine Rd.op ?_
  | with_reducible refine Rd.un ?_
  | with_reducible refine Rd.neg ?_
  | with_reducible refine Rd.i0 ?_
  | with_reducible refine Rd.test ?_
  | with_reducible refine Rd.chain ?_
  | with_reducible refine Rd.tB ?_
  | with_reducible refine Rd.bl ?_
  | with_reducible refine Rd.not ?_
  | with_reducible refine Rd.and ?_
  | with_reducible refine Rd.or ?_
  | with_reducible refine Rd.andV ?_
  | with_reducible refine Rd.orV ?_
  | with_reducible refine Rd.notV ?_
  | with_reducible refine Rd.nilA ?_
  | with_reducible refine Rd.consA ?_
  | with_reducible refine Rd.cb ?_
  | with_reducible refine Rd.int1 ?_
  | with_reducible refine Rd.abs1 ?_
  | with_reducible refine Rd.gsub ?_
  | with_reducible refine Rd.tpar ?_
  | ((with_reducible refine' Rd.par ?hs ?ht ?_); (case hs => walk_at "st"); (case ht => walk_at "st"))
  | with_reducible refine Rd.ttup ?_
  | with_reducible refine Rd.tlst ?_
  | with_reducible refine Rd.isN ?_
  | with_reducible refine Rd.call ?_
  | with_reducible refine Rd.sl ?_
  | with_reducible refine Rd.noPart ?_
  | with_reducible refine Rd.part ?_
  | with_reducible refine Rd.ex_int ?_
  | with_reducible refine Rd.bm ?_
  | with_reducible refine Rd.tfld ?_
  | with_reducible refine Rd.tforT fun TB hTB => ?_
  | with_reducible refine Rd.tlc ?_
  | with_reducible refine Rd.mk1 ?_
  | with_reducible refine Rd.tdc ?_
  | with_reducible refine Rd.sfld ?_
  | with_reducible refine Rd.methP ?_
  | with_reducible refine Rd.xf ?_

  | with_reducible refine Rd.itemP ?_
  | with_reducible refine Rd.ost ?_
  | with_reducible refine Rd.enumT ?_
  | ((with_reducible refine' Rd.enumTAt ?h1 ?_); (case h1 => walk_at "lk"))
  | with_reducible refine Rd.meth ?_
  | with_reducible refine Rd.make ?_
  | with_reducible refine Rd.prop ?_
  | with_reducible refine Rd.item ?_
  | with_reducible refine Rd.sprop ?_
  | with_reducible refine Rd.star ?_
  | ((with_reducible refine' Rd.starL ?h1 ?_); (case h1 => walk_at "lk"))
  | with_reducible refine Rd.tdget ?_
  | ((with_reducible refine' Rd.fld ?h1 ?h2 ?h3 ?h4 ?_); (case h1 => walk_at "lk"); (case h2 => walk_at "cl"); (case h3 => walk_at "na"); (case h4 => walk_at "fl"))
  | ((with_reducible refine' Rd.ty ?h1 ?_); (case h1 => walk_at "lk"))
  | with_reducible refine Rd.tyes ?_
  | with_reducible refine Rd.noN ?_
  | with_reducible refine Rd.noNr ?_
  | with_reducible refine Rd.yesN ?_
  | with_reducible refine Rd.yesI ?_
  | with_reducible refine Rd.yesR ?_
  | with_reducible refine Rd.noNN ?_
  | with_reducible refine Rd.yes rfl ?_
  | with_reducible refine Rd.no Bool.false_ne_true ?_
  | ((with_reducible refine' Rd.wp ?h1 ?_); (case h1 => exact rfl))
  | ((with_reducible refine' Rd.isi ?h1 ?h2 ?_); (case h1 => walk_at "lk"); (case h2 => first | exact kit_int (dp_nodict (by with_reducible assumption)) | exact kit_bool (dp_nodict (by with_reducible assumption))))
  | with_reducible refine Rd.enum ?_
  | ((with_reducible refine' Rd.enumAt ?h1 ?_); (case h1 => walk_at "lk"))
  | with_reducible refine Rd.rng1 ?_
  | with_reducible refine Rd.rng2 ?_
  | with_reducible refine Rd.ilist ?_
  | with_reducible refine Rd.itup ?_
  | ((with_reducible refine' Rd.ilistAt ?h1 ?_); (case h1 => walk_at "lk"))
  | ((with_reducible refine' Rd.itupAt ?h1 ?_); (case h1 => walk_at "lk"))
  | ((with_reducible refine' Rd.slL ?h1 (fun q H1 nq sq hq => ?_)); (case h1 => walk_at "lk"))
  | with_reducible refine Rd.gcons ?_
  | with_reducible refine Rd.gnil ?_
  | ((with_reducible refine' Rd.gtup ?h1 ?h2 ?_); (case h1 => walk_at "lk"); (case h2 => exact rfl))
  | ((with_reducible refine' Rd.lenL ?h1 ?_); (case h1 => walk_at "lk"))
  | ((with_reducible refine' Rd.lenT ?h1 ?_); (case h1 => walk_at "lk"))
  | ((with_reducible refine' Rd.ixA ?h1 ?h2 ?_); (case h1 => walk_at "lk"); (case h2 => exact rfl))
  | ((with_reducible refine' Rd.ixB ?h1 ?h2 ?_); (case h1 => walk_at "lk"); (case h2 => exact rfl))
  | ((with_reducible refine' Rd.ixL ?h1 ?h2 ?_); (case h1 => walk_at "lk"); (case h2 => exact rfl))
  | ((with_reducible refine' Rd.newAt ?h1 (fun p H1 np sp hp => ?_)); (case h1 => exact sz_small (Nat.le_of_ble_eq_true rfl)))
  | ((with_reducible refine' Rd.ic ?h1 ?_); (case h1 => walk_at "sd"))
  | ((with_reducible refine' Rd.setL ?h1 ?h2 ?h3 ?_); (case h1 => walk_at "lk"); (case h2 => exact rfl); (case h3 => walk_at "st")))
local macro_rules | `(tactic| walk_at "rd") => `(tactic| repeat walk_at "rd1")
local macro_rules | `(tactic| walk_at "lk") => `(tactic| first
  | with_reducible assumption
  | exact upd_same
  | exact SqL.of upd_same
  | exact SqT.of upd_same
  | exact SqL.of (by with_reducible assumption)
  | exact SqT.of (by with_reducible assumption)
  | ((with_reducible refine' same_get ?lks ?lkh); (case lks => with_reducible assumption); (case lkh => walk_at "lk"))
  | ((with_reducible refine' Same.seq ?lks ?lkh); (case lks => with_reducible assumption); (case lkh => walk_at "lk"))
  | ((with_reducible refine' sqT_mono ?lks ?lkh); (case lks => with_reducible assumption); (case lkh => walk_at "lk"))
  | ((with_reducible refine' dp_mono ?lks ?lkh); (case lks => with_reducible assumption); (case lkh => walk_at "lk")))
local macro_rules | `(tactic| walk_at "sd") => `(tactic| first
  | with_reducible assumption
  | decide
  | omega
  | exact Or.inl ⟨by decide, by decide⟩
  | exact ⟨by decide, by decide, by decide⟩
  | exact Or.inr ⟨by decide, by decide⟩
  | exact Or.inl ⟨by omega, by omega⟩
  | exact wide_div (by decide) (by decide : _ < 2 ^ 200) (by decide) (by decide)
  | exact wide_div (by with_reducible assumption) (by assumption : _ < 2 ^ 200) (by decide) (by decide))

local macro_rules | `(tactic| walk_at "cl") => `(tactic| first | exact ct_k (by with_reducible assumption) | exact cl_Tree (by with_reducible assumption) | exact cl_Spot (by with_reducible assumption) | exact cl_Edit (by with_reducible assumption))
local macro_rules | `(tactic| walk_at "na") => `(tactic| first | exact ct_rows (by with_reducible assumption) | exact ct_left (by with_reducible assumption) | exact na_rows (by with_reducible assumption) | exact na_left (by with_reducible assumption) | exact na_tree (by with_reducible assumption) | exact na_key (by with_reducible assumption) | exact na_etree (by with_reducible assumption) | exact na_saved (by with_reducible assumption))
local macro_rules | `(tactic| walk_at "fl") => `(tactic| first | exact lk_head | exact lk_second (by decide +kernel))
local macro_rules | `(tactic| walk_at "wi") => `(tactic| first | (simp only [wipe, List.map_cons, List.map_nil, List.set_cons_succ, List.set_cons_zero]; done) | (simp only [wipe, List.map_cons, List.map_nil, List.set_cons_succ, List.set_cons_zero]; exact rfl))

set_option hygiene false in
local macro_rules | `(tactic| walk_at "sq") => `(tactic| with_reducible refine Rd.seqT fun S2 hS2 => ?_)
set_option hygiene false in
local macro_rules | `(tactic| walk_at "nx") => `(tactic| subst hS2)

section
variable {P : Program} {w : World} {K : PySem.W.Frag} {mg : Str → Option Value} {base : Heap} {A : Ad} {L : AdL} {C fp fa : Addr} {b : Bool}
open L2H HotX
/-- the log as it stands ahead of the moves -/
def spLg (K : PySem.W.Frag) (C : Addr) (b : Bool) : TS := fun D σ H => ∃ (a0 a1 a2 a3 a4 a5 a8 a9 a10 a11 a12 a13 a14 a15 a16 a17 a18 a19 a20 a21 : Option V) (t : Addr) (S : List Addr) (og : Option Addr) (dx : Addr) (l : V) (rows : List Row) (log : List PyData),
  σ = [a0, a1, a2, a3, a4, a5, some (.bl b), some (.ref t), a8, a9, a10, a11, a12, a13, a14, a15, a16, a17, a18, a19, a20, a21] ∧ og.isSome = b ∧ StAt K S C dx l og H t rows log ∧ (b = true → NoAttr K C "log") ∧ Cls K C ∧
  ∀ H' N ys, H N = none → Same H H' → H' N = some (.lst ys) → DpAll K (hid S H) ys log → D.nx [a0, a1, a2, a3, a4, a5, some (.bl b), some (.ref t), a8, a9, a10, a11, a12, a13, a14, a15, a16, a17, a18, a19, a20, some (.ref N)] H'
theorem blk_lg (T : TxtL P K mg A L) {f : Addr} {cdv : Value} {Ar : Around} {outer : List Env} {s0 : Shared} {Hz : Hp} {E : XK} (hr : Room 14 (LX P w K mg base f cdv Ar outer s0 Hz E).A) :
    PS (LX P w K mg base f cdv Ar outer s0 Hz E) (nthS (fB (nthS (fB (nthS (defBody s_law) 0)) 1)) 7) (spLg K C b) := by
  have hu1 := hu65 hr
  refine PS.weak (ps_set (i := 21) sc_law.nd rfl (by first | exact Or.inl rfl | exact Or.inr rfl) (pe_ifExp (pt_val (pv 6)) (pe_callTy (Kx.call_list_of (K := K) rfl) (by rfl) T.n_list (by decide +kernel) (pa_cons (Kx.pe_fld (K := K) rfl (pv 7) rfl) pa_nil)) (pe_lst pa_nil))) (fun D σ H9 hh => ?_)
  obtain ⟨dn, dr, db, dc⟩ := D
  obtain ⟨a0, a1, a2, a3, a4, a5, a8, a9, a10, a11, a12, a13, a14, a15, a16, a17, a18, a19, a20, a21, t, S, og, dx, l, rows, log, rfl, hb, hS, hna, hc, q⟩ := hh
  try dsimp only [cxOf]
  walk_at "rd"
  refine Rd.ifE ?_
  cases og with
  | none =>
    obtain rfl : b = false := hb.symm
    walk_at "rd"
    rename_i N H1 nN sN hN
    refine q H1 N [] nN sN hN ?_
    rw [hS.ln rfl]
    exact .nil
  | some g =>
    obtain rfl : b = true := hb.symm
    obtain ⟨hrest, a, ht, hR⟩ := id hS.1
    obtain ⟨ng, lx, hg, hlx⟩ := hS.lg g rfl
    walk_at "rd"
    refine Rd.fld ht hc (hna rfl) lk_log ?_
    walk_at "rd"
    refine ⟨g, lx, rfl, .inl (SqL.of hg), fun gn hn => ?_⟩
    walk_at "rd"
    exact q _ gn lx hn (same_upd hn) upd_same hlx
end
end PR
end

section
set_option maxHeartbeats 4000000
namespace PR
open PySem L2 PySem.Spec PyProof.Rows PySem.EX
local macro_rules | `(tactic| walk_at "st") => `(tactic| first | with_reducible exact setAt_z | with_reducible exact setAt_s (by walk_at "st"))
local macro_rules | `(tactic| walk_at "rd1") => `(tactic| first
  | walk_at "sq"
  | with_reducible refine Rd.nxE ?_
  | with_reducible refine Rd.rtE ?_
  | with_reducible refine Rd.ctE ?_
  | with_reducible refine Rd.bkE ?_
  | with_reducible refine Rd.asg ?_
  | ((with_reducible refine' Rd.gnameW ?h0 ?hs ?_); (case h0 => walk_at "wi"); (case hs => walk_at "st"))
  | ((with_reducible refine' Rd.gname ?hs ?_); (case hs => walk_at "st"))
  | with_reducible refine Rd.ifS ?_
  | with_reducible refine Rd.ret ?_
  | with_reducible refine Rd.retN ?_
  | with_reducible refine Rd.drop ?_
  | with_reducible refine Rd.next ?_
  | ((with_reducible refine' Rd.var ?hv ?_); (case hv => exact rfl))
  | with_reducible refine Rd.c ?_
  | with_reducible refine Rd.op ?_
  | with_reducible refine Rd.un ?_
  | with_reducible refine Rd.neg ?_
  | with_reducible refine Rd.i0 ?_
  | with_reducible refine Rd.test ?_
  | with_reducible refine Rd.chain ?_
  | with_reducible refine Rd.tB ?_
  | with_reducible refine Rd.bl ?_
  | with_reducible refine Rd.not ?_
  | with_reducible refine Rd.and ?_
  | with_reducible refine Rd.or ?_
  | with_reducible refine Rd.andV ?_
  | with_reducible refine Rd.orV ?_
  | with_reducible refine Rd.notV ?_
  | with_reducible refine Rd.nilA ?_
  | with_reducible refine Rd.consA ?_
  | with_reducible refine Rd.cb ?_
  | with_reducible refine Rd.int1 ?_
  | with_reducible refine Rd.abs1 ?_
  | with_reducible refine Rd.gsub ?_
  | with_reducible refine Rd.tpar ?_
  | ((with_reducible refine' Rd.par ?hs ?ht ?_); (case hs => walk_at "st"); (case ht => walk_at "st"))
  | with_reducible refine Rd.ttup ?_
  | with_reducible refine Rd.tlst ?_
  | with_reducible refine Rd.isN ?_
  | with_reducible refine Rd.call ?_
  | with_reducible refine Rd.sl ?_
  | with_reducible refine Rd.noPart ?_
  | with_reducible refine Rd.part ?_
  | with_reducible refine Rd.ex_int ?_
  | with_reducible refine Rd.bm ?_
  | with_reducible refine Rd.tfld ?_
  | with_reducible refine Rd.tforT fun TB hTB => ?_
  | with_reducible refine Rd.tlc ?_
  | with_reducible refine Rd.mk1 ?_
  | with_reducible refine Rd.tdc ?_
  | with_reducible refine Rd.sfld ?_
  | with_reducible refine Rd.methP ?_
  | with_reducible refine Rd.xf ?_

  | with_reducible refine Rd.itemP ?_
  | with_reducible refine Rd.ost ?_
  | with_reducible refine Rd.enumT ?_
  | ((with_reducible refine' Rd.enumTAt ?h1 ?_); (case h1 => walk_at "lk"))
  | with_reducible refine Rd.meth ?_
  | with_reducible refine Rd.make ?_
  | with_reducible refine Rd.prop ?_
  | with_reducible refine Rd.item ?_
  | with_reducible refine Rd.sprop ?_
  | with_reducible refine Rd.star ?_
  | ((with_reducible refine' Rd.starL ?h1 ?_); (case h1 => walk_at "lk"))
  | with_reducible refine Rd.tdget ?_
  | ((with_reducible refine' Rd.fld ?h1 ?h2 ?h3 ?h4 ?_); (case h1 => walk_at "lk"); (case h2 => walk_at "cl"); (case h3 => walk_at "na"); (case h4 => walk_at "fl"))
  | ((with_reducible refine' Rd.ty ?h1 ?_); (case h1 => walk_at "lk"))
  | with_reducible refine Rd.tyes ?_
  | with_reducible refine Rd.noN ?_
  | with_reducible refine Rd.noNr ?_
  | with_reducible refine Rd.yesN ?_
  | with_reducible refine Rd.yesI ?_
  | with_reducible refine Rd.yesR ?_
  | with_reducible refine Rd.noNN ?_
  | with_reducible refine Rd.yes rfl ?_
  | with_reducible refine Rd.no Bool.false_ne_true ?_
  | ((with_reducible refine' Rd.wp ?h1 ?_); (case h1 => exact rfl))
  | ((with_reducible refine' Rd.isi ?h1 ?h2 ?_); (case h1 => walk_at "lk"); (case h2 => first | exact kit_int (dp_nodict (by with_reducible assumption)) | exact kit_bool (dp_nodict (by with_reducible assumption))))
  | with_reducible refine Rd.enum ?_
  | ((with_reducible refine' Rd.enumAt ?h1 ?_); (case h1 => walk_at "lk"))
  | with_reducible refine Rd.rng1 ?_
  | with_reducible refine Rd.rng2 ?_
  | with_reducible refine Rd.ilist ?_
  | with_reducible refine Rd.itup ?_
  | ((with_reducible refine' Rd.ilistAt ?h1 ?_); (case h1 => walk_at "lk"))
  | ((with_reducible refine' Rd.itupAt ?h1 ?_); (case h1 => walk_at "lk"))
  | ((with_reducible refine' Rd.slL ?h1 (fun q H1 nq sq hq => ?_)); (case h1 => walk_at "lk"))
  | with_reducible refine Rd.gcons ?_
  | with_reducible refine Rd.gnil ?_
  | ((with_reducible refine' Rd.gtup ?h1 ?h2 ?_); (case h1 => walk_at "lk"); (case h2 => exact rfl))
  | ((with_reducible refine' Rd.lenL ?h1 ?_); (case h1 => walk_at "lk"))
  | ((with_reducible refine' Rd.lenT ?h1 ?_); (case h1 => walk_at "lk"))
  | ((with_reducible refine' Rd.ixA ?h1 ?h2 ?_); (case h1 => walk_at "lk"); (case h2 => exact rfl))
  | ((with_reducible refine' Rd.ixB ?h1 ?h2 ?_); (case h1 => walk_at "lk"); (case h2 => exact rfl))
  | ((with_reducible refine' Rd.ixL ?h1 ?h2 ?_); (case h1 => walk_at "lk"); (case h2 => exact rfl))
  | ((with_reducible refine' Rd.newAt ?h1 (fun p H1 np sp hp => ?_)); (case h1 => exact sz_small (Nat.le_of_ble_eq_true rfl)))
  | ((with_reducible refine' Rd.ic ?h1 ?_); (case h1 => walk_at "sd"))
  | ((with_reducible refine' Rd.setL ?h1 ?h2 ?h3 ?_); (case h1 => walk_at "lk"); (case h2 => exact rfl); (case h3 => walk_at "st")))
local macro_rules | `(tactic| walk_at "rd") => `(tactic| repeat walk_at "rd1")
local macro_rules | `(tactic| walk_at "lk") => `(tactic| first
  | with_reducible assumption
  | exact upd_same
  | exact SqL.of upd_same
  | exact SqT.of upd_same
  | exact SqL.of (by with_reducible assumption)
  | exact SqT.of (by with_reducible assumption)
  | ((with_reducible refine' same_get ?lks ?lkh); (case lks => with_reducible assumption); (case lkh => walk_at "lk"))
  | ((with_reducible refine' Same.seq ?lks ?lkh); (case lks => with_reducible assumption); (case lkh => walk_at "lk"))
  | ((with_reducible refine' sqT_mono ?lks ?lkh); (case lks => with_reducible assumption); (case lkh => walk_at "lk"))
  | ((with_reducible refine' dp_mono ?lks ?lkh); (case lks => with_reducible assumption); (case lkh => walk_at "lk")))
local macro_rules | `(tactic| walk_at "sd") => `(tactic| first
  | with_reducible assumption
  | decide
  | omega
  | exact Or.inl ⟨by decide, by decide⟩
  | exact ⟨by decide, by decide, by decide⟩
  | exact Or.inr ⟨by decide, by decide⟩
  | exact Or.inl ⟨by omega, by omega⟩
  | exact wide_div (by decide) (by decide : _ < 2 ^ 200) (by decide) (by decide)
  | exact wide_div (by with_reducible assumption) (by assumption : _ < 2 ^ 200) (by decide) (by decide))

local macro_rules | `(tactic| walk_at "cl") => `(tactic| first | exact ct_k (by with_reducible assumption) | exact cl_Tree (by with_reducible assumption) | exact cl_Spot (by with_reducible assumption) | exact cl_Edit (by with_reducible assumption))
local macro_rules | `(tactic| walk_at "na") => `(tactic| first | exact ct_rows (by with_reducible assumption) | exact ct_left (by with_reducible assumption) | exact na_rows (by with_reducible assumption) | exact na_left (by with_reducible assumption) | exact na_tree (by with_reducible assumption) | exact na_key (by with_reducible assumption) | exact na_etree (by with_reducible assumption) | exact na_saved (by with_reducible assumption))
local macro_rules | `(tactic| walk_at "fl") => `(tactic| first | exact lk_head | exact lk_second (by decide +kernel))
local macro_rules | `(tactic| walk_at "wi") => `(tactic| first | (simp only [wipe, List.map_cons, List.map_nil, List.set_cons_succ, List.set_cons_zero]; done) | (simp only [wipe, List.map_cons, List.map_nil, List.set_cons_succ, List.set_cons_zero]; exact rfl))

set_option hygiene false in
local macro_rules | `(tactic| walk_at "sq") => `(tactic| with_reducible refine Rd.seqT fun S2 hS2 => ?_)
set_option hygiene false in
local macro_rules | `(tactic| walk_at "nx") => `(tactic| subst hS2)

section
variable {J : It} {n : Nat} {G : Hp → Prop} {Y : Nat → Hp → V → Hp → Prop} {g : TG} {tt : TT} {te : TE} {vs : List Nat} {σ : L2.St} {H : Hp} {D : Addr} {Qd : Hp → Prop} {K : PySem.W.Frag} {S : List Addr}
/-- elements that are data and don't lean on the places S -/
theorem lcDS (w : Walk J n G Y) (out : Nat → Option PyData) (hD : H D = none) (hn : n < sizeLine) (okS : OkS S H) (hG : ∀ H2, Same H H2 → G H2)
    (step : ∀ i x H1 H2, i < n → Same H H1 → Y i H1 x H2 → Same H1 H2 ∧ ∀ (yes : V → Hp → Prop) (no : Hp → Prop), (∀ y d H3, out i = some d → Same H2 H3 → Dp K (hid (D :: S) H3) y d → yes y H3) → (∀ H3, out i = none → Same H2 H3 → no H3) → OkS (D :: S) H2 →
      g x (wipe σ vs) H2 fun σ2 H3 => wipe σ2 vs = wipe σ vs ∧ tt σ2 H3 fun b H4 => if b = true then te σ2 H4 yes else no H4)
    (hQ : ∀ H' ys, Same H H' → H' D = some (.lst ys) → DpAll K (hid (D :: S) H') ys ((List.range n).filterMap out) → Qd H') :
    LcAt J H D g tt te vs σ Qd := by
  refine lc_it w (fun i H2 => Same H H2 ∧ ∃ ys, H2 D = some (.lst ys) ∧ DpAll K (hid (D :: S) H2) ys ((List.range i).filterMap out)) ⟨same_upd hD, [], upd_same, .nil⟩ (fun i H2 _ p => hG H2 p.1) ?_
    (fun H2 ⟨p1, ys, p2, p3⟩ => hQ H2 ys p1 p2 p3)
  rintro i x H1 H2 hi ⟨s1, ys, e1, dy⟩ y
  obtain ⟨s2, st⟩ := step i x H1 H2 hi s1 y
  have e2 := s2 _ _ e1
  have ok2 : OkS (D :: S) H2 := (okS.same (s1.trans s2)).cons e2
  have fr : ∀ {H3 : Hp} {o : HO}, Same H2 H3 → Same H (upd H3 D o) := fun {H3 o} s3 b u e => by
    rw [upd_ne (ne_of_none e hD)]
    exact s3 b u (s2 b u (s1 b u e))
  have kp : ∀ {H3 : Hp}, Same H2 H3 → DpAll K (hid (D :: S) H3) ys ((List.range i).filterMap out) := fun {H3} s3 => dpAll_mono (Same.hid (s2.trans s3)) dy
  refine st _ _ (fun z d H3 ez s3 dz => ⟨_, s3 _ _ e2, ?_, fr s3, _, upd_same, ?_⟩) (fun H3 ez s3 => ⟨(s1.trans s2).trans s3, ys, s3 _ _ e2, ?_⟩) ok2
  · have h1 := dpAll_len dy
    rw [h1]
    refine Nat.lt_of_le_of_lt (List.length_filterMap_le _ _) ?_
    rw [List.length_range]; omega
  · rw [hid_mut List.mem_cons_self, List.range_succ, List.filterMap_append]
    have q := dpAll_snoc (kp s3) dz
    simpa [ez] using q
  · have q := kp s3
    rw [List.range_succ, List.filterMap_append]
    simpa [ez] using q
end
section
variable {P : Program} {w : World} {K : PySem.W.Frag} {mg : Str → Option Value} {base : Heap} {A : Ad} {L : AdL} {C fp fa : Addr} {b : Bool}
open L2H HotX
def entM (m : PyData × PyData) : PyData := .tuple [.str "move", m.1, m.2]
theorem entM_sh {m : PyData × PyData} (h : ShN 0 m.1 ∧ ShN 0 m.2) : ShN 1 (entM m) := by
  refine shN_tuple (n := 0) fun e he => ?_
  rcases List.mem_cons.mp he with e1 | he
  · rw [e1]; exact ⟨by simp only [PyData.canLay0]; decide +kernel, by simp [PyData.depth]⟩
  rcases List.mem_cons.mp he with e1 | he
  · rw [e1]; exact h.1
  rcases List.mem_cons.mp he with e1 | he
  · rw [e1]; exact h.2
  · cases he
theorem logs_sh {log : List PyData} (h : ∀ d ∈ log, ShN 1 d) : SeqAt.shaped (.list log) = true := shaped_of (shN_list h) (by decide)
theorem lk_log2 {r l g : V} : List.lookup ("log" : Str) [("rows", r), ("left", l), ("log", g)] = some g := lk_log
/-- the log to be awaited -/
def spExt (K : PySem.W.Frag) : TS := fun D σ H => ∃ (a0 a1 a2 a3 a4 a5 a6 a7 a8 a9 a10 a11 a12 a13 a15 a17 a18 a19 a20 : Option V) (S : List Addr) (M N : Addr) (due : V) (logN : List PyData) (xs ns : List V) (ms : List (PyData × PyData)) (st : Option (Nat × Str)),
  σ = [a0, a1, a2, a3, a4, a5, a6, a7, a8, a9, a10, a11, a12, a13, some (.ref M), a15, some due, a17, a18, a19, a20, some (.ref N)] ∧ DueAt H st due ∧ OkS S H ∧ N ∈ S ∧ H N = some (.lst ns) ∧ DpAll K (hid S H) ns logN ∧ logN.length ≤ 1000 ∧
  (st = none → H M = some (.lst xs) ∧ MovesAt K (hid S H) xs ms ∧ ms.length ≤ 5) ∧
  ∀ H' ns' log', Fr [N] H H' → H' N = some (.lst ns') → DpAll K (hid S H') ns' log' → (st = none → log' = logN ++ ms.map entM) → (st ≠ none → log' = logN) → D.nx [a0, a1, a2, a3, a4, a5, a6, a7, a8, a9, a10, a11, a12, a13, some (.ref M), a15, some due, a17, a18, a19, a20, some (.ref N)] H'
theorem blk_ext (T : TxtL P K mg A L) {f : Addr} {cdv : Value} {Ar : Around} {outer : List Env} {s0 : Shared} {Hz : Hp} {E : XK} (hr : Room 14 (LX P w K mg base f cdv Ar outer s0 Hz E).A) :
    PS (LX P w K mg base f cdv Ar outer s0 Hz E) (nthS (fB (nthS (fB (nthS (defBody s_law) 0)) 1)) 9) (spExt K) := by
  have hu1 := hu65 hr
  refine PS.weak (ps_if (pt_cmpR op_isN (pv 16) pe_non (nomark _)) (pss_one (ps_expr (pe_bm PySem.F.plainAttrs_list PySem.F.slot_list_extend PySem.F.type_list_extend mt_extend (pv 21) (pa_cons (pe_lc (own := [("_law_key", 15), ("_law_parent", 11)]) (g := gTup K 2 (gCons (gName 15) (gCons (gName 11) (gNil)))) (tt := tYes) rfl sc_law.nd (Kx.pi_list (K := K) rfl (pv 14)) (blkOk_by (N := ["_law_script", "_law_at", "_law_bag_here", "_law_turn", "_law_base", "_law_step", "_law_is_logged", "_law_tree", "_law_other", "_law_k", "_law_far", "_law_parent", "_law_there", "_law_rows", "_law_some", "_law_key", "_law_due", "_law_good", "_law_place", "_law_move", "_law_why", "_law_logged"]) (sc := defScope s_law) (by decide +kernel)) (fun _ _ _ _ _ => (Kx.pg_tup (K := K) (n := 2) rfl rfl (pgs_cons (pg_name (i := 15) sc_law.nd rfl (by first | exact Or.inl rfl | exact Or.inr rfl)) (pgs_cons (pg_name (i := 11) sc_law.nd rfl (by first | exact Or.inl rfl | exact Or.inr rfl)) pgs_nil)))) (fun _ _ _ _ _ => pts_nil) (fun _ _ _ _ _ => (pe_tup (pa_cons pe_str (pa_cons (pv 15) (pa_cons (pv 11) pa_nil)))))) pa_nil)))) pss_nil) (fun D σ H9 hh => ?_)
  obtain ⟨dn, dr, db, dc⟩ := D
  obtain ⟨a0, a1, a2, a3, a4, a5, a6, a7, a8, a9, a10, a11, a12, a13, a15, a17, a18, a19, a20, S, M, N, due, logN, xs, ns, ms, st, rfl, hdue, okS, hNS, hN, hns, hll, hnone, q⟩ := hh
  try dsimp only [cxOf]
  cases st with
  | some x =>
    obtain ⟨D0, rfl, hD0⟩ := hdue
    walk_at "rd"
    exact q H9 ns logN Fr.refl hN hns (fun z => by cases z) (fun _ => rfl)
  | none =>
    obtain rfl : due = .non := hdue
    obtain ⟨hM, hms, hm5⟩ := hnone rfl
    walk_at "rd"
    intro D hD
    have hxl := moves_len hms
    refine lcDS (K := K) (S := S) walk_list (fun i => ms[i]?.map entM) hD (by rw [hxl]; exact Nat.lt_of_le_of_lt hm5 (by decide)) okS (fun H2 s2 => s2.seq (SqL.of hM)) ?_ ?_
    · rintro i x H1 H2 hi s1 ⟨rfl, ex⟩
      refine ⟨Same.refl _, fun yes no hy hn ok2 => ?_⟩
      obtain ⟨m, TT, kx, px, em, rfl, hT, hd1, hd2⟩ := moves_at hms ex
      have hT1 := sqT_mono s1 (sqT_mono hid_same hT)
      walk_at "rd"
      rename_i B H3 nB sB hB
      have nBS : B ∉ D :: S := ok2.new nB
      have sh : Same (hid S H9) (hid (D :: S) H3) := same_hid_cons hD (s1.trans sB)
      refine hy _ (entM m) H3 ?_ sB (.tup (SqT.of ((hid_out nBS).trans hB)) (.cons (.str _) (.cons (dp_mono sh hd1) (.cons (dp_mono sh hd2) .nil))))
      rw [ms_at em]
      rfl
    · intro H2 ys s2 hD2 hys
      rw [hxl, filterMap_range] at hys
      have hN2 := s2 _ _ hN
      have hyl : ys.length = ms.length := by rw [dpAll_len hys, List.length_map]
      have hnl : ns.length = logN.length := dpAll_len hns
      refine ⟨N, D, ns, ys, rfl, rfl, hN2, hD2, by rw [hyl, hnl]; exact Nat.le_trans (by omega : _ ≤ 2000) (by decide), ?_⟩
      walk_at "rd"
      have e5 : hid S (upd H2 N (.lst (ns ++ ys))) = hid S H2 := hid_mut hNS
      refine q _ (ns ++ ys) _ (fun c o nn e => ?_) upd_same ?_ (fun _ => rfl) (fun z => absurd rfl z)
      · rw [upd_ne (fun z => nn (by rw [z]; simp))]
        exact s2 c o e
      · rw [e5]
        exact dpAll_app (dpAll_mono (Same.hid s2) hns) (dpAll_mono (hid_sub fun a ha => List.mem_cons_of_mem _ ha) hys)
/-- behind the moves at once: the rows, the log -/
def spEnd (K : PySem.W.Frag) (CT C : Addr) (b : Bool) : TS := fun D σ H => ∃ (a0 a1 a2 a3 a4 a5 a9 a10 a11 a12 a14 a15 a17 a18 a19 a20 : Option V) (S : List Addr) (t o p rA N : Addr) (due : V) (og : Option Addr) (dx : Addr) (l : V) (dx' : Addr) (l' : V) (rowsT R : List Row) (logT : List PyData) (ns : List V) (st : Option (Nat × Str)),
  σ = [a0, a1, a2, a3, a4, a5, some (.bl b), some (.ref t), some (.ref o), a9, a10, a11, a12, some (.ref rA), a14, a15, some due, a17, a18, a19, a20, some (.ref N)] ∧ DueAt H st due ∧ TwoT K CT C b S p t o og dx l dx' l' H rowsT R logT ∧ (b = true → NoAttr K C "log") ∧ rowsT.length ≤ 1000 ∧ R.length ≤ 1000 ∧
  (b = true → H N = some (.lst ns) ∧ DpAll K (hid S H) ns logT) ∧ (st = none → rowsT = R) ∧ (st ≠ none → RowsAt K H rA rowsT) ∧
  ∀ H', Same H H' → D.nx [a0, a1, a2, a3, a4, a5, some (.bl b), some (.ref t), some (.ref o), a9, a10, a11, a12, some (.ref rA), a14, a15, some due, a17, a18, a19, a20, some (.ref N)] H'
theorem blk_end (T : TxtL P K mg A L) (F : ClsF P w K base mg A C b fp fa) {f : Addr} {cdv : Value} {Ar : Around} {outer : List Env} {s0 : Shared} {Hz : Hp} {E : XK} (hr : Room 14 (LX P w K mg base f cdv Ar outer s0 Hz E).A) :
    PS (LX P w K mg base f cdv Ar outer s0 Hz E) (nthS (fB (nthS (fB (nthS (defBody s_law) 0)) 1)) 10) (spEnd K A.c_Tree C b) := by
  have RI := ok_T_iter (P := P) (w := w) (base := base) T.toTxt
  have RL := R_len (P := P) (w := w) (base := base) T.toTxt
  have hu1 := hu65 hr
  refine PS.weak (ps_if (PW.pt (pw_or (pt_cmpR (Kx.op_neD (K := K) rfl hu1) (pe_callTy (call_listO F.s_iter F.s_len RI RL noX_LN passNF (hr.mono (by decide)) rfl) (by rfl) T.n_list (by decide +kernel) (pa_cons (pv 7) pa_nil)) (pe_ifExp (pt_cmpR op_notN (pv 16) pe_non (nomark _)) (pv 13) (pe_callTy (call_listO T.sT_iter T.sT_len RI RL noX_LN passNF (hr.mono (by decide)) rfl) (by rfl) T.n_list (by decide +kernel) (pa_cons (pv 8) pa_nil))) (nomark _)) (pw_or1 (PW.pt (pw_and (pt_val (pv 6)) (pw_and1 (pt_cmpR (Kx.op_neD (K := K) rfl hu1) (Kx.pe_fld (K := K) rfl (pv 7) rfl) (pv 21) (nomark _)))))))) (pss_one (ps_ret pe_bl)) pss_nil) (fun D σ H9 hh => ?_)
  obtain ⟨dn, dr, db, dc⟩ := D
  obtain ⟨a0, a1, a2, a3, a4, a5, a9, a10, a11, a12, a14, a15, a17, a18, a19, a20, S, t, o, p, rA, N, due, og, dx, l, dx', l', rowsT, R, logT, ns, st, rfl, hdue, tw, hna, hrl, hRl, hN, hnone, hsome, q⟩ := hh
  try dsimp only [cxOf]
  have hzT : rowsT.length ≤ sizeLine := Nat.le_trans hrl (by decide)
  have hzR : R.length ≤ sizeLine := Nat.le_trans hRl (by decide)
  walk_at "rd"
  refine Rd.listT tw.st.1 F.ct hzT fun q1 xs1 n1 hx1 => ?_
  have s1 : Same H9 (upd H9 q1 (.lst xs1)) := same_upd n1
  have hq1 : upd H9 q1 (.lst xs1) q1 = some (.lst xs1) := upd_same
  generalize upd H9 q1 (.lst xs1) = H1 at s1 hq1
  have dT : ∀ {H2 : Hp}, Same H1 H2 → Dp K H2 (.ref q1) (.list (rowsT.map rowD)) := fun s => .lst (SqL.of (s _ _ hq1)) (dpAll_mono (hid_same.trans (s1.trans s)) hx1)
  refine Rd.cutH (P := fun v H2 => Same H1 H2 ∧ Dp K H2 v (.list (rowsT.map rowD))) (fun Q' kq => ?_) ?_
  · refine Rd.ifE ?_
    walk_at "rd"
    cases st with
    | some x =>
      obtain ⟨D0, rfl, hD0⟩ := hdue
      walk_at "rd"
      exact kq _ _ ⟨Same.refl _, dp_mono s1 (rows_dp (hsome (by simp)))⟩
    | none =>
      obtain rfl : due = .non := hdue
      obtain rfl := hnone rfl
      walk_at "rd"
      refine Rd.listT (tw.ot.mono s1) T.ct_Tree hzR fun q2 xs2 n2 hx2 => ?_
      have s2 : Same H1 (upd H1 q2 (.lst xs2)) := same_upd n2
      exact kq _ _ ⟨s2, .lst (SqL.of upd_same) (dpAll_mono (hid_same.trans s2) hx2)⟩
  · rintro v H2 ⟨s2, hv⟩
    refine Rd.neD (dT s2) hv shaped_rows shaped_rows ?_
    rw [eqv_sh shaped_rows]
    walk_at "rd"
    refine Rd.no (by decide) ?_
    walk_at "rd"
    cases b with
    | false =>
      walk_at "rd"
      exact q H2 (s1.trans s2)
    | true =>
      walk_at "rd"
      obtain ⟨hNl, hnd⟩ := hN rfl
      cases og with
      | none => cases tw.hb
      | some g =>
        obtain ⟨hrest, a, ht, hR⟩ := id tw.st.1
        obtain ⟨ng, lx, hg, hlx⟩ := tw.st.lg g rfl
        have s12 := s1.trans s2
        refine Rd.fld (s12 _ _ ht) F.ct.k (hna rfl) lk_log ?_
        walk_at "rd"
        have sh : Same (hid S H9) H2 := hid_same.trans s12
        refine Rd.neD (d := .list logT) (e := .list logT) (.lst (SqL.of (s12 _ _ hg)) (dpAll_mono sh hlx)) (.lst (SqL.of (s12 _ _ hNl)) (dpAll_mono sh hnd)) (logs_sh tw.ent) (logs_sh tw.ent) ?_
        rw [eqv_sh (logs_sh tw.ent)]
        walk_at "rd"
        exact q H2 s12
end
end PR
end

section
set_option maxHeartbeats 4000000
namespace PR
open PySem L2 PySem.Spec PyProof.Rows PySem.EX NdefX ItX
local macro_rules | `(tactic| walk_at "st") => `(tactic| first | with_reducible exact setAt_z | with_reducible exact setAt_s (by walk_at "st"))
local macro_rules | `(tactic| walk_at "rd1") => `(tactic| first
  | walk_at "sq"
  | with_reducible refine Rd.nxE ?_
  | with_reducible refine Rd.rtE ?_
  | with_reducible refine Rd.ctE ?_
  | with_reducible refine Rd.bkE ?_
  | with_reducible refine Rd.asg ?_
  | ((with_reducible refine' Rd.gnameW ?h0 ?hs ?_); (case h0 => walk_at "wi"); (case hs => walk_at "st"))
  | ((with_reducible refine' Rd.gname ?hs ?_); (case hs => walk_at "st"))
  | with_reducible refine Rd.ifS ?_
  | with_reducible refine Rd.ret ?_
  | with_reducible refine Rd.retN ?_
  | with_reducible refine Rd.drop ?_
  | with_reducible refine Rd.next ?_
  | ((with_reducible refine' Rd.var ?hv ?_); (case hv => exact rfl))
  | with_reducible refine Rd.c ?_
  | with_reducible refine Rd.op ?_
  | with_reducible refine Rd.un ?_
  | with_reducible refine Rd.neg ?_
  | with_reducible refine Rd.i0 ?_
  | with_reducible refine Rd.test ?_
  | with_reducible refine Rd.chain ?_
  | with_reducible refine Rd.tB ?_
  | with_reducible refine Rd.bl ?_
  | with_reducible refine Rd.not ?_
  | with_reducible refine Rd.and ?_
  | with_reducible refine Rd.or ?_
  | with_reducible refine Rd.andV ?_
  | with_reducible refine Rd.orV ?_
  | with_reducible refine Rd.notV ?_
  | with_reducible refine Rd.nilA ?_
  | with_reducible refine Rd.consA ?_
  | with_reducible refine Rd.cb ?_
  | with_reducible refine Rd.int1 ?_
  | with_reducible refine Rd.abs1 ?_
  | with_reducible refine Rd.gsub ?_
  | with_reducible refine Rd.tpar ?_
  | ((with_reducible refine' Rd.par ?hs ?ht ?_); (case hs => walk_at "st"); (case ht => walk_at "st"))
  | with_reducible refine Rd.ttup ?_
  | with_reducible refine Rd.tlst ?_
  | with_reducible refine Rd.isN ?_
  | with_reducible refine Rd.call ?_
  | with_reducible refine Rd.sl ?_
  | with_reducible refine Rd.noPart ?_
  | with_reducible refine Rd.part ?_
  | with_reducible refine Rd.ex_int ?_
  | with_reducible refine Rd.bm ?_
  | with_reducible refine Rd.tfld ?_
  | with_reducible refine Rd.tforT fun TB hTB => ?_
  | with_reducible refine Rd.tlc ?_
  | with_reducible refine Rd.mk1 ?_
  | with_reducible refine Rd.tdc ?_
  | with_reducible refine Rd.sfld ?_
  | with_reducible refine Rd.methP ?_
  | with_reducible refine Rd.xf ?_

  | with_reducible refine Rd.itemP ?_
  | with_reducible refine Rd.ost ?_
  | with_reducible refine Rd.enumT ?_
  | ((with_reducible refine' Rd.enumTAt ?h1 ?_); (case h1 => walk_at "lk"))
  | with_reducible refine Rd.meth ?_
  | with_reducible refine Rd.make ?_
  | with_reducible refine Rd.prop ?_
  | with_reducible refine Rd.item ?_
  | with_reducible refine Rd.sprop ?_
  | with_reducible refine Rd.star ?_
  | ((with_reducible refine' Rd.starL ?h1 ?_); (case h1 => walk_at "lk"))
  | with_reducible refine Rd.tdget ?_
  | ((with_reducible refine' Rd.fld ?h1 ?h2 ?h3 ?h4 ?_); (case h1 => walk_at "lk"); (case h2 => walk_at "cl"); (case h3 => walk_at "na"); (case h4 => walk_at "fl"))
  | ((with_reducible refine' Rd.ty ?h1 ?_); (case h1 => walk_at "lk"))
  | with_reducible refine Rd.tyes ?_
  | with_reducible refine Rd.noN ?_
  | with_reducible refine Rd.noNr ?_
  | with_reducible refine Rd.yesN ?_
  | with_reducible refine Rd.yesI ?_
  | with_reducible refine Rd.yesR ?_
  | with_reducible refine Rd.noNN ?_
  | with_reducible refine Rd.yes rfl ?_
  | with_reducible refine Rd.no Bool.false_ne_true ?_
  | ((with_reducible refine' Rd.wp ?h1 ?_); (case h1 => exact rfl))
  | ((with_reducible refine' Rd.isi ?h1 ?h2 ?_); (case h1 => walk_at "lk"); (case h2 => first | exact kit_int (dp_nodict (by with_reducible assumption)) | exact kit_bool (dp_nodict (by with_reducible assumption))))
  | with_reducible refine Rd.enum ?_
  | ((with_reducible refine' Rd.enumAt ?h1 ?_); (case h1 => walk_at "lk"))
  | with_reducible refine Rd.rng1 ?_
  | with_reducible refine Rd.rng2 ?_
  | with_reducible refine Rd.ilist ?_
  | with_reducible refine Rd.itup ?_
  | ((with_reducible refine' Rd.ilistAt ?h1 ?_); (case h1 => walk_at "lk"))
  | ((with_reducible refine' Rd.itupAt ?h1 ?_); (case h1 => walk_at "lk"))
  | ((with_reducible refine' Rd.slL ?h1 (fun q H1 nq sq hq => ?_)); (case h1 => walk_at "lk"))
  | with_reducible refine Rd.gcons ?_
  | with_reducible refine Rd.gnil ?_
  | ((with_reducible refine' Rd.gtup ?h1 ?h2 ?_); (case h1 => walk_at "lk"); (case h2 => exact rfl))
  | ((with_reducible refine' Rd.lenL ?h1 ?_); (case h1 => walk_at "lk"))
  | ((with_reducible refine' Rd.lenT ?h1 ?_); (case h1 => walk_at "lk"))
  | ((with_reducible refine' Rd.ixA ?h1 ?h2 ?_); (case h1 => walk_at "lk"); (case h2 => exact rfl))
  | ((with_reducible refine' Rd.ixB ?h1 ?h2 ?_); (case h1 => walk_at "lk"); (case h2 => exact rfl))
  | ((with_reducible refine' Rd.ixL ?h1 ?h2 ?_); (case h1 => walk_at "lk"); (case h2 => exact rfl))
  | ((with_reducible refine' Rd.newAt ?h1 (fun p H1 np sp hp => ?_)); (case h1 => exact sz_small (Nat.le_of_ble_eq_true rfl)))
  | ((with_reducible refine' Rd.ic ?h1 ?_); (case h1 => walk_at "sd"))
  | ((with_reducible refine' Rd.setL ?h1 ?h2 ?h3 ?_); (case h1 => walk_at "lk"); (case h2 => exact rfl); (case h3 => walk_at "st")))
local macro_rules | `(tactic| walk_at "rd") => `(tactic| repeat walk_at "rd1")
local macro_rules | `(tactic| walk_at "lk") => `(tactic| first
  | with_reducible assumption
  | exact upd_same
  | exact SqL.of upd_same
  | exact SqT.of upd_same
  | exact SqL.of (by with_reducible assumption)
  | exact SqT.of (by with_reducible assumption)
  | ((with_reducible refine' same_get ?lks ?lkh); (case lks => with_reducible assumption); (case lkh => walk_at "lk"))
  | ((with_reducible refine' Same.seq ?lks ?lkh); (case lks => with_reducible assumption); (case lkh => walk_at "lk"))
  | ((with_reducible refine' sqT_mono ?lks ?lkh); (case lks => with_reducible assumption); (case lkh => walk_at "lk"))
  | ((with_reducible refine' dp_mono ?lks ?lkh); (case lks => with_reducible assumption); (case lkh => walk_at "lk")))
local macro_rules | `(tactic| walk_at "sd") => `(tactic| first
  | with_reducible assumption
  | decide
  | omega
  | exact Or.inl ⟨by decide, by decide⟩
  | exact ⟨by decide, by decide, by decide⟩
  | exact Or.inr ⟨by decide, by decide⟩
  | exact Or.inl ⟨by omega, by omega⟩
  | exact wide_div (by decide) (by decide : _ < 2 ^ 200) (by decide) (by decide)
  | exact wide_div (by with_reducible assumption) (by assumption : _ < 2 ^ 200) (by decide) (by decide))

local macro_rules | `(tactic| walk_at "cl") => `(tactic| first | exact ct_k (by with_reducible assumption) | exact cl_Tree (by with_reducible assumption) | exact cl_Spot (by with_reducible assumption) | exact cl_Edit (by with_reducible assumption))
local macro_rules | `(tactic| walk_at "na") => `(tactic| first | exact ct_rows (by with_reducible assumption) | exact ct_left (by with_reducible assumption) | exact na_rows (by with_reducible assumption) | exact na_left (by with_reducible assumption) | exact na_tree (by with_reducible assumption) | exact na_key (by with_reducible assumption) | exact na_etree (by with_reducible assumption) | exact na_saved (by with_reducible assumption))
local macro_rules | `(tactic| walk_at "fl") => `(tactic| first | exact lk_head | exact lk_second (by decide +kernel))
local macro_rules | `(tactic| walk_at "wi") => `(tactic| first | (simp only [wipe, List.map_cons, List.map_nil, List.set_cons_succ, List.set_cons_zero]; done) | (simp only [wipe, List.map_cons, List.map_nil, List.set_cons_succ, List.set_cons_zero]; exact rfl))

set_option hygiene false in
local macro_rules | `(tactic| walk_at "sq") => `(tactic| with_reducible refine Rd.seqT fun S2 hS2 => ?_)
set_option hygiene false in
local macro_rules | `(tactic| walk_at "nx") => `(tactic| subst hS2)

section
variable {P : Program} {w : World} {K : PySem.W.Frag} {mg : Str → Option Value} {base : Heap} {A : Ad} {L : AdL} {C fp fa : Addr} {b : Bool}
open L2H HotX
theorem Rd.tpar3 {i j m : Nat} {tar : TA} {D : Ends} {σ : L2.St} {H : Hp} (h : tar σ H fun vs H1 => ∃ x y z, vs = [x, y, z] ∧ D.nx (((σ.set i (some x)).set j (some y)).set m (some z)) H1) : tPar3 i j m tar D σ H := h
theorem Rd.par3 {i j m : Nat} {x y z : V} {D : Ends} {σ σ1 σ2 σ3 : L2.St} {H : Hp} (e1 : SetAt σ i (some x) σ1) (e2 : SetAt σ1 j (some y) σ2) (e3 : SetAt σ2 m (some z) σ3) (h : D.nx σ3 H) : ∃ x' y' z', [x, y, z] = [x', y', z'] ∧ D.nx (((σ.set i (some x')).set j (some y')).set m (some z')) H :=
  ⟨x, y, z, rfl, by rw [show σ.set i (some x) = σ1 from e1, show σ1.set j (some y) = σ2 from e2, show σ2.set m (some z) = σ3 from e3]; exact h⟩
theorem walk_listF {xs : List V} {a : Addr} : Walk (ItlF K a 0) xs.length (fun H => SqL K H a xs) (YAt xs) := by
  have w := walk_list (K := K) (a := a) (xs := xs)
  refine ⟨fun i H h g => ?_, fun H g => ?_, fun i H x H' h g y => ?_⟩
  · have := w.goes i H h g
    show (Itl K a).go (0 + i) H
    rw [Nat.zero_add]; exact this
  · have := w.stops H g
    show (Itl K a).stop (0 + xs.length) H
    rw [Nat.zero_add]; exact this
  · have y' : (Itl K a).yld (0 + i) H x H' := y
    rw [Nat.zero_add] at y'
    exact w.yields i H x H' h g y'
/-- the numbers of a turn -/
def spNum (b : Bool) : TS := fun D σ H => ∃ (a0 a1 a4 a5 a6 : Option V) (p : Addr) (j : Nat) (us : List (Option V)), σ = a0 :: a1 :: some (.ref p) :: some (.int (j : Nat)) :: a4 :: a5 :: a6 :: us ∧ BagAt H p ∧ decide ((j : Int) % 2 = 1) = b ∧
  ∀ H' bs st, Fr [p] H H' → BagAt H' p → (-(10 ^ 21) ≤ bs ∧ bs ≤ 10 ^ 21) → (1 ≤ st ∧ st ≤ 10 ^ 10) → D.nx (a0 :: a1 :: some (.ref p) :: some (.int (j : Nat)) :: some (.int bs) :: some (.int st) :: some (.bl b) :: us) H'
theorem blk_num (T : TxtL P K mg A L) {f : Addr} {cdv : Value} {Ar : Around} {outer : List Env} {s0 : Shared} {Hz : Hp} {E : XK} (hr : Room 14 (LX P w K mg base f cdv Ar outer s0 Hz E).A) :
    PS (LX P w K mg base f cdv Ar outer s0 Hz E) (nthS (fB (nthS (fB (nthS (defBody s_law) 0)) 1)) 0) (spNum b) := by
  have G__law_take := ok_take (P := P) (w := w) (base := base) T.b T.F__law_take
  have b__law_take := T.F__law_take.binds (ps := ["_law_bag_here", "_law_many"]) fun _ _ _ _ _ _ us hl => match us, hl with | [_, _], _ => rfl
  have hu1 := hu65 hr
  refine PS.weak (ps_par3 (i := 4) (j := 5) (l := 6) rfl sc_law.nd rfl rfl rfl (by decide) (by decide) (by decide) rfl rfl rfl (pa_cons (pe_op op_sub (pe_call G__law_take (hr.mono (by decide)) rfl T.g__law_take T.F__law_take.kp b__law_take .nil passX (pa_cons (pv 2) (pa_cons (pe_op op_pow pe_int pe_int) pa_nil))) (pe_op op_pow pe_int pe_int)) (pa_cons (pe_op op_add pe_int (pe_call G__law_take (hr.mono (by decide)) rfl T.g__law_take T.F__law_take.kp b__law_take .nil passX (pa_cons (pv 2) (pa_cons (pe_op op_pow pe_int pe_int) pa_nil)))) (pa_cons (pe_cmpR (Kx.op_eqD (K := K) rfl hu1) (pe_op op_mod (pv 3) pe_int) pe_int (nomark _)) pa_nil))) (by rfl)) (fun D σ H9 hh => ?_)
  obtain ⟨dn, dr, db, dc⟩ := D
  obtain ⟨a0, a1, a4, a5, a6, p, j, us, rfl, bg, hj, q⟩ := hh
  try dsimp only [cxOf]
  refine Rd.tpar3 ?_
  walk_at "rd"
  refine take_at bg (by decide) (by decide) fun d1 H1 d10 d11 o1 bg1 => ?_
  walk_at "rd"
  refine take_at bg1 (by decide) (by decide) fun d2 H2 d20 d21 o2 bg2 => ?_
  walk_at "rd"
  refine Rd.eqD (.int _) (.int _) (shaped_int _) (shaped_int _) ?_
  rw [eqv_int, hj]
  walk_at "rd"
  refine' Rd.par3 ?h1 ?h2 ?h3 ?_
  case h1 => walk_at "st"
  case h2 => walk_at "st"
  case h3 => walk_at "st"
  have e19 : (10 : Int) ^ Int.toNat 19 = 10 ^ 19 := by decide
  have e20 : (10 : Int) ^ Int.toNat 20 = 10 ^ 20 := by decide
  have e9 : (10 : Int) ^ Int.toNat 9 = 10 ^ 9 := by decide
  exact q H2 _ _ ((o1.fr (by simp)).trans (o2.fr (by simp))) bg2 ⟨by omega, by omega⟩ ⟨by omega, by omega⟩
/-- the two trees -/
def spTrees (K : PySem.W.Frag) (CT C : Addr) (b : Bool) : TS := fun D σ H => ∃ (a0 a1 a3 a4 a5 a7 a8 : Option V) (us : List (Option V)) (p : Addr), σ = a0 :: a1 :: some (.ref p) :: a3 :: a4 :: a5 :: some (.bl b) :: a7 :: a8 :: us ∧ BagAt H p ∧
  ∀ H' S t o og dx l dx' l', TwoT K CT C b S p t o og dx l dx' l' H' [] [] [] → Same H H' → H t = none → H o = none → (∀ g, og = some g → H g = none) → (∀ a, a ∈ S → a = p ∨ H a = none) → D.nx (a0 :: a1 :: some (.ref p) :: a3 :: a4 :: a5 :: some (.bl b) :: some (.ref t) :: some (.ref o) :: us) H'
theorem blk_trees (T : TxtL P K mg A L) (hC : C = if b then A.c_Log else A.c_Tree) {f : Addr} {cdv : Value} {Ar : Around} {outer : List Env} {s0 : Shared} {Hz : Hp} {E : XK} (hr : Room 14 (LX P w K mg base f cdv Ar outer s0 Hz E).A) :
    PS (LX P w K mg base f cdv Ar outer s0 Hz E) (nthS (fB (nthS (fB (nthS (defBody s_law) 0)) 1)) 1) (spTrees K A.c_Tree C b) := by
  have G_T_init := (ok_T_init (P := P) (w := w) (base := base) T.toTxt T.ct_Tree).weakN
  have b_T_init := T.F_T_init.binds (ps := ["self"]) fun _ _ _ _ _ _ us hl => match us, hl with | [_], _ => rfl
  have G_L_init := (ok_L_init (P := P) (w := w) (base := base) T.toTxt).weakN
  have b_L_init := T.F_L_init.binds (ps := ["self"]) fun _ _ _ _ _ us hl => match us, hl with | [_], _ => rfl
  have hu1 := hu65 hr
  refine PS.weak (ps_par (i := 7) (j := 8) rfl sc_law.nd rfl rfl (by decide) rfl rfl (pa_cons (pe_ifExp (pt_val (pv 6)) (pe_make0 T.m_Log G_L_init (hr.mono (by decide)) rfl T.g_Log b_L_init .nil passX) (pe_make0 T.m_Tree G_T_init (hr.mono (by decide)) rfl T.g_Tree b_T_init .nil passX)) (pa_cons (pe_make0 T.m_Tree G_T_init (hr.mono (by decide)) rfl T.g_Tree b_T_init .nil passX) pa_nil)) (by rfl)) (fun D σ H9 hh => ?_)
  obtain ⟨dn, dr, db, dc⟩ := D
  obtain ⟨a0, a1, a3, a4, a5, a7, a8, us, p, rfl, bg, q⟩ := hh
  try dsimp only [cxOf]
  walk_at "rd"
  have hp0 : ∃ o, H9 p = some o := by
    obtain ⟨_, _, _, _, _, e⟩ := bg
    exact ⟨_, e⟩
  have ok0 : OkS [p] H9 := OkS.nil.cons hp0.choose_spec
  have made : ∀ {H1 : Hp} {t dx : Addr} {S : List Addr} {C1 : Addr}, OkS S H1 → H1 t = none → H1 dx = none → OkS S (upd (upd H1 dx (.own t)) t (.ins C1 dx [])) ∧ t ∉ S := fun {H1 t dx S C1} ok nt nd => ⟨(ok.upd).upd, ok.new nt⟩
  refine Rd.cutH (P := fun v H1 => ∃ S t og dx l, v = .ref t ∧ og.isSome = b ∧ Same H9 H1 ∧ H9 t = none ∧ (∀ g, og = some g → H9 g = none) ∧ p ∈ S ∧ (∀ a, a ∈ S → a = p ∨ H9 a = none) ∧ StAt K S C dx l og H1 t [] []) (fun Q' kq => ?_) ?_
  · refine Rd.ifE ?_
    walk_at "rd"
    cases b with
    | true =>
      walk_at "rd"
      intro t dx nt ndx hne
      obtain ⟨ok1, nt1⟩ := made (C1 := A.c_Log) ok0 nt ndx
      refine ⟨t, dx, [p], rfl, upd_same, ok1, nt1, fun H6 z g f6 nz hz ng hL => ⟨rfl, ?_⟩⟩
      have s6 := made_same nt ndx f6
      have ng0 : H9 g = none := by
        by_cases e : g = t
        · rw [e, upd_same] at ng; cases ng
        · rw [upd_ne e] at ng
          by_cases e2 : g = dx
          · rw [e2, upd_same] at ng; cases ng
          · rwa [upd_ne e2] at ng
      refine kq _ _ ⟨g :: [p], t, some g, dx, .ref z, rfl, rfl, s6, nt, fun g' e => (by cases e; exact ng0), (by simp), fun a ha => ?_, (by rw [hC]; exact hL.st)⟩
      rcases List.mem_cons.mp ha with e | e
      · rw [e]; exact .inr ng0
      · exact .inl (by simpa using e)
    | false =>
      walk_at "rd"
      intro t dx nt ndx hne
      obtain ⟨ok1, nt1⟩ := made (C1 := A.c_Tree) ok0 nt ndx
      refine ⟨t, dx, [p], rfl, upd_same, ok1, nt1, fun H6 z f6 nz hz hT => ⟨rfl, ?_⟩⟩
      have s6 := made_same nt ndx f6
      refine kq _ _ ⟨[p], t, none, dx, .ref z, rfl, rfl, s6, nt, fun g' e => (by cases e), (by simp), fun a ha => .inl (by simpa using ha), by rw [hC]; exact hT.st (ok0.same s6) nt1⟩
  · rintro v H1 ⟨S, t, og, dx, l, rfl, hob, s1, nt, ngo, pS, hSn, hSt⟩
    walk_at "rd"
    intro o dx' no ndx' hne
    obtain ⟨ok1, no1⟩ := made (C1 := A.c_Tree) hSt.okS no ndx'
    refine ⟨o, dx', S, rfl, upd_same, ok1, no1, fun H6 z f6 nz hz hT => ⟨rfl, ?_⟩⟩
    have s6 := made_same no ndx' f6
    walk_at "rd"
    have no9 := s1.free no
    obtain ⟨_, at1, ht1, _⟩ := id hSt.1
    refine q H6 S t o og dx l dx' (.ref z) ⟨hob, hSt.mono s6, fun d hd => (by cases hd), pS, ?_, no1, (fun e => by rw [e, ht1] at no; cases no), bag_same bg (s1.trans s6), hT⟩ (s1.trans s6) nt no9 ngo hSn
    intro hp
    cases og with
    | none => cases hp
    | some g =>
      have : p = g := by simpa using hp
      obtain ⟨o', e⟩ := hp0
      rw [this, ngo g rfl] at e
      cases e
/-- the keys, the rows, no moves -/
def spThere (K : PySem.W.Frag) (CT C : Addr) (b : Bool) : TS := fun D σ H => ∃ (a0 a1 a2 a3 a4 a5 a6 a8 a9 a10 a11 a12 a13 a14 a15 : Option V) (us : List (Option V)) (S : List Addr) (t : Addr) (og : Option Addr) (dx : Addr) (l : V) (rows : List Row) (log : List PyData), σ = a0 :: a1 :: a2 :: a3 :: a4 :: a5 :: a6 :: some (.ref t) :: a8 :: a9 :: a10 :: a11 :: a12 :: a13 :: a14 :: a15 :: us ∧
  StAt K S C dx l og H t rows log ∧ rows.length ≤ 1000 ∧
  ∀ H' th rA M ys, Same H H' → H th = none → H rA = none → H M = none → th ≠ rA → th ≠ M → rA ≠ M → H' th = some (.lst ((keysOf rows).map V.int)) → H' rA = some (.lst ys) → DpAll K (hid (M :: S) H') ys (rows.map rowD) → H' M = some (.lst []) →
    D.nx (a0 :: a1 :: a2 :: a3 :: a4 :: a5 :: a6 :: some (.ref t) :: a8 :: a9 :: a10 :: a11 :: some (.ref th) :: some (.ref rA) :: some (.ref M) :: a15 :: us) H'
theorem blk_there (T : TxtL P K mg A L) (F : ClsF P w K base mg A C b fp fa) {f : Addr} {cdv : Value} {Ar : Around} {outer : List Env} {s0 : Shared} {Hz : Hp} {E : XK} (hr : Room 14 (LX P w K mg base f cdv Ar outer s0 Hz E).A) :
    PS (LX P w K mg base f cdv Ar outer s0 Hz E) (nthS (fB (nthS (fB (nthS (defBody s_law) 0)) 1)) 3) (spThere K A.c_Tree C b) := by
  have RI := ok_T_iter (P := P) (w := w) (base := base) T.toTxt
  have RL := R_len (P := P) (w := w) (base := base) T.toTxt
  have hu1 := hu65 hr
  refine PS.weak (ps_par3 (i := 12) (j := 13) (l := 14) rfl sc_law.nd rfl rfl rfl (by decide) (by decide) (by decide) rfl rfl rfl (pa_cons (pe_lc (own := [("_law_key", 15), ("_law_parent", 11)]) (g := gTup K 2 (gCons (gName 15) (gCons (gName 11) (gNil)))) (tt := tYes) rfl sc_law.nd (pi_own (pv 7) F.s_iter RI (hr.mono (by decide)) passNF) (blkOk_by (N := ["_law_script", "_law_at", "_law_bag_here", "_law_turn", "_law_base", "_law_step", "_law_is_logged", "_law_tree", "_law_other", "_law_k", "_law_far", "_law_parent", "_law_there", "_law_rows", "_law_some", "_law_key", "_law_due", "_law_good", "_law_place", "_law_move", "_law_why", "_law_logged"]) (sc := defScope s_law) (by decide +kernel)) (fun _ _ _ _ _ => (Kx.pg_tup (K := K) (n := 2) rfl rfl (pgs_cons (pg_name (i := 15) sc_law.nd rfl (by first | exact Or.inl rfl | exact Or.inr rfl)) (pgs_cons (pg_name (i := 11) sc_law.nd rfl (by first | exact Or.inl rfl | exact Or.inr rfl)) pgs_nil)))) (fun _ _ _ _ _ => pts_nil) (fun _ _ _ _ _ => (pv 15))) (pa_cons (pe_callTy (call_listO F.s_iter F.s_len RI RL noX_LN passNF (hr.mono (by decide)) rfl) (by rfl) T.n_list (by decide +kernel) (pa_cons (pv 7) pa_nil)) (pa_cons (pe_lst pa_nil) pa_nil))) (by rfl)) (fun D σ H9 hh => ?_)
  obtain ⟨dn, dr, db, dc⟩ := D
  obtain ⟨a0, a1, a2, a3, a4, a5, a6, a8, a9, a10, a11, a12, a13, a14, a15, us, S, t, og, dx, l, rows, log, rfl, hS, hrl, q⟩ := hh
  try dsimp only [cxOf]
  obtain ⟨hrest, at0, ht, hR⟩ := id hS.1
  obtain ⟨xs, hSL, hX⟩ := rows_mono hid_same hR
  have hxl : xs.length = rows.length := by rw [dpAll_len hX, List.length_map]
  refine Rd.tpar3 ?_
  walk_at "rd"
  refine ⟨.ref t, rfl, t, dx, _, at0, rfl, ht, ⟨C, dx, _, xs, ht, F.ct, hSL⟩, ?_⟩
  intro D hD
  refine lcV walk_listF (fun i => rows[i]?.map fun r => V.int r.1) hD (by rw [hxl]; exact Nat.lt_of_le_of_lt hrl (by decide)) (fun H2 s2 => s2.seq hSL) ?_ ?_
  · rintro i x H1 H2 hi s1 ⟨rfl, ex⟩
    refine ⟨Same.refl _, fun yes no hy hn => ?_⟩
    have hi' : i < rows.length := by omega
    obtain ⟨B, eb, hb⟩ := rows_at hX (List.getElem?_eq_getElem hi')
    rw [ex] at eb
    cases eb
    have hb1 := sqT_mono s1 hb
    walk_at "rd"
    exact hy _ _ (by rw [List.getElem?_eq_getElem hi']; rfl) (Same.refl _)
  · intro H2 s2 hD2
    rw [hxl, filterMap_range, vals_keys] at hD2
    walk_at "rd"
    refine Rd.listT (hS.mono s2).1 F.ct (Nat.le_trans hrl (by decide)) fun rA ys nR hys => ?_
    have s3 : Same H2 (upd H2 rA (.lst ys)) := same_upd nR
    have hR3 : upd H2 rA (.lst ys) rA = some (.lst ys) := upd_same
    generalize upd H2 rA (.lst ys) = H3 at s3 hR3
    walk_at "rd"
    rename_i M H4 nM s4 hM
    have n1 : D ≠ rA := fun z => by rw [z, nR] at hD2; cases hD2
    have n2 : D ≠ M := fun z => by have := s3 _ _ hD2; rw [z, nM] at this; cases this
    have n3 : rA ≠ M := fun z => by rw [z, nM] at hR3; cases hR3
    refine' Rd.par3 ?h1 ?h2 ?h3 ?_
    case h1 => walk_at "st"
    case h2 => walk_at "st"
    case h3 => walk_at "st"
    exact q H4 D rA M ys ((s2.trans s3).trans s4) hD (s2.free nR) ((s2.trans s3).free nM) n1 n2 n3 (s4 _ _ (s3 _ _ hD2)) (s4 _ _ hR3) (dpAll_mono (same_hid_cons (s3.free nM) (s3.trans s4)) hys) hM
end
end PR
end

section
set_option maxHeartbeats 4000000
namespace PR
open PySem L2 PySem.Spec PyProof.Rows PySem.EX
local macro_rules | `(tactic| walk_at "st") => `(tactic| first | with_reducible exact setAt_z | with_reducible exact setAt_s (by walk_at "st"))
local macro_rules | `(tactic| walk_at "rd1") => `(tactic| first
  | walk_at "sq"
  | with_reducible refine Rd.nxE ?_
  | with_reducible refine Rd.rtE ?_
  | with_reducible refine Rd.ctE ?_
  | with_reducible refine Rd.bkE ?_
  | with_reducible refine Rd.asg ?_
  | ((with_reducible refine' Rd.gnameW ?h0 ?hs ?_); (case h0 => walk_at "wi"); (case hs => walk_at "st"))
  | ((with_reducible refine' Rd.gname ?hs ?_); (case hs => walk_at "st"))
  | with_reducible refine Rd.ifS ?_
  | with_reducible refine Rd.ret ?_
  | with_reducible refine Rd.retN ?_
  | with_reducible refine Rd.drop ?_
  | with_reducible refine Rd.next ?_
  | ((with_reducible refine' Rd.var ?hv ?_); (case hv => exact rfl))
  | with_reducible refine Rd.c ?_
  | with_reducible refine Rd.op ?_
  | with_reducible refine Rd.un ?_
  | with_reducible refine Rd.neg ?_
  | with_reducible refine Rd.i0 ?_
  | with_reducible refine Rd.test ?_
  | with_reducible refine Rd.chain ?_
  | with_reducible refine Rd.tB ?_
  | with_reducible refine Rd.bl ?_
  | with_reducible refine Rd.not ?_
  | with_reducible refine Rd.and ?_
  | with_reducible refine Rd.or ?_
  | with_reducible refine Rd.andV ?_
  | with_reducible refine Rd.orV ?_
  | with_reducible refine Rd.notV ?_
  | with_reducible refine Rd.nilA ?_
  | with_reducible refine Rd.consA ?_
  | with_reducible refine Rd.cb ?_
  | with_reducible refine Rd.int1 ?_
  | with_reducible refine Rd.abs1 ?_
  | with_reducible refine Rd.gsub ?_
  | with_reducible refine Rd.tpar ?_
  | ((with_reducible refine' Rd.par ?hs ?ht ?_); (case hs => walk_at "st"); (case ht => walk_at "st"))
  | with_reducible refine Rd.ttup ?_
  | with_reducible refine Rd.tlst ?_
  | with_reducible refine Rd.isN ?_
  | with_reducible refine Rd.call ?_
  | with_reducible refine Rd.sl ?_
  | with_reducible refine Rd.noPart ?_
  | with_reducible refine Rd.part ?_
  | with_reducible refine Rd.ex_int ?_
  | with_reducible refine Rd.bm ?_
  | with_reducible refine Rd.tfld ?_
  | with_reducible refine Rd.tforT fun TB hTB => ?_
  | with_reducible refine Rd.tlc ?_
  | with_reducible refine Rd.mk1 ?_
  | with_reducible refine Rd.tdc ?_
  | with_reducible refine Rd.sfld ?_
  | with_reducible refine Rd.methP ?_
  | with_reducible refine Rd.xf ?_

  | with_reducible refine Rd.itemP ?_
  | with_reducible refine Rd.ost ?_
  | with_reducible refine Rd.enumT ?_
  | ((with_reducible refine' Rd.enumTAt ?h1 ?_); (case h1 => walk_at "lk"))
  | with_reducible refine Rd.meth ?_
  | with_reducible refine Rd.make ?_
  | with_reducible refine Rd.prop ?_
  | with_reducible refine Rd.item ?_
  | with_reducible refine Rd.sprop ?_
  | with_reducible refine Rd.star ?_
  | ((with_reducible refine' Rd.starL ?h1 ?_); (case h1 => walk_at "lk"))
  | with_reducible refine Rd.tdget ?_
  | ((with_reducible refine' Rd.fld ?h1 ?h2 ?h3 ?h4 ?_); (case h1 => walk_at "lk"); (case h2 => walk_at "cl"); (case h3 => walk_at "na"); (case h4 => walk_at "fl"))
  | ((with_reducible refine' Rd.ty ?h1 ?_); (case h1 => walk_at "lk"))
  | with_reducible refine Rd.tyes ?_
  | with_reducible refine Rd.noN ?_
  | with_reducible refine Rd.noNr ?_
  | with_reducible refine Rd.yesN ?_
  | with_reducible refine Rd.yesI ?_
  | with_reducible refine Rd.yesR ?_
  | with_reducible refine Rd.noNN ?_
  | with_reducible refine Rd.yes rfl ?_
  | with_reducible refine Rd.no Bool.false_ne_true ?_
  | ((with_reducible refine' Rd.wp ?h1 ?_); (case h1 => exact rfl))
  | ((with_reducible refine' Rd.isi ?h1 ?h2 ?_); (case h1 => walk_at "lk"); (case h2 => first | exact kit_int (dp_nodict (by with_reducible assumption)) | exact kit_bool (dp_nodict (by with_reducible assumption))))
  | with_reducible refine Rd.enum ?_
  | ((with_reducible refine' Rd.enumAt ?h1 ?_); (case h1 => walk_at "lk"))
  | with_reducible refine Rd.rng1 ?_
  | with_reducible refine Rd.rng2 ?_
  | with_reducible refine Rd.ilist ?_
  | with_reducible refine Rd.itup ?_
  | ((with_reducible refine' Rd.ilistAt ?h1 ?_); (case h1 => walk_at "lk"))
  | ((with_reducible refine' Rd.itupAt ?h1 ?_); (case h1 => walk_at "lk"))
  | ((with_reducible refine' Rd.slL ?h1 (fun q H1 nq sq hq => ?_)); (case h1 => walk_at "lk"))
  | with_reducible refine Rd.gcons ?_
  | with_reducible refine Rd.gnil ?_
  | ((with_reducible refine' Rd.gtup ?h1 ?h2 ?_); (case h1 => walk_at "lk"); (case h2 => exact rfl))
  | ((with_reducible refine' Rd.lenL ?h1 ?_); (case h1 => walk_at "lk"))
  | ((with_reducible refine' Rd.lenT ?h1 ?_); (case h1 => walk_at "lk"))
  | ((with_reducible refine' Rd.ixA ?h1 ?h2 ?_); (case h1 => walk_at "lk"); (case h2 => exact rfl))
  | ((with_reducible refine' Rd.ixB ?h1 ?h2 ?_); (case h1 => walk_at "lk"); (case h2 => exact rfl))
  | ((with_reducible refine' Rd.ixL ?h1 ?h2 ?_); (case h1 => walk_at "lk"); (case h2 => exact rfl))
  | ((with_reducible refine' Rd.newAt ?h1 (fun p H1 np sp hp => ?_)); (case h1 => exact sz_small (Nat.le_of_ble_eq_true rfl)))
  | ((with_reducible refine' Rd.ic ?h1 ?_); (case h1 => walk_at "sd"))
  | ((with_reducible refine' Rd.setL ?h1 ?h2 ?h3 ?_); (case h1 => walk_at "lk"); (case h2 => exact rfl); (case h3 => walk_at "st")))
local macro_rules | `(tactic| walk_at "rd") => `(tactic| repeat walk_at "rd1")
local macro_rules | `(tactic| walk_at "lk") => `(tactic| first
  | with_reducible assumption
  | exact upd_same
  | exact SqL.of upd_same
  | exact SqT.of upd_same
  | exact SqL.of (by with_reducible assumption)
  | exact SqT.of (by with_reducible assumption)
  | ((with_reducible refine' same_get ?lks ?lkh); (case lks => with_reducible assumption); (case lkh => walk_at "lk"))
  | ((with_reducible refine' Same.seq ?lks ?lkh); (case lks => with_reducible assumption); (case lkh => walk_at "lk"))
  | ((with_reducible refine' sqT_mono ?lks ?lkh); (case lks => with_reducible assumption); (case lkh => walk_at "lk"))
  | ((with_reducible refine' dp_mono ?lks ?lkh); (case lks => with_reducible assumption); (case lkh => walk_at "lk")))
local macro_rules | `(tactic| walk_at "sd") => `(tactic| first
  | with_reducible assumption
  | decide
  | omega
  | exact Or.inl ⟨by decide, by decide⟩
  | exact ⟨by decide, by decide, by decide⟩
  | exact Or.inr ⟨by decide, by decide⟩
  | exact Or.inl ⟨by omega, by omega⟩
  | exact wide_div (by decide) (by decide : _ < 2 ^ 200) (by decide) (by decide)
  | exact wide_div (by with_reducible assumption) (by assumption : _ < 2 ^ 200) (by decide) (by decide))

local macro_rules | `(tactic| walk_at "cl") => `(tactic| first | exact ct_k (by with_reducible assumption) | exact cl_Tree (by with_reducible assumption) | exact cl_Spot (by with_reducible assumption) | exact cl_Edit (by with_reducible assumption))
local macro_rules | `(tactic| walk_at "na") => `(tactic| first | exact ct_rows (by with_reducible assumption) | exact ct_left (by with_reducible assumption) | exact na_rows (by with_reducible assumption) | exact na_left (by with_reducible assumption) | exact na_tree (by with_reducible assumption) | exact na_key (by with_reducible assumption) | exact na_etree (by with_reducible assumption) | exact na_saved (by with_reducible assumption))
local macro_rules | `(tactic| walk_at "fl") => `(tactic| first | exact lk_head | exact lk_second (by decide +kernel))
local macro_rules | `(tactic| walk_at "wi") => `(tactic| first | (simp only [wipe, List.map_cons, List.map_nil, List.set_cons_succ, List.set_cons_zero]; done) | (simp only [wipe, List.map_cons, List.map_nil, List.set_cons_succ, List.set_cons_zero]; exact rfl))

set_option hygiene false in
local macro_rules | `(tactic| walk_at "sq") => `(tactic| with_reducible refine Rd.seqT fun S2 hS2 => ?_)
set_option hygiene false in
local macro_rules | `(tactic| walk_at "nx") => `(tactic| subst hS2)

section
variable {P : Program} {w : World} {K : PySem.W.Frag} {mg : Str → Option Value} {base : Heap} {A : Ad} {L : AdL} {C fp fa : Addr} {b : Bool}
open L2H HotX
theorem DueAt.same {H H' : Hp} {st : Option (Nat × Str)} {v : V} (h : DueAt H st v) (s : Same H H') : DueAt H' st v := by
  cases st with
  | none => exact h
  | some x =>
    obtain ⟨j, why⟩ := x
    obtain ⟨D, e, hD⟩ := h
    exact ⟨D, e, s _ _ hD⟩
theorem DueAt.fr1 {H H' : Hp} {t : Addr} {u : HO} {st : Option (Nat × Str)} {v : V} (h : DueAt H st v) (f : Fr1 t H H') (ht : H t = some u) (nu : NoSeq u) : DueAt H' st v := by
  cases st with
  | none => exact h
  | some x =>
    obtain ⟨j, why⟩ := x
    obtain ⟨D, e, hD⟩ := h
    exact ⟨D, e, f D _ (fun z => by rw [z, ht] at hD; cases hD; exact nu) hD⟩
theorem moves_sh {rows : List Row} {ms : List (PyData × PyData)} {j : Nat} {o : Out} (h : RunR rows ms j o) : ∀ {R : List Row}, o = .ok R → ∀ m ∈ ms, ShN 0 m.1 ∧ ShN 0 m.2 := by
  induction h with
  | nil => intro R e m hm; cases hm
  | ok m0 _ ih =>
    intro R e m hm
    rcases List.mem_cons.mp hm with z | z
    · rw [z]
      obtain ⟨k, o, rfl, rfl, _⟩ := m0
      refine ⟨⟨by simp [PyData.canLay0], by simp [PyData.depth]⟩, ?_⟩
      cases o with
      | none => exact ⟨by simp [optD, PyData.canLay0], by simp [optD, PyData.depth]⟩
      | some q => exact ⟨by simp [optD, PyData.canLay0], by simp [optD, PyData.depth]⟩
    · exact ih e m z
  | key _ => intro R e; cases e
  | ring _ => intro R e; cases e
/-- the latter part of a turn -/
def spTB (K : PySem.W.Frag) (CT C : Addr) (b : Bool) : TS := fun D σ H => ∃ (a0 a1 a3 a4 a5 a9 a10 a11 a12 a15 a18 a19 a20 a21 : Option V) (S : List Addr) (p t o rA M G : Addr) (due : V) (og : Option Addr) (dx : Addr) (l : V) (dx' : Addr) (l' : V) (rows R : List Row) (log : List PyData) (xs gs : List V) (ms : List (PyData × PyData)) (st : Option (Nat × Str)) (n : Nat),
  σ = [a0, a1, some (.ref p), a3, a4, a5, some (.bl b), some (.ref t), some (.ref o), a9, a10, a11, a12, some (.ref rA), some (.ref M), a15, some due, some (.ref G), a18, a19, a20, a21] ∧
  TwoT K CT C b S p t o og dx l dx' l' H rows R log ∧ Tr rows ∧ rows.length ≤ 900 ∧ log.length ≤ 900 ∧ RowsAt K (hid S H) rA rows ∧ M ∈ S ∧ M ∉ og.toList ∧ G ∈ S ∧ G ∉ og.toList ∧ H M = some (.lst xs) ∧ MovesAt K (hid S H) xs ms ∧ ms.length ≤ 5 ∧
  H G = some (.lst gs) ∧ MovesAt K (hid S H) gs (ms.take n) ∧ DueAt (hid S H) st due ∧ Mid rows ms ms.length st n R ∧
  ∀ H' us', Fr (t :: og.toList) H H' → BagAt H' p → us'.length = 18 → D.nx (a0 :: a1 :: some (.ref p) :: a3 :: us') H'
theorem blk_tb (T : TxtL P K mg A L) (F : ClsF P w K base mg A C b fp fa) (hna : b = true → NoAttr K C "log") {f : Addr} {cdv : Value} {Ar : Around} {outer : List Env} {s0 : Shared} {Hz : Hp} {E : XK} (hr : Room 14 (LX P w K mg base f cdv Ar outer s0 Hz E).A) :
    PSs (LX P w K mg base f cdv Ar outer s0 Hz E) (List.drop 7 (fB (nthS (fB (nthS (defBody s_law) 0)) 1))) (spTB K A.c_Tree C b) := by
  have hlg := blk_lg (P := P) (w := w) (base := base) (C := C) (b := b) (f := f) (cdv := cdv) (Ar := Ar) (outer := outer) (s0 := s0) (Hz := Hz) (E := E) T hr
  have hask := blk_ask (P := P) (w := w) (base := base) (f := f) (cdv := cdv) (Ar := Ar) (outer := outer) (s0 := s0) (Hz := Hz) (E := E) T F hr
  have hext := blk_ext (P := P) (w := w) (base := base) (f := f) (cdv := cdv) (Ar := Ar) (outer := outer) (s0 := s0) (Hz := Hz) (E := E) T hr
  have hend := blk_end (P := P) (w := w) (base := base) (f := f) (cdv := cdv) (Ar := Ar) (outer := outer) (s0 := s0) (Hz := Hz) (E := E) T F hr
  have hlast := blk_last (P := P) (w := w) (base := base) (f := f) (cdv := cdv) (Ar := Ar) (outer := outer) (s0 := s0) (Hz := Hz) (E := E) T F hr
  refine PSs.weak (pss_cons hlg (pss_cons hask (pss_cons hext (pss_cons hend (pss_one hlast))))) (fun D σ H9 hh => ?_)
  obtain ⟨dn, dr, db, dc⟩ := D
  obtain ⟨a0, a1, a3, a4, a5, a9, a10, a11, a12, a15, a18, a19, a20, a21, S, p, t, o, rA, M, G, due, og, dx, l, dx', l', rows, R, log, xs, gs, ms, st, n, rfl, tw, htr, hrl, hll, hrA, hMS, hMo, hGS, hGo, hM, hms, hm5, hG, hgs, hdue, mid, q⟩ := hh
  obtain ⟨trR, lenR⟩ := mid.tr htr
  refine Rd.seq ?_
  refine ⟨a0, a1, _, a3, a4, a5, _, a9, a10, a11, a12, _, _, a15, _, _, a18, a19, a20, a21, t, S, og, dx, l, rows, log, rfl, tw.hb, tw.st, hna, F.ct.k, fun H1 N ns nN s1 hN hns => ?_⟩
  have tw1 := tw.new nN s1 hN
  have hM1 := s1 _ _ hM
  have hG1 := s1 _ _ hG
  have sh1 : Same (hid S H9) (hid (N :: S) H1) := same_hid_cons nN s1
  have hms1 := moves_mono sh1 hms
  have hgs1 := moves_mono sh1 hgs
  have hrA1 := rows_mono sh1 hrA
  have hdue1 := hdue.same sh1
  have hns1 : DpAll K (hid (N :: S) H1) ns log := dpAll_mono sh1 hns
  have shO : Same (hid (N :: S) H1) (hid og.toList H1) := hid_sub tw1.st.sub
  have nNt : N ≠ t := fun z => by
    obtain ⟨_, a, e, _⟩ := tw.st.1
    rw [z, e] at nN
    cases nN
  have nNp : N ≠ p := fun z => by
    obtain ⟨_, _, _, _, _, e⟩ := tw.bg
    rw [z, e] at nN
    cases nN
  have nNo : N ∉ og.toList := fun z => tw.st.okS.new nN (tw.st.sub _ z)
  have ntM : M ≠ t := fun z => tw.st.ntS (by rw [← z]; exact hMS)
  have ntG : G ≠ t := fun z => tw.st.ntS (by rw [← z]; exact hGS)
  obtain ⟨_, at1, ht1, _⟩ := id tw1.st.1
  have hll1 : log.length ≤ 1000 := by omega
  -- the end, behind the moves at once
  have fin : ∀ {H2 : Hp} {og' : Option Addr} {SS : List Addr} {rowsT : List Row} {logT : List PyData}, FrP t og og' H1 H2 → TwoT K A.c_Tree C b SS p t o og' dx l dx' l' H2 rowsT R logT → (∀ a, a ∈ N :: S → a ∈ SS) → rowsT.length ≤ 900 → logT.length ≤ 950 → DpAll K (hid SS H2) ns log →
      (st = none → rowsT = R ∧ MovesAt K (hid SS H2) xs ms ∧ (b = true → logT = log ++ ms.map entM)) → (st ≠ none → logT = log ∧ rowsT = rows ∧ RowsAt K (hid SS H2) rA rows ∧ MovesAt K (hid SS H2) gs (ms.take n) ∧ RunR rows (ms.take n) 0 (.ok R)) → DueAt (hid SS H2) st due →
      tSeq (spExt K) (tSeq (spEnd K A.c_Tree C b) (spLast K A.c_Tree C b)) { nx := dn, rt := dr, bk := db, ct := dc } [a0, a1, some (V.ref p), a3, a4, a5, some (V.bl b), some (V.ref t), some (V.ref o), a9, a10, a11, a12, some (V.ref rA), some (V.ref M), a15, some due, some (V.ref G), a18, a19, a20, some (V.ref N)] H2 := by
    intro H2 og' SS rowsT logT f2 tw2 hSS hrT hlT hns2 hnone hsome hdue2
    obtain ⟨eN, nNo2⟩ := f2.get nNt nNo hN
    obtain ⟨eM, nMo2⟩ := f2.get ntM hMo hM1
    obtain ⟨eG, nGo2⟩ := f2.get ntG hGo hG1
    refine Rd.seq ?_
    refine ⟨_, _, _, _, _, _, _, _, _, _, _, _, _, _, _, _, _, _, _, SS, M, N, due, log, xs, ns, ms, st, rfl, hdue2.same hid_same, tw2.st.okS, hSS _ List.mem_cons_self, eN, hns2, hll1, fun e => ⟨eM, (hnone e).2.1, hm5⟩, fun H3 ns' log' f3 eN3 hns3 hl1 hl2 => ?_⟩
    have tw3 := tw2.frS f3 (fun x z => by rw [show x = N by simpa using z]; exact ⟨hSS _ List.mem_cons_self, nNo2⟩) (fun x z => by rw [show x = N by simpa using z]; exact ⟨_, eN3⟩) (bag_fr tw2.bg f3 (by simpa using nNp.symm))
    have sh3 : Same (hid SS H2) (hid SS H3) := f3.hidS fun x z => by rw [show x = N by simpa using z]; exact hSS _ List.mem_cons_self
    have hdue3 := hdue2.same sh3
    refine Rd.seq ?_
    refine ⟨_, _, _, _, _, _, _, _, _, _, _, _, _, _, _, _, SS, t, o, p, rA, N, due, og', dx, l, dx', l', rowsT, R, logT, ns', st, rfl, hdue3.same hid_same, tw3, hna, by omega, by omega, fun eb => ⟨eN3, ?_⟩, fun e => (hnone e).1, fun e => ?_, fun H4 s4 => ?_⟩
    · by_cases e : st = none
      · rw [(hnone e).2.2 eb, ← hl1 e]
        exact hns3
      · rw [(hsome e).1, ← hl2 e]
        exact hns3
    · rw [(hsome e).2.1]
      exact rows_mono hid_same (rows_mono sh3 (hsome e).2.2.1)
    · have tw4 := tw3.same s4
      have subO : ∀ a, a ∈ og'.toList → a ∈ SS := tw4.st.sub
      refine ⟨_, _, _, _, _, _, _, _, _, _, _, _, _, _, _, _, _, _, t, o, p, G, due, SS, og', dx, l, dx', l', rowsT, R, logT, gs, ms.take n, st, rfl, (hdue3.same hid_same).same s4, ?_, by omega, by omega, fun e => ⟨tw4, nGo2, ?_, ?_, ?_, ?_⟩, fun H5 f5 => ?_⟩
      · by_cases e : st = none
        · rw [(hnone e).1]; exact trR
        · rw [(hsome e).2.1]; exact htr
      · exact s4 _ _ (f3 G _ (fun z => by rw [show G = N by simpa using z] at hG; rw [hG] at nN; cases nN) eG)
      · exact moves_mono (hid_sub subO) (moves_mono (Same.hid s4) (moves_mono sh3 (hsome e).2.2.2.1))
      · rw [List.length_take]; omega
      · rw [(hsome e).2.1]; exact (hsome e).2.2.2.2
      · have tw5b := FrP.bag (og := og') (og' := og') f5 tw4.tp.symm tw4.np tw4.bg
        refine q H5 _ (fun c x nn e => ?_) tw5b.1 rfl
        have n1 : c ≠ t ∧ c ∉ og.toList := by simpa using nn
        obtain ⟨e2, n2⟩ := f2.get n1.1 n1.2 (s1 _ _ e)
        exact (FrP.get (og := og') (og' := og') f5 n1.1 n2 (s4 _ _ (f3 c x (fun z => by rw [show c = N by simpa using z, nN] at e; cases e) e2))).1
  cases mid with
  | run hrun =>
    rw [List.take_length] at hrun
    obtain rfl : due = .non := hdue
    refine Rd.seq ?_
    refine ⟨_, _, _, _, _, _, _, _, _, _, _, _, _, _, _, _, _, _, t, o, p, M, _, N :: S, og, dx, l, dx', l', rows, R, log, xs, ms, .ok R, rfl, tw1, htr, by omega, hll1, hMo, hM1, moves_mono shO hms1, hm5, hrun, (fun j why e => by cases e), fun R' e => rfl, fun R' H2 eo f2 st2 => ?_, fun j why H2 og' eo => by cases eo⟩
    cases eo
    have sh := moves_sh hrun rfl
    have tw2 := tw1.treeO f2 st2 (fun d hd => by
      cases og with
      | none => cases hd
      | some g =>
        rcases List.mem_append.mp hd with z | z
        · exact tw.ent d z
        · obtain ⟨m, hm, rfl⟩ := List.mem_map.mp z
          exact entM_sh (sh m hm))
    have f2S := f2.hidS tw1.st.sub
    have htS := (hid_out tw1.st.ntS).trans ht1
    refine fin (og' := og) f2 tw2 (fun a h => h) (by omega) ?_ (dpAll_fr1 f2S htS trivial hns1) (fun _ => ⟨rfl, moves_fr1 f2S htS trivial hms1, fun eb => ?_⟩) (fun z => absurd rfl z) rfl
    · cases og with
      | none => exact Nat.zero_le _
      | some g =>
        show (log ++ _).length ≤ _
        rw [List.length_append, List.length_map]
        omega
    · cases og with
      | none => rw [← tw.hb] at eb; cases eb
      | some g => rfl
  | @bad _ j why hrun hbad hj =>
    refine Rd.seq ?_
    refine ⟨_, _, _, _, _, _, _, _, _, _, _, _, _, _, _, _, _, _, t, o, p, M, _, N :: S, og, dx, l, dx', l', rows, R, log, xs, ms, .bad n why, rfl, tw1, htr, by omega, hll1, hMo, hM1, moves_mono shO hms1, hm5, hbad, (fun j' why' e => by cases e; exact hdue1.same shO), (fun R' e => by cases e), (fun R' H2 eo => by cases eo), fun j' why' H2 og' eo hb' f2 st2 => ?_⟩
    have tw2 := tw1.tree f2 hb' st2 tw.ent
    have f2S := f2.hidS tw1.st.sub
    have htS := (hid_out tw1.st.ntS).trans ht1
    exact fin f2 tw2 (fun a h => newO_of h) hrl (by omega) (dpAll_fr1 f2S htS trivial hns1) (fun e => by cases e) (fun _ => ⟨rfl, rfl, rows_fr1 f2S htS trivial hrA1, moves_fr1 f2S htS trivial hgs1, hrun⟩) (hdue1.fr1 f2S htS trivial)
end
end PR
end

section
set_option maxHeartbeats 4000000
namespace PR
open PySem L2 PySem.Spec PyProof.Rows PySem.EX
local macro_rules | `(tactic| walk_at "st") => `(tactic| first | with_reducible exact setAt_z | with_reducible exact setAt_s (by walk_at "st"))
local macro_rules | `(tactic| walk_at "rd1") => `(tactic| first
  | walk_at "sq"
  | with_reducible refine Rd.nxE ?_
  | with_reducible refine Rd.rtE ?_
  | with_reducible refine Rd.ctE ?_
  | with_reducible refine Rd.bkE ?_
  | with_reducible refine Rd.asg ?_
  | ((with_reducible refine' Rd.gnameW ?h0 ?hs ?_); (case h0 => walk_at "wi"); (case hs => walk_at "st"))
  | ((with_reducible refine' Rd.gname ?hs ?_); (case hs => walk_at "st"))
  | with_reducible refine Rd.ifS ?_
  | with_reducible refine Rd.ret ?_
  | with_reducible refine Rd.retN ?_
  | with_reducible refine Rd.drop ?_
  | with_reducible refine Rd.next ?_
  | ((with_reducible refine' Rd.var ?hv ?_); (case hv => exact rfl))
  | with_reducible refine Rd.c ?_
  | with_reducible refine Rd.op ?_
  | with_reducible refine Rd.un ?_
  | with_reducible refine Rd.neg ?_
  | with_reducible refine Rd.i0 ?_
  | with_reducible refine Rd.test ?_
  | with_reducible refine Rd.chain ?_
  | with_reducible refine Rd.tB ?_
  | with_reducible refine Rd.bl ?_
  | with_reducible refine Rd.not ?_
  | with_reducible refine Rd.and ?_
  | with_reducible refine Rd.or ?_
  | with_reducible refine Rd.andV ?_
  | with_reducible refine Rd.orV ?_
  | with_reducible refine Rd.notV ?_
  | with_reducible refine Rd.nilA ?_
  | with_reducible refine Rd.consA ?_
  | with_reducible refine Rd.cb ?_
  | with_reducible refine Rd.int1 ?_
  | with_reducible refine Rd.abs1 ?_
  | with_reducible refine Rd.gsub ?_
  | with_reducible refine Rd.tpar ?_
  | ((with_reducible refine' Rd.par ?hs ?ht ?_); (case hs => walk_at "st"); (case ht => walk_at "st"))
  | with_reducible refine Rd.ttup ?_
  | with_reducible refine Rd.tlst ?_
  | with_reducible refine Rd.isN ?_
  | with_reducible refine Rd.call ?_
  | with_reducible refine Rd.sl ?_
  | with_reducible refine Rd.noPart ?_
  | with_reducible refine Rd.part ?_
  | with_reducible refine Rd.ex_int ?_
  | with_reducible refine Rd.bm ?_
  | with_reducible refine Rd.tfld ?_
  | with_reducible refine Rd.tforT fun TB hTB => ?_
  | with_reducible refine Rd.tlc ?_
  | with_reducible refine Rd.mk1 ?_
  | with_reducible refine Rd.tdc ?_
  | with_reducible refine Rd.sfld ?_
  | with_reducible refine Rd.methP ?_
  | with_reducible refine Rd.xf ?_

  | with_reducible refine Rd.itemP ?_
  | with_reducible refine Rd.ost ?_
  | with_reducible refine Rd.enumT ?_
  | ((with_reducible refine' Rd.enumTAt ?h1 ?_); (case h1 => walk_at "lk"))
  | with_reducible refine Rd.meth ?_
  | with_reducible refine Rd.make ?_
  | with_reducible refine Rd.prop ?_
  | with_reducible refine Rd.item ?_
  | with_reducible refine Rd.sprop ?_
  | with_reducible refine Rd.star ?_
  | ((with_reducible refine' Rd.starL ?h1 ?_); (case h1 => walk_at "lk"))
  | with_reducible refine Rd.tdget ?_
  | ((with_reducible refine' Rd.fld ?h1 ?h2 ?h3 ?h4 ?_); (case h1 => walk_at "lk"); (case h2 => walk_at "cl"); (case h3 => walk_at "na"); (case h4 => walk_at "fl"))
  | ((with_reducible refine' Rd.ty ?h1 ?_); (case h1 => walk_at "lk"))
  | with_reducible refine Rd.tyes ?_
  | with_reducible refine Rd.noN ?_
  | with_reducible refine Rd.noNr ?_
  | with_reducible refine Rd.yesN ?_
  | with_reducible refine Rd.yesI ?_
  | with_reducible refine Rd.yesR ?_
  | with_reducible refine Rd.noNN ?_
  | with_reducible refine Rd.yes rfl ?_
  | with_reducible refine Rd.no Bool.false_ne_true ?_
  | ((with_reducible refine' Rd.wp ?h1 ?_); (case h1 => exact rfl))
  | ((with_reducible refine' Rd.isi ?h1 ?h2 ?_); (case h1 => walk_at "lk"); (case h2 => first | exact kit_int (dp_nodict (by with_reducible assumption)) | exact kit_bool (dp_nodict (by with_reducible assumption))))
  | with_reducible refine Rd.enum ?_
  | ((with_reducible refine' Rd.enumAt ?h1 ?_); (case h1 => walk_at "lk"))
  | with_reducible refine Rd.rng1 ?_
  | with_reducible refine Rd.rng2 ?_
  | with_reducible refine Rd.ilist ?_
  | with_reducible refine Rd.itup ?_
  | ((with_reducible refine' Rd.ilistAt ?h1 ?_); (case h1 => walk_at "lk"))
  | ((with_reducible refine' Rd.itupAt ?h1 ?_); (case h1 => walk_at "lk"))
  | ((with_reducible refine' Rd.slL ?h1 (fun q H1 nq sq hq => ?_)); (case h1 => walk_at "lk"))
  | with_reducible refine Rd.gcons ?_
  | with_reducible refine Rd.gnil ?_
  | ((with_reducible refine' Rd.gtup ?h1 ?h2 ?_); (case h1 => walk_at "lk"); (case h2 => exact rfl))
  | ((with_reducible refine' Rd.lenL ?h1 ?_); (case h1 => walk_at "lk"))
  | ((with_reducible refine' Rd.lenT ?h1 ?_); (case h1 => walk_at "lk"))
  | ((with_reducible refine' Rd.ixA ?h1 ?h2 ?_); (case h1 => walk_at "lk"); (case h2 => exact rfl))
  | ((with_reducible refine' Rd.ixB ?h1 ?h2 ?_); (case h1 => walk_at "lk"); (case h2 => exact rfl))
  | ((with_reducible refine' Rd.ixL ?h1 ?h2 ?_); (case h1 => walk_at "lk"); (case h2 => exact rfl))
  | ((with_reducible refine' Rd.newAt ?h1 (fun p H1 np sp hp => ?_)); (case h1 => exact sz_small (Nat.le_of_ble_eq_true rfl)))
  | ((with_reducible refine' Rd.ic ?h1 ?_); (case h1 => walk_at "sd"))
  | ((with_reducible refine' Rd.setL ?h1 ?h2 ?h3 ?_); (case h1 => walk_at "lk"); (case h2 => exact rfl); (case h3 => walk_at "st")))
local macro_rules | `(tactic| walk_at "rd") => `(tactic| repeat walk_at "rd1")
local macro_rules | `(tactic| walk_at "lk") => `(tactic| first
  | with_reducible assumption
  | exact upd_same
  | exact SqL.of upd_same
  | exact SqT.of upd_same
  | exact SqL.of (by with_reducible assumption)
  | exact SqT.of (by with_reducible assumption)
  | ((with_reducible refine' same_get ?lks ?lkh); (case lks => with_reducible assumption); (case lkh => walk_at "lk"))
  | ((with_reducible refine' Same.seq ?lks ?lkh); (case lks => with_reducible assumption); (case lkh => walk_at "lk"))
  | ((with_reducible refine' sqT_mono ?lks ?lkh); (case lks => with_reducible assumption); (case lkh => walk_at "lk"))
  | ((with_reducible refine' dp_mono ?lks ?lkh); (case lks => with_reducible assumption); (case lkh => walk_at "lk")))
local macro_rules | `(tactic| walk_at "sd") => `(tactic| first
  | with_reducible assumption
  | decide
  | omega
  | exact Or.inl ⟨by decide, by decide⟩
  | exact ⟨by decide, by decide, by decide⟩
  | exact Or.inr ⟨by decide, by decide⟩
  | exact Or.inl ⟨by omega, by omega⟩
  | exact wide_div (by decide) (by decide : _ < 2 ^ 200) (by decide) (by decide)
  | exact wide_div (by with_reducible assumption) (by assumption : _ < 2 ^ 200) (by decide) (by decide))

local macro_rules | `(tactic| walk_at "cl") => `(tactic| first | exact ct_k (by with_reducible assumption) | exact cl_Tree (by with_reducible assumption) | exact cl_Spot (by with_reducible assumption) | exact cl_Edit (by with_reducible assumption))
local macro_rules | `(tactic| walk_at "na") => `(tactic| first | exact ct_rows (by with_reducible assumption) | exact ct_left (by with_reducible assumption) | exact na_rows (by with_reducible assumption) | exact na_left (by with_reducible assumption) | exact na_tree (by with_reducible assumption) | exact na_key (by with_reducible assumption) | exact na_etree (by with_reducible assumption) | exact na_saved (by with_reducible assumption))
local macro_rules | `(tactic| walk_at "fl") => `(tactic| first | exact lk_head | exact lk_second (by decide +kernel))
local macro_rules | `(tactic| walk_at "wi") => `(tactic| first | (simp only [wipe, List.map_cons, List.map_nil, List.set_cons_succ, List.set_cons_zero]; done) | (simp only [wipe, List.map_cons, List.map_nil, List.set_cons_succ, List.set_cons_zero]; exact rfl))

set_option hygiene false in
local macro_rules | `(tactic| walk_at "sq") => `(tactic| with_reducible refine Rd.seqT fun S2 hS2 => ?_)
set_option hygiene false in
local macro_rules | `(tactic| walk_at "nx") => `(tactic| subst hS2)

section
variable {P : Program} {w : World} {K : PySem.W.Frag} {mg : Str → Option Value} {base : Heap} {A : Ad} {L : AdL} {C fp fa : Addr} {b : Bool}
open L2H HotX
theorem frNew {X : List Addr} {H H1 H2 : Hp} {p : Addr} (f : Fr [p] H H1) (g : Fr X H1 H2) (h : ∀ x, x ∈ X → x = p ∨ H x = none) : Fr [p] H H2 := fun b o n e => by
  refine g b o (fun z => ?_) (f b o n e)
  rcases h b z with q | q
  · exact n (by rw [q]; simp)
  · rw [q] at e; cases e
theorem Fr.free {X : List Addr} {H H1 : Hp} {n : Addr} (f : Fr X H H1) (nn : H1 n = none) (h : ∀ x, x ∈ X → ∃ o, H1 x = some o) : H n = none := by
  cases e : H n with
  | none => rfl
  | some o =>
    by_cases z : n ∈ X
    · obtain ⟨u, q⟩ := h n z
      rw [q] at nn; cases nn
    · rw [f n o z e] at nn; cases nn
theorem StAt.otherS {X S : List Addr} {dx : Addr} {l : V} {og : Option Addr} {H H' : Hp} {t o : Addr} {u : HO} {rows : List Row} {log : List PyData} (h : StAt K S C dx l og H t rows log) (f : Fr (o :: X) H H') (hX : ∀ x, x ∈ X → x ∈ S ∧ x ∉ og.toList) (hs : ∀ x, x ∈ o :: X → ∃ u, H' x = some u) (ho : H o = some u) (nu : NoSeq u) (n : t ≠ o) (no : o ∉ S) : StAt K S C dx l og H' t rows log := by
  have sub := h.sub
  have fS : Fr1 o (hid S H) (hid S H') := fun b x nb e => by
    obtain ⟨e1, e2⟩ := hid_some e
    exact (hid_out e2).trans (f b x (fun z => by
      rcases List.mem_cons.mp z with z | z
      · exact nb z
      · exact e2 (hX b z).1) e1)
  obtain ⟨⟨hr, a, ht, hR⟩, okS, ntS, h2, h3⟩ := h
  have hoS := (hid_out (H := H) no).trans ho
  refine ⟨⟨hr, a, f t _ (fun z => ?_) ht, rows_fr1 fS hoS nu hR⟩, okS.of f hs, ntS, fun g eg => ?_, h3⟩
  · rcases List.mem_cons.mp z with z | z
    · exact n z
    · exact ntS (hX t z).1
  · obtain ⟨ng, xs, hg, hx⟩ := h2 g eg
    refine ⟨ng, xs, f g _ (fun z => ?_) hg, dpAll_fr1 fS hoS nu hx⟩
    rcases List.mem_cons.mp z with z | z
    · exact no (by rw [← z]; exact ng)
    · exact (hX g z).2 (by rw [eg]; simp)
theorem TwoT.otherS {X S : List Addr} {p t o : Addr} {og : Option Addr} {dx : Addr} {l : V} {dx' : Addr} {l' : V} {CT : Addr} {H H' : Hp} {rows rows' rowsN : List Row} {log : List PyData} (h : TwoT K CT C b S p t o og dx l dx' l' H rows rows' log) (f : Fr (o :: X) H H') (hX : ∀ x, x ∈ X → x ∈ S ∧ x ∉ og.toList) (hs : ∀ x, x ∈ X → ∃ u, H' x = some u) (bg : BagAt H' p) (ot : TreeS K S CT dx' [("left", l')] H' o rowsN) : TwoT K CT C b S p t o og dx l dx' l' H' rows rowsN log := by
  obtain ⟨_, a, ho, _⟩ := id h.ot
  obtain ⟨_, a', ho', _⟩ := id ot
  exact ⟨h.hb, h.st.otherS f hX (fun x z => by
    rcases List.mem_cons.mp z with z | z
    · rw [z]; exact ⟨_, ho'⟩
    · exact hs x z) ho trivial h.ne.symm h.no, h.ent, h.pS, h.np, h.no, h.ne, bg, ot⟩
/-- a turn -/
def spTurn (b : Bool) : TS := fun D σ H => ∃ (a0 a1 : Option V) (p : Addr) (j : Nat) (us : List (Option V)), σ = a0 :: a1 :: some (.ref p) :: some (.int (j : Nat)) :: us ∧ us.length = 18 ∧ BagAt H p ∧ decide ((j : Int) % 2 = 1) = b ∧
  ∀ H' us', Fr [p] H H' → BagAt H' p → us'.length = 18 → D.nx (a0 :: a1 :: some (.ref p) :: some (.int (j : Nat)) :: us') H'
theorem us18 {us : List (Option V)} (h : us.length = 18) : ∃ a b c d e f g i j k l m n o p q r s, us = [a, b, c, d, e, f, g, i, j, k, l, m, n, o, p, q, r, s] := match us, h with | [a, b, c, d, e, f, g, i, j, k, l, m, n, o, p, q, r, s], _ => ⟨a, b, c, d, e, f, g, i, j, k, l, m, n, o, p, q, r, s, rfl⟩
theorem blk_turn (T : TxtL P K mg A L) (F : ClsF P w K base mg A C b fp fa) (hC : C = if b then A.c_Log else A.c_Tree) (hna : b = true → NoAttr K C "log") {f : Addr} {cdv : Value} {Ar : Around} {outer : List Env} {s0 : Shared} {Hz : Hp} {E : XK} (hr : Room 14 (LX P w K mg base f cdv Ar outer s0 Hz E).A) :
    PSs (LX P w K mg base f cdv Ar outer s0 Hz E) (fB (nthS (fB (nthS (defBody s_law) 0)) 1)) (spTurn b) := by
  have G__law_take := ok_take (P := P) (w := w) (base := base) T.b T.F__law_take
  have b__law_take := T.F__law_take.binds (ps := ["_law_bag_here", "_law_many"]) fun _ _ _ _ _ _ us hl => match us, hl with | [_, _], _ => rfl
  have hnum := blk_num (P := P) (w := w) (base := base) (b := b) (f := f) (cdv := cdv) (Ar := Ar) (outer := outer) (s0 := s0) (Hz := Hz) (E := E) T hr
  have htrees := blk_trees (P := P) (w := w) (base := base) (C := C) (b := b) (f := f) (cdv := cdv) (Ar := Ar) (outer := outer) (s0 := s0) (Hz := Hz) (E := E) T hC hr
  have hput := blk_put (P := P) (w := w) (base := base) (f := f) (cdv := cdv) (Ar := Ar) (outer := outer) (s0 := s0) (Hz := Hz) (E := E) T F hr
  have hthere := blk_there (P := P) (w := w) (base := base) (f := f) (cdv := cdv) (Ar := Ar) (outer := outer) (s0 := s0) (Hz := Hz) (E := E) T F hr
  have hmk := blk_mk (P := P) (w := w) (base := base) (f := f) (cdv := cdv) (Ar := Ar) (outer := outer) (s0 := s0) (Hz := Hz) (E := E) T hr
  have hsb := blk_sb (P := P) (w := w) (base := base) (f := f) (cdv := cdv) (Ar := Ar) (outer := outer) (s0 := s0) (Hz := Hz) (E := E) T hr
  have htb := blk_tb (P := P) (w := w) (base := base) (f := f) (cdv := cdv) (Ar := Ar) (outer := outer) (s0 := s0) (Hz := Hz) (E := E) T F hna hr
  have hu1 := hu65 hr
  refine PSs.weak (pss_cons hnum
    (pss_cons htrees
    (pss_cons (ps_for (passes_of rfl) rfl (pi_range1 (by rfl) T.n_range (pa_cons (pe_op op_add pe_int (pe_call G__law_take (hr.mono (by decide)) rfl T.g__law_take T.F__law_take.kp b__law_take .nil passX (pa_cons (pv 2) (pa_cons pe_int pa_nil)))) pa_nil)) (pg_name (i := 9) sc_law.nd rfl (by first | exact Or.inl rfl | exact Or.inr rfl)) hput)
    (pss_cons hthere
    (pss_cons (ps_for (passes_of rfl) rfl (pi_range1 (by rfl) T.n_range (pa_cons (pe_call G__law_take (hr.mono (by decide)) rfl T.g__law_take T.F__law_take.kp b__law_take .nil passX (pa_cons (pv 2) (pa_cons pe_int pa_nil))) pa_nil)) (pg_name (i := 9) sc_law.nd rfl (by first | exact Or.inl rfl | exact Or.inr rfl)) hmk)
    (pss_cons (ps_par (i := 16) (j := 17) rfl sc_law.nd rfl rfl (by decide) rfl rfl (pa_cons pe_non (pa_cons (pe_lst pa_nil) pa_nil)) (by rfl))
    (pss_cons (ps_for (passes_of rfl) rfl (pi_enum (by rfl) T.n_enumerate (pa_cons (pv 14) pa_nil)) (Kx.pg_tup (K := K) (n := 2) rfl rfl (pgs_cons (pg_name (i := 18) sc_law.nd rfl (by first | exact Or.inl rfl | exact Or.inr rfl)) (pgs_cons (pg_name (i := 19) sc_law.nd rfl (by first | exact Or.inl rfl | exact Or.inr rfl)) pgs_nil))) hsb)
    htb))))))) (fun D σ H9 hh => ?_)
  obtain ⟨dn, dr, db, dc⟩ := D
  obtain ⟨a0, a1, p, j, us, rfl, hus, bg, hj, q⟩ := hh
  obtain ⟨u4, u5, u6, u7, u8, u9, u10, u11, u12, u13, u14, u15, u16, u17, u18, u19, u20, u21, rfl⟩ := us18 hus
  refine Rd.seq ?_
  refine ⟨a0, a1, u4, u5, u6, p, j, _, rfl, bg, hj, fun H1 bs stp f1 bg1 hb hs => ?_⟩
  refine Rd.seq ?_
  refine ⟨a0, a1, _, _, _, u7, u8, _, p, rfl, bg1, fun H2 S t o og dx l dx' l' tw2 s2 nt no ngo hSn => ?_⟩
  have f2 : Fr [p] H9 H2 := f1.trans (fr_same s2)
  have bgs : ∀ {H5 : Hp}, BagAt H5 p → ∀ x, x ∈ [p] → ∃ o, H5 x = some o := fun bg5 x z => by
    obtain ⟨_, _, _, _, _, e⟩ := bg5
    rw [show x = p by simpa using z]
    exact ⟨_, e⟩
  have nt9 := f1.free nt (bgs bg1)
  have no9 := f1.free no (bgs bg1)
  have ng9 : ∀ g, og = some g → H9 g = none := fun g e => f1.free (ngo g e) (bgs bg1)
  walk_at "rd"
  rename_i TB hTB
  subst hTB
  refine take_at tw2.bg (by decide) (by decide) fun d3 H3 d30 d31 o3 bg3 => ?_
  have tw3 := tw2.take o3 bg3
  have f3 := f2.trans (o3.fr (S := [p]) (by simp))
  obtain ⟨MM, hMM, hM2, hM30⟩ : ∃ M : Nat, 2 + d3 = (M : Int) ∧ 2 ≤ M ∧ M ≤ 30 := ⟨(2 + d3).toNat, by omega, by omega, by omega⟩
  walk_at "rd"
  rw [hMM]
  refine ⟨by omega, by omega, ?_⟩
  refine for_it walk_range (fun i σ H4 => ∃ u9 u10 u11 rows log, σ = [a0, a1, some (V.ref p), some (V.int (j : Nat)), some (V.int bs), some (V.int stp), some (V.bl b), some (V.ref t), some (V.ref o), u9, u10, u11, u12, u13, u14, u15, u16, u17, u18, u19, u20, u21] ∧
      Fr [p] H9 H4 ∧ TwoT K A.c_Tree C b S p t o og dx l dx' l' H4 rows rows log ∧ log.length ≤ i ∧ KeysUp bs stp i rows)
    ⟨_, _, _, [], [], rfl, f3, tw3, Nat.le_refl _, tr_nil, rfl, fun k => ⟨fun z => (by cases z), fun ⟨m, z, _⟩ => (by omega)⟩⟩ (fun _ _ _ _ _ => trivial) ?_ ?_
  · rintro i x σ H4 H5 hi ⟨v9, v10, v11, rows, log, rfl, f4, tw4, hl4, hk4⟩ ⟨eH, ex⟩
    subst eH
    obtain rfl : x = V.int (i : Nat) := ex.trans (by show V.int (0 + (i : Nat)) = _; rw [Int.zero_add])
    have hiM : i < MM := by omega
    walk_at "rd"
    refine ⟨a0, a1, _, _, _, _, _, S, p, t, o, og, dx, l, dx', l', bs, stp, i, rows, log, rfl, rfl, hb, hs, by omega, tw4, hl4, hk4, fun H6 u10' u11' rows' log' f6 tw6 hl6 hk6 => ?_⟩
    refine ⟨_, _, _, rows', log', rfl, frNew f4 f6 (fun x hx => ?_), tw6, hl6, hk6⟩
    rcases List.mem_cons.mp hx with z | hx
    · exact .inl z
    rcases List.mem_cons.mp hx with z | hx
    · rw [z]; exact .inr nt9
    rcases List.mem_cons.mp hx with z | hx
    · rw [z]; exact .inr no9
    · cases og with
      | none => cases hx
      | some g => rw [show x = g by simpa using hx]; exact .inr (ng9 g rfl)
  · rintro σ H4 ⟨v9, v10, v11, rows, log, rfl, f4, tw4, hl4, ⟨htr, hlen, hkeys⟩⟩
    rw [show ((MM : Int)).toNat = MM from rfl] at hl4 hlen
    have hkeysM : ∀ k, k ∈ keysOf rows ↔ ∃ m : Nat, m < ((MM : Int)).toNat ∧ k = bs + stp * m := hkeys
    walk_at "nx"
    refine Rd.seq ?_
    refine ⟨a0, a1, _, _, _, _, _, _, _, _, _, _, _, _, _, _, S, t, og, dx, l, rows, log, rfl, tw4.st, by omega, fun H5 th rA M ys s5 nth nrA nM n1 n2 n3 hth hrA hys hM => ?_⟩
    have tw5 := tw4.new nM s5 hM
    have f5 := f4.trans (fr_same s5)
    have hSp : ∀ a, a ∈ M :: S → ∃ o, H5 a = some o := tw5.st.okS
    have npM : M ≠ p := fun z => by
      obtain ⟨_, _, _, _, _, e⟩ := tw4.bg
      rw [z, e] at nM
      cases nM
    have npth : th ≠ p := fun z => by
      obtain ⟨_, _, _, _, _, e⟩ := tw4.bg
      rw [z, e] at nth
      cases nth
    have hrA5 : RowsAt K (hid (M :: S) H5) rA rows := by
      have nrS : rA ∉ M :: S := fun z => by
        rcases List.mem_cons.mp z with z | z
        · exact n3 z
        · exact tw4.st.okS.new nrA z
      exact ⟨ys, SqL.of ((hid_out nrS).trans hrA), hys⟩
    have nMo : M ∉ og.toList := fun z => tw4.st.okS.new nM (tw4.st.sub _ z)
    have hkl : 0 < ((keysOf rows).length) ∧ (keysOf rows).length ≤ 1000 := by
      unfold keysOf
      rw [List.length_map]
      omega
    walk_at "rd"
    rename_i TB hTB
    subst hTB
    refine take_at tw5.bg (by decide) (by decide) fun d6 H6 d60 d61 o6 bg6 => ?_
    have tw6 := tw5.take o6 bg6
    have f6 := f5.trans (o6.fr (S := [p]) (by simp))
    have sh6 : Same (hid (M :: S) H5) (hid (M :: S) H6) := (o6.fr (S := [p]) (by simp)).hidS (by simpa using List.mem_cons_of_mem _ tw4.pS)
    walk_at "rd"
    refine ⟨by omega, by omega, ?_⟩
    refine for_it walk_range (fun i σ H4 => ∃ u9 u11 u15 xs ms, σ = [a0, a1, some (V.ref p), some (V.int (j : Nat)), some (V.int bs), some (V.int stp), some (V.bl b), some (V.ref t), some (V.ref o), u9, v10, u11, some (V.ref th), some (V.ref rA), some (V.ref M), u15, u16, u17, u18, u19, u20, u21] ∧
        Fr [p] H9 H4 ∧ TwoT K A.c_Tree C b (M :: S) p t o og dx l dx' l' H4 rows rows log ∧ RowsAt K (hid (M :: S) H4) rA rows ∧ H4 th = some (.lst ((keysOf rows).map V.int)) ∧ H4 M = some (.lst xs) ∧ MovesAt K (hid (M :: S) H4) xs ms ∧ ms.length ≤ i)
      ⟨_, _, _, [], [], rfl, f6, tw6, rows_mono sh6 hrA5, (o6 th npth).trans hth, (o6 M npM).trans hM, trivial, Nat.le_refl _⟩ (fun _ _ _ _ _ => trivial) ?_ ?_
    · rintro i x σ H7 H8 hi ⟨w9, w11, w15, xs, ms, rfl, f7, tw7, hr7, hth7, hM7, hms7, hml7⟩ ⟨eH, ex⟩
      subst eH
      obtain rfl : x = V.int (i : Nat) := ex.trans (by show V.int (0 + (i : Nat)) = _; rw [Int.zero_add])
      walk_at "rd"
      refine ⟨a0, a1, _, _, _, _, _, _, _, _, _, _, _, [_, _, _, _, _, _], p, th, M, keysOf rows, M :: S, xs, ms, rfl, rfl, tw7.bg, hth7, hkl.1, hkl.2, hM7, by rw [moves_len hms7]; omega, npth.symm, npM.symm, n2, tw7.pS, List.mem_cons_self, fun a ha z => ?_, hms7, fun H8 a11' a15' x m f8 bg8 hM8 hms8 => ?_⟩
      · obtain ⟨u, e⟩ := tw7.st.okS a ha
        rw [e] at z
        cases z
      · have hX : ∀ x, x ∈ [p, M] → x ∈ M :: S ∧ x ∉ og.toList := fun x z => by
          rcases List.mem_cons.mp z with z | z
          · rw [z]; exact ⟨tw7.pS, tw7.np⟩
          · rw [show x = M by simpa using z]; exact ⟨List.mem_cons_self, nMo⟩
        have hs8 : ∀ x, x ∈ [p, M] → ∃ u, H8 x = some u := fun x z => by
          rcases List.mem_cons.mp z with z | z
          · obtain ⟨_, _, _, _, _, e⟩ := bg8
            rw [z]; exact ⟨_, e⟩
          · rw [show x = M by simpa using z]; exact ⟨_, hM8⟩
        refine ⟨_, _, _, _, _, rfl, frNew f7 f8 (fun x z => ?_), tw7.frS f8 hX hs8 bg8, rows_mono (f8.hidS fun x z => (hX x z).1) hr7, f8 th _ (by simpa using ⟨npth, n2⟩) hth7, hM8, hms8, by rw [List.length_append]; exact Nat.succ_le_succ hml7⟩
        rcases List.mem_cons.mp z with z | z
        · exact .inl z
        · rw [show x = M by simpa using z]; exact .inr (f4.free nM (bgs tw4.bg))
    · rintro σ H7 ⟨w9, w11, w15, xs, ms, rfl, f7, tw7, hr7, hth7, hM7, hms7, hml7⟩
      have hm5 : ms.length ≤ 5 := by
        have : d6.toNat ≤ 5 := by omega
        omega
      clear hth7
      walk_at "nx"
      walk_at "rd"
      rename_i G H8 nG s8 hG
      have tw8 := tw7.new nG s8 hG
      have f8 := f7.trans (fr_same s8)
      have sh8 : Same (hid (M :: S) H7) (hid (G :: M :: S) H8) := same_hid_cons nG s8
      have nGo : G ∉ og.toList := fun z => tw7.st.okS.new nG (tw7.st.sub _ z)
      have nGp : G ≠ p := fun z => by
        obtain ⟨_, _, _, _, _, e⟩ := tw7.bg
        rw [z, e] at nG
        cases nG
      have nGM : G ≠ M := fun z => by rw [z, hM7] at nG; cases nG
      walk_at "nx"
      walk_at "rd"
      rename_i TB hTB
      subst hTB
      have inS : ∀ x, x ∈ [G] → x ∈ G :: M :: S ∧ x ∉ og.toList := fun x z => by rw [show x = G by simpa using z]; exact ⟨List.mem_cons_self, nGo⟩
      refine for_it (walk_enum (xs := xs)) (fun i σ H4 => ∃ u18 u19 u20 R gs due st n, σ = [a0, a1, some (V.ref p), some (V.int (j : Nat)), some (V.int bs), some (V.int stp), some (V.bl b), some (V.ref t), some (V.ref o), w9, v10, w11, some (V.ref th), some (V.ref rA), some (V.ref M), w15, some due, some (V.ref G), u18, u19, u20, u21] ∧
          Fr [p] H9 H4 ∧ TwoT K A.c_Tree C b (G :: M :: S) p t o og dx l dx' l' H4 rows R log ∧ RowsAt K (hid (G :: M :: S) H4) rA rows ∧ H4 M = some (.lst xs) ∧ MovesAt K (hid (G :: M :: S) H4) xs ms ∧ H4 G = some (.lst gs) ∧ MovesAt K (hid (G :: M :: S) H4) gs (ms.take n) ∧ DueAt (hid (G :: M :: S) H4) st due ∧ Mid rows ms i st n R ∧ n ≤ ms.length)
        ⟨_, _, _, rows, [], _, none, 0, rfl, f8, tw8, rows_mono sh8 hr7, s8 _ _ hM7, moves_mono sh8 hms7, hG, trivial, rfl, .run .nil, Nat.zero_le _⟩ (fun i σ H4 _ pv => ?_) ?_ ?_
      · obtain ⟨_, _, _, _, _, _, _, _, _, _, _, _, hM4, _⟩ := pv
        exact SqL.of hM4
      · rintro i x σ H4 H5' hi ⟨w18, w19, w20, R, gs, due, st, n, rfl, g4, tx4, hr4, hM4, hms4, hG4, hgs4, hdue4, mid4, hn4⟩ ⟨TT, x1, y1, rfl, nTT, rfl, e1, e2⟩
        cases e1
        obtain ⟨m, T', kx, px, em, rfl, hT', hd1, hd2⟩ := moves_at hms4 e2
        have s4 : Same H4 (upd H4 TT (.tup [.int (i : Nat), .ref T'])) := same_upd nTT
        have hTT : SqT K (upd H4 TT (.tup [.int (i : Nat), .ref T'])) TT [.int (i : Nat), .ref T'] := SqT.of upd_same
        generalize upd H4 TT (.tup [.int (i : Nat), .ref T']) = H10 at s4 hTT
        have tx := tx4.same s4
        have sh4 : Same (hid (G :: M :: S) H4) (hid (G :: M :: S) H10) := Same.hid s4
        walk_at "rd"
        refine ⟨_, _, _, _, _, _, _, _, _, _, _, _, _, _, _, _, _, o, G, T', kx, px, due, m, G :: M :: S, G :: M :: S, dx', l', rows, R, ms, gs, i, n, st, rfl, htr, by omega, ms_at em, by omega, mid4, hn4, tx.ot, tx.st.okS, tx.no, List.mem_cons_self, List.mem_cons_self, tx.no, (fun z => tx.no (by rw [z]; exact List.mem_cons_self)), sqT_mono sh4 hT', dp_mono sh4 hd1, dp_mono sh4 hd2, s4 _ _ hG4, moves_mono sh4 hgs4, hdue4.same sh4, fun H11 st' n' R' gs' due' a20' f11 mid' hn' ot' hG11 hgs11 hdue11 => ?_⟩
        obtain ⟨_, ao, ho10, _⟩ := id tx.ot
        have hoS := (hid_out (H := H10) tx.no).trans ho10
        have fo : Fr1 o (hid (G :: M :: S) H10) (hid (G :: M :: S) H11) := fun c y nc e => by
          obtain ⟨e1, e2⟩ := hid_some e
          exact (hid_out e2).trans (f11 c y (by simpa using ⟨nc, fun z => e2 (by rw [z]; simp)⟩) e1)
        have bg11 : BagAt H11 p := bag_fr tx.bg f11 (by simpa using ⟨tx.op.symm, nGp.symm⟩)
        refine ⟨_, _, _, R', gs', due', st', n', rfl, frNew (g4.trans (fr_same s4)) f11 (fun x z => ?_), tx.otherS f11 inS (fun x z => by rw [show x = G by simpa using z]; exact ⟨_, hG11⟩) bg11 ot', rows_fr1 fo hoS trivial (rows_mono sh4 hr4), f11 M _ (by simpa using ⟨fun z => tx.no (by rw [← z]; simp), nGM.symm⟩) (s4 _ _ hM4), moves_fr1 fo hoS trivial (moves_mono sh4 hms4), hG11, hgs11, hdue11, mid', hn'⟩
        rcases List.mem_cons.mp z with z | z
        · rw [z]; exact .inr no9
        · rw [show x = G by simpa using z]; exact .inr (f7.free nG (bgs tw7.bg))
      · rintro σ H4 ⟨w18, w19, w20, R, gs, due, st, n, rfl, g4, tx4, hr4, hM4, hms4, hG4, hgs4, hdue4, mid4, hn4⟩
        walk_at "nx"
        rw [moves_len hms4] at mid4
        refine ⟨a0, a1, _, _, _, _, _, _, _, _, _, _, _, _, G :: M :: S, p, t, o, rA, M, G, due, og, dx, l, dx', l', rows, R, log, xs, gs, ms, st, n, rfl, tx4, htr, by omega, by omega, hr4, by simp, nMo, by simp, nGo, hM4, hms4, hm5, hG4, hgs4, hdue4, mid4, fun H12 us' f12 bg12 hus' => ?_⟩
        refine q H12 us' (frNew g4 f12 fun x z => ?_) bg12 hus'
        rcases List.mem_cons.mp z with z | z
        · rw [z]; exact .inr nt9
        · cases og with
          | none => cases z
          | some g => rw [show x = g by simpa using z]; exact .inr (ng9 g rfl)
end
end PR
end

section
set_option maxHeartbeats 4000000
namespace PR
open PySem L2 PySem.Spec PyProof.Rows PySem.EX
local macro_rules | `(tactic| walk_at "st") => `(tactic| first | with_reducible exact setAt_z | with_reducible exact setAt_s (by walk_at "st"))
local macro_rules | `(tactic| walk_at "rd1") => `(tactic| first
  | walk_at "sq"
  | with_reducible refine Rd.nxE ?_
  | with_reducible refine Rd.rtE ?_
  | with_reducible refine Rd.ctE ?_
  | with_reducible refine Rd.bkE ?_
  | with_reducible refine Rd.asg ?_
  | ((with_reducible refine' Rd.gnameW ?h0 ?hs ?_); (case h0 => walk_at "wi"); (case hs => walk_at "st"))
  | ((with_reducible refine' Rd.gname ?hs ?_); (case hs => walk_at "st"))
  | with_reducible refine Rd.ifS ?_
  | with_reducible refine Rd.ret ?_
  | with_reducible refine Rd.retN ?_
  | with_reducible refine Rd.drop ?_
  | with_reducible refine Rd.next ?_
  | ((with_reducible refine' Rd.var ?hv ?_); (case hv => exact rfl))
  | with_reducible refine Rd.c ?_
  | with_reducible refine Rd.op ?_
  | with_reducible refine Rd.un ?_
  | with_reducible refine Rd.neg ?_
  | with_reducible refine Rd.i0 ?_
  | with_reducible refine Rd.test ?_
  | with_reducible refine Rd.chain ?_
  | with_reducible refine Rd.tB ?_
  | with_reducible refine Rd.bl ?_
  | with_reducible refine Rd.not ?_
  | with_reducible refine Rd.and ?_
  | with_reducible refine Rd.or ?_
  | with_reducible refine Rd.andV ?_
  | with_reducible refine Rd.orV ?_
  | with_reducible refine Rd.notV ?_
  | with_reducible refine Rd.nilA ?_
  | with_reducible refine Rd.consA ?_
  | with_reducible refine Rd.cb ?_
  | with_reducible refine Rd.int1 ?_
  | with_reducible refine Rd.abs1 ?_
  | with_reducible refine Rd.gsub ?_
  | with_reducible refine Rd.tpar ?_
  | ((with_reducible refine' Rd.par ?hs ?ht ?_); (case hs => walk_at "st"); (case ht => walk_at "st"))
  | with_reducible refine Rd.ttup ?_
  | with_reducible refine Rd.tlst ?_
  | with_reducible refine Rd.isN ?_
  | with_reducible refine Rd.call ?_
  | with_reducible refine Rd.sl ?_
  | with_reducible refine Rd.noPart ?_
  | with_reducible refine Rd.part ?_
  | with_reducible refine Rd.ex_int ?_
  | with_reducible refine Rd.bm ?_
  | with_reducible refine Rd.tfld ?_
  | with_reducible refine Rd.tforT fun TB hTB => ?_
  | with_reducible refine Rd.tlc ?_
  | with_reducible refine Rd.mk1 ?_
  | with_reducible refine Rd.tdc ?_
  | with_reducible refine Rd.sfld ?_
  | with_reducible refine Rd.methP ?_
  | with_reducible refine Rd.xf ?_

  | with_reducible refine Rd.itemP ?_
  | with_reducible refine Rd.ost ?_
  | with_reducible refine Rd.enumT ?_
  | ((with_reducible refine' Rd.enumTAt ?h1 ?_); (case h1 => walk_at "lk"))
  | with_reducible refine Rd.meth ?_
  | with_reducible refine Rd.make ?_
  | with_reducible refine Rd.prop ?_
  | with_reducible refine Rd.item ?_
  | with_reducible refine Rd.sprop ?_
  | with_reducible refine Rd.star ?_
  | ((with_reducible refine' Rd.starL ?h1 ?_); (case h1 => walk_at "lk"))
  | with_reducible refine Rd.tdget ?_
  | ((with_reducible refine' Rd.fld ?h1 ?h2 ?h3 ?h4 ?_); (case h1 => walk_at "lk"); (case h2 => walk_at "cl"); (case h3 => walk_at "na"); (case h4 => walk_at "fl"))
  | ((with_reducible refine' Rd.ty ?h1 ?_); (case h1 => walk_at "lk"))
  | with_reducible refine Rd.tyes ?_
  | with_reducible refine Rd.noN ?_
  | with_reducible refine Rd.noNr ?_
  | with_reducible refine Rd.yesN ?_
  | with_reducible refine Rd.yesI ?_
  | with_reducible refine Rd.yesR ?_
  | with_reducible refine Rd.noNN ?_
  | with_reducible refine Rd.yes rfl ?_
  | with_reducible refine Rd.no Bool.false_ne_true ?_
  | ((with_reducible refine' Rd.wp ?h1 ?_); (case h1 => exact rfl))
  | ((with_reducible refine' Rd.isi ?h1 ?h2 ?_); (case h1 => walk_at "lk"); (case h2 => first | exact kit_int (dp_nodict (by with_reducible assumption)) | exact kit_bool (dp_nodict (by with_reducible assumption))))
  | with_reducible refine Rd.enum ?_
  | ((with_reducible refine' Rd.enumAt ?h1 ?_); (case h1 => walk_at "lk"))
  | with_reducible refine Rd.rng1 ?_
  | with_reducible refine Rd.rng2 ?_
  | with_reducible refine Rd.ilist ?_
  | with_reducible refine Rd.itup ?_
  | ((with_reducible refine' Rd.ilistAt ?h1 ?_); (case h1 => walk_at "lk"))
  | ((with_reducible refine' Rd.itupAt ?h1 ?_); (case h1 => walk_at "lk"))
  | ((with_reducible refine' Rd.slL ?h1 (fun q H1 nq sq hq => ?_)); (case h1 => walk_at "lk"))
  | with_reducible refine Rd.gcons ?_
  | with_reducible refine Rd.gnil ?_
  | ((with_reducible refine' Rd.gtup ?h1 ?h2 ?_); (case h1 => walk_at "lk"); (case h2 => exact rfl))
  | ((with_reducible refine' Rd.lenL ?h1 ?_); (case h1 => walk_at "lk"))
  | ((with_reducible refine' Rd.lenT ?h1 ?_); (case h1 => walk_at "lk"))
  | ((with_reducible refine' Rd.ixA ?h1 ?h2 ?_); (case h1 => walk_at "lk"); (case h2 => exact rfl))
  | ((with_reducible refine' Rd.ixB ?h1 ?h2 ?_); (case h1 => walk_at "lk"); (case h2 => exact rfl))
  | ((with_reducible refine' Rd.ixL ?h1 ?h2 ?_); (case h1 => walk_at "lk"); (case h2 => exact rfl))
  | ((with_reducible refine' Rd.newAt ?h1 (fun p H1 np sp hp => ?_)); (case h1 => exact sz_small (Nat.le_of_ble_eq_true rfl)))
  | ((with_reducible refine' Rd.ic ?h1 ?_); (case h1 => walk_at "sd"))
  | ((with_reducible refine' Rd.setL ?h1 ?h2 ?h3 ?_); (case h1 => walk_at "lk"); (case h2 => exact rfl); (case h3 => walk_at "st")))
local macro_rules | `(tactic| walk_at "rd") => `(tactic| repeat walk_at "rd1")
local macro_rules | `(tactic| walk_at "lk") => `(tactic| first
  | with_reducible assumption
  | exact upd_same
  | exact SqL.of upd_same
  | exact SqT.of upd_same
  | exact SqL.of (by with_reducible assumption)
  | exact SqT.of (by with_reducible assumption)
  | ((with_reducible refine' same_get ?lks ?lkh); (case lks => with_reducible assumption); (case lkh => walk_at "lk"))
  | ((with_reducible refine' Same.seq ?lks ?lkh); (case lks => with_reducible assumption); (case lkh => walk_at "lk"))
  | ((with_reducible refine' sqT_mono ?lks ?lkh); (case lks => with_reducible assumption); (case lkh => walk_at "lk"))
  | ((with_reducible refine' dp_mono ?lks ?lkh); (case lks => with_reducible assumption); (case lkh => walk_at "lk")))
local macro_rules | `(tactic| walk_at "sd") => `(tactic| first
  | with_reducible assumption
  | decide
  | omega
  | exact Or.inl ⟨by decide, by decide⟩
  | exact ⟨by decide, by decide, by decide⟩
  | exact Or.inr ⟨by decide, by decide⟩
  | exact Or.inl ⟨by omega, by omega⟩
  | exact wide_div (by decide) (by decide : _ < 2 ^ 200) (by decide) (by decide)
  | exact wide_div (by with_reducible assumption) (by assumption : _ < 2 ^ 200) (by decide) (by decide))

local macro_rules | `(tactic| walk_at "cl") => `(tactic| first | exact ct_k (by with_reducible assumption) | exact cl_Tree (by with_reducible assumption) | exact cl_Spot (by with_reducible assumption) | exact cl_Edit (by with_reducible assumption))
local macro_rules | `(tactic| walk_at "na") => `(tactic| first | exact ct_rows (by with_reducible assumption) | exact ct_left (by with_reducible assumption) | exact na_rows (by with_reducible assumption) | exact na_left (by with_reducible assumption) | exact na_tree (by with_reducible assumption) | exact na_key (by with_reducible assumption) | exact na_etree (by with_reducible assumption) | exact na_saved (by with_reducible assumption))
local macro_rules | `(tactic| walk_at "fl") => `(tactic| first | exact lk_head | exact lk_second (by decide +kernel))
local macro_rules | `(tactic| walk_at "wi") => `(tactic| first | (simp only [wipe, List.map_cons, List.map_nil, List.set_cons_succ, List.set_cons_zero]; done) | (simp only [wipe, List.map_cons, List.map_nil, List.set_cons_succ, List.set_cons_zero]; exact rfl))

set_option hygiene false in
local macro_rules | `(tactic| walk_at "sq") => `(tactic| with_reducible refine Rd.seqT fun S2 hS2 => ?_)
set_option hygiene false in
local macro_rules | `(tactic| walk_at "nx") => `(tactic| subst hS2)

section
variable {P : Program} {w : World} {K : PySem.W.Frag} {mg : Str → Option Value} {base : Heap} {A : Ad} {L : AdL}
open L2H HotX
def tAlt (t u : TS) : TS := fun D σ H => t D σ H ∨ u D σ H
theorem pss_altT {X : Cx} {l : List Stmt} {t u : TS} (h : PSs X l t) (k : PSs X l u) : PSs X l (tAlt t u) := pss_alt h k
def spLaw (K : PySem.W.Frag) : Sp := fun vs H Q _ => ∃ (a : Addr) (ns : List Int), vs = [.ref a] ∧ SqL K H a (ns.map V.int) ∧ ns.length ≤ 63 ∧ ∀ H', Q (.bl true) H'
/-- one turn of the law's loop -/
def spOuter (K : PySem.W.Frag) : TS := fun D σ H => ∃ (a : Addr) (ns : List Int) (i : Nat) (us : List (Option V)), σ = some (.ref a) :: some (.int (i : Nat)) :: us ∧ us.length = 20 ∧ SqL K H a (ns.map V.int) ∧ ns.length ≤ 63 ∧ i < 4 ∧
  ∀ H' us', Same H H' → us'.length = 20 → D.nx (some (.ref a) :: some (.int (i : Nat)) :: us') H'
theorem us20 {us : List (Option V)} (h : us.length = 20) : ∃ a b c, us = a :: b :: c ∧ c.length = 18 := by
  match us, h with
  | a :: b :: c, h => exact ⟨a, b, c, rfl, by simpa using h⟩
theorem blk_outer (T : TxtL P K mg A L) {f : Addr} {cdv : Value} {Ar : Around} {outer : List Env} {s0 : Shared} {Hz : Hp} {E : XK} (hr : Room 14 (LX P w K mg base f cdv Ar outer s0 Hz E).A) :
    PSs (LX P w K mg base f cdv Ar outer s0 Hz E) (fB (nthS (defBody s_law) 0)) (spOuter K) := by
  have G__law_bag := ok_bag (P := P) (w := w) (base := base) T.b T.F__law_bag
  have b__law_bag := T.F__law_bag.binds (ps := ["_law_script", "_law_at"]) fun _ _ _ _ _ _ us hl => match us, hl with | [_, _], _ => rfl
  have hu1 := hu65 hr
  have hturn := pss_altT (blk_turn (P := P) (w := w) (base := base) (b := false) (f := f) (cdv := cdv) (Ar := Ar) (outer := outer) (s0 := s0) (Hz := Hz) (E := E) T (clsF_tree T.toTxt) rfl (fun z => by cases z) hr)
    (blk_turn (P := P) (w := w) (base := base) (b := true) (f := f) (cdv := cdv) (Ar := Ar) (outer := outer) (s0 := s0) (Hz := Hz) (E := E) T (clsF_log T.toTxt) rfl (fun _ => T.a_log) hr)
  refine PSs.weak (pss_cons (ps_set (i := 2) sc_law.nd rfl (by first | exact Or.inl rfl | exact Or.inr rfl) (pe_call G__law_bag (hr.mono (by decide)) rfl T.g__law_bag T.F__law_bag.kp b__law_bag .nil passX (pa_cons (pv 0) (pa_cons (pv 1) pa_nil))))
    (pss_one (ps_for (passes_of rfl) rfl (pi_range1 (by rfl) T.n_range (pa_cons pe_int pa_nil)) (pg_name (i := 3) sc_law.nd rfl (by first | exact Or.inl rfl | exact Or.inr rfl)) hturn))) (fun D σ H hh => ?_)
  obtain ⟨dn, dr, db, dc⟩ := D
  obtain ⟨a, ns, i, us, rfl, hus, hS, hn, hi4, q⟩ := hh
  obtain ⟨u2, u3, ur, rfl, hur⟩ := us20 hus
  try dsimp only [cxOf]
  walk_at "rd"
  refine ⟨a, ns, i, rfl, hS, by omega, hn, fun p H3 np s3 bg => ?_⟩
  walk_at "rd"
  walk_at "nx"
  walk_at "rd"
  rename_i TB hTB
  subst hTB
  refine ⟨by decide, by decide, ?_⟩
  refine for_it walk_range (fun j σ H2 => ∃ u3' us' : _, σ = some (V.ref a) :: some (V.int (i : Nat)) :: some (V.ref p) :: u3' :: us' ∧ us'.length = 18 ∧ Fr [p] H3 H2 ∧ BagAt H2 p)
    ⟨u3, ur, rfl, hur, Fr.refl, bg⟩ (fun _ _ _ _ _ => trivial) ?_ ?_
  · rintro j x σ H2 H4 hj ⟨u3', us', rfl, hus', f2, bg2⟩ ⟨eH, ex⟩
    subst eH
    obtain rfl : x = V.int (j : Nat) := ex.trans (by show V.int (0 + (j : Nat)) = _; rw [Int.zero_add])
    walk_at "rd"
    by_cases hb : (j : Int) % 2 = 1
    · exact .inr ⟨_, _, p, j, us', rfl, hus', bg2, decide_eq_true hb, fun H5 us5 f5 bg5 hl5 => ⟨_, us5, rfl, hl5, f2.trans f5, bg5⟩⟩
    · exact .inl ⟨_, _, p, j, us', rfl, hus', bg2, decide_eq_false hb, fun H5 us5 f5 bg5 hl5 => ⟨_, us5, rfl, hl5, f2.trans f5, bg5⟩⟩
  · rintro σ H2 ⟨u3', us', rfl, hus', f2, bg2⟩
    refine q H2 _ (f2.same s3 fun b hb => by rw [show b = p by simpa using hb]; exact np) (by simp [hus'])
theorem ok_law (T : TxtL P K mg A L) {f : Addr} {fd : FuncData} (F : Fun K "law" "law" s_law f fd) : FnOk P w K mg base (L2.CX P w) 15 f fd ["_law_script"] (spLaw K) := by
  refine F.okX sc_law (fun vs H Q E h => ?_) (fun cdv Ar outer s H vs Q E hr h => ?_)
  · obtain ⟨a, ns, rfl, _⟩ := h
    rfl
  · obtain ⟨a, ns, rfl, hS, hn, q⟩ := h
    have hu1 := hu65 hr
    have hout := blk_outer (P := P) (w := w) (base := base) (f := f) (cdv := cdv) (Ar := Ar) (outer := outer) (s0 := s) (Hz := H) (E := E) T hr
    refine ⟨_, (pss_cons (ps_for (passes_of rfl) rfl (pi_range1 (by rfl) T.n_range (pa_cons (pe_callB (call_max2 rfl) (by rfl) T.n_max (by decide +kernel) (pa_cons pe_int (pa_cons (pe_callB (call_min2 rfl) (by rfl) T.n_min (by decide +kernel) (pa_cons pe_int (pa_cons (pe_callB (Kx.call_len (K := K) rfl) (by rfl) T.n_len PySem.boot_len (pa_cons (pv 0) pa_nil)) pa_nil))) pa_nil))) pa_nil)) (pg_name (i := 1) sc_law.nd rfl (by first | exact Or.inl rfl | exact Or.inr rfl)) hout)
    (pss_one (ps_ret pe_bl))), ?_⟩
    try dsimp only [cxOf]
    rw [show L2.start ["_law_script", "_law_at", "_law_bag_here", "_law_turn", "_law_base", "_law_step", "_law_is_logged", "_law_tree", "_law_other", "_law_k", "_law_far", "_law_parent", "_law_there", "_law_rows", "_law_some", "_law_key", "_law_due", "_law_good", "_law_place", "_law_move", "_law_why", "_law_logged"] [V.ref a] = [some (V.ref a), none, none, none, none, none, none, none, none, none, none, none, none, none, none, none, none, none, none, none, none, none] from rfl]
    walk_at "rd"
    refine ⟨_, _, rfl, ?_⟩
    walk_at "rd"
    refine ⟨_, _, rfl, ?_⟩
    walk_at "rd"
    rename_i TB hTB
    subst hTB
    generalize hN : (if (if ((ns.map V.int).length : Int) < 3 then ((ns.map V.int).length : Int) else 3) > 1 then (if ((ns.map V.int).length : Int) < 3 then ((ns.map V.int).length : Int) else 3) else 1) = N
    have hN4 : 0 ≤ N ∧ N ≤ 3 := by
      rw [← hN]
      split <;> split <;> omega
    refine ⟨by omega, by omega, ?_⟩
    refine for_it walk_range (fun i σ H2 => ∃ us : List (Option V), σ = some (V.ref a) :: us ∧ us.length = 21 ∧ Same H H2) ⟨_, rfl, rfl, Same.refl _⟩ (fun _ _ _ _ _ => trivial) ?_ ?_
    · rintro i x σ H1 H2 hi ⟨us, rfl, hus, s1⟩ ⟨eH, ex⟩
      subst eH
      obtain rfl : x = V.int (i : Nat) := ex.trans (by show V.int (0 + (i : Nat)) = _; rw [Int.zero_add])
      have hi4 : i < 4 := by omega
      obtain ⟨u1, ur, rfl⟩ : ∃ u1 ur, us = u1 :: ur := by
        cases us with
        | nil => cases hus
        | cons u1 ur => exact ⟨u1, ur, rfl⟩
      walk_at "rd"
      exact ⟨a, ns, i, ur, rfl, by simpa using hus, s1.seq hS, hn, hi4, fun H' us' s2 hl => ⟨_, rfl, by simp [hl], s1.trans s2⟩⟩
    · rintro σ H2 ⟨us, rfl, hus, s1⟩
      walk_at "nx"
      walk_at "rd"
      exact q H2
end
end PR
end

set_option maxHeartbeats 0
namespace PR
open PySem L2 PySem.Spec PyProof.Rows PySem.EX
abbrev s_BadKey___init__ : Stmt := inClass (top 7) 0
abbrev s_KeyThere___init__ : Stmt := inClass (top 8) 0
abbrev s_Ring___init__ : Stmt := inClass (top 10) 0
abbrev s_NoKey___init__ : Stmt := inClass (top 9) 0
abbrev df (at_ : PySem.W.Frag → Addr) (x q : Str) (st : Stmt) (dfl : List He.Dv) (kwd : List (Str × He.Dv)) : He5.DefA := ⟨at_, x, q, defArgs st, defBody st, defScope st, dfl, kwd⟩
def hFn : List He5.DefA := [df (fun K => He.ga K "is_key") "is_key" "is_key" s_is_key [] [],
  df (fun K => He.ga K "has_key") "has_key" "has_key" s_has_key [] [],
  df (fun K => He.ga K "place_of") "place_of" "place_of" s_place_of [] [],
  df (fun K => He.ga K "end_of") "end_of" "end_of" s_end_of [] [],
  df (fun K => He.ga K "landing") "landing" "landing" s_landing [] [],
  df (fun K => He.ga K "path_up") "path_up" "path_up" s_path_up [] [],
  df (fun K => He.ma K (He.ga K "Edit") "__init__") "__init__" "Edit.__init__" s_Edit___init__ [] [],
  df (fun K => He.ma K (He.ga K "Edit") "__enter__") "__enter__" "Edit.__enter__" s_Edit___enter__ [] [],
  df (fun K => He.ma K (He.ga K "Edit") "__exit__") "__exit__" "Edit.__exit__" s_Edit___exit__ [] [],
  df (fun K => He.ma K (He.ga K "Tree") "__init__") "__init__" "Tree.__init__" s_Tree___init__ [] [],
  df (fun K => He.ma K (He.ga K "Tree") "put") "put" "Tree.put" s_Tree_put [.non] [],
  df (fun K => He.ma K (He.ga K "Tree") "move") "move" "Tree.move" s_Tree_move [] [],
  df (fun K => He.ma K (He.ga K "Tree") "move_all") "move_all" "Tree.move_all" s_Tree_move_all [] [],
  df (fun K => He.ma K (He.ga K "Tree") "edit") "edit" "Tree.edit" s_Tree_edit [] [],
  df (fun K => He.ma K (He.ga K "Undone") "__init__") "__init__" "Undone.__init__" s_Undone___init__ [] [],
  df (fun K => He.ma K (He.ga K "Tree") "__len__") "__len__" "Tree.__len__" s_Tree___len__ [] [],
  df (fun K => He.ma K (He.ga K "Tree") "__iter__") "__iter__" "Tree.__iter__" s_Tree___iter__ [] [],
  df (fun K => He.ma K (He.ga K "BadKey") "__init__") "__init__" "BadKey.__init__" s_BadKey___init__ [] [],
  df (fun K => He.ma K (He.ga K "KeyThere") "__init__") "__init__" "KeyThere.__init__" s_KeyThere___init__ [] [],
  df (fun K => He.ma K (He.ga K "Ring") "__init__") "__init__" "Ring.__init__" s_Ring___init__ [] [],
  df (fun K => He.ma K (He.ga K "NoKey") "__init__") "__init__" "NoKey.__init__" s_NoKey___init__ [] [],
  df (fun K => He.ga K "_law_moves") "_law_moves" "_law_moves" s__law_moves [] [],
  df (fun K => He.ga K "_law_single") "_law_single" "_law_single" s__law_single [] [],
  df (fun K => He.ga K "_law_odd") "_law_odd" "_law_odd" s__law_odd [] [],
  df (fun K => He.ga K "_law_bag") "_law_bag" "_law_bag" s__law_bag [] [],
  df (fun K => He.ga K "_law_take") "_law_take" "_law_take" s__law_take [] [],
  df (fun K => He.ga K "law") "law" "law" s_law [] []]
def hFa : List He.Fa := [.free "len", .free "int", .free "bool", .free "isinstance", .int "BIG" (10 ^ 30), .glo "is_key", .glo "has_key", .glo "place_of", .glo "end_of", .glo "landing", .glo "path_up", .free "super", .free "iter", .cls "Tree", .noat "Tree" "rows", .noat "Tree" "left", .cls "LoggedTree", .noat "LoggedTree" "rows", .noat "LoggedTree" "left", .noat "LoggedTree" "log", .mkr "Tree", .mkr "LoggedTree", .glo "LoggedTree", .cls "Edit", .glo "Edit", .glo "Tree", .noat "Edit" "tree", .noat "Edit" "saved", .mkr "Edit", .free "list", .free "tuple", .free "enumerate", .glo "Undone", .noat "Undone" "place", .noat "Undone" "why", .glo "Ring", .glo "NoKey", .exm "Ring" "Ring" true, .exm "NoKey" "Ring" false, .exm "Undone" "Undone" true, .exm "NoKey" "NoKey" true, .free "range", .free "abs", .free "max", .free "min", .free "ValueError", .glo "RowsError", .glo "_law_moves", .glo "_law_single", .glo "_law_odd", .glo "_law_bag", .glo "_law_take", .glo "law"]
def hEx : List FK := [methB "Tree" "Tree" "__iter__",
  methB "LoggedTree" "Tree" "__iter__",
  methB "Tree" "Tree" "__len__",
  methB "LoggedTree" "Tree" "__len__",
  methB "Tree" "Tree" "put",
  methB "LoggedTree" "LoggedTree" "put",
  methB "Tree" "Tree" "move",
  methB "LoggedTree" "LoggedTree" "move",
  methB "Tree" "Tree" "move_all",
  methB "LoggedTree" "LoggedTree" "move_all",
  methB "Tree" "Tree" "edit",
  methB "LoggedTree" "Tree" "edit",
  supB "LoggedTree" "Tree" "__init__",
  supB "LoggedTree" "Tree" "put",
  supB "LoggedTree" "Tree" "move",
  supB "LoggedTree" "Tree" "move_all",
  fun K => withCB K (He.ga K "Edit"),
  e1B "key" veB "ValueError.__new__" "BadKey",
  e1B "key" veB "ValueError.__new__" "KeyThere",
  e1B "path" veB "ValueError.__new__" "Ring",
  oexB "Undone",
  fnB "Undone" "__init__",
  e1B "key" leB "LookupError.__new__" "NoKey",
  excB "Undone",
  kitGB "Undone" "RowsError" true,
  kitTB "Undone" "ValueError" true]
def hFu : List DefU := [⟨fun K => He.ma K (He.ga K "LoggedTree") "__init__", "__init__", "LoggedTree.__init__", defArgs s_LoggedTree___init__, defBody s_LoggedTree___init__, defScope s_LoggedTree___init__, [], fun K => He.ga K "LoggedTree"⟩,
  ⟨fun K => He.ma K (He.ga K "LoggedTree") "put", "put", "LoggedTree.put", defArgs s_LoggedTree_put, defBody s_LoggedTree_put, defScope s_LoggedTree_put, [.non], fun K => He.ga K "LoggedTree"⟩,
  ⟨fun K => He.ma K (He.ga K "LoggedTree") "move", "move", "LoggedTree.move", defArgs s_LoggedTree_move, defBody s_LoggedTree_move, defScope s_LoggedTree_move, [], fun K => He.ga K "LoggedTree"⟩,
  ⟨fun K => He.ma K (He.ga K "LoggedTree") "move_all", "move_all", "LoggedTree.move_all", defArgs s_LoggedTree_move_all, defBody s_LoggedTree_move_all, defScope s_LoggedTree_move_all, [], fun K => He.ga K "LoggedTree"⟩]
abbrev R : PySem.W.OpenRow := PySem.W.OpenLaw.row PySem.Challenge.rw_parentrows_k81_several_moves_all_or_none
def hFile : Str := R.prog.main.file
abbrev hk : PySem.W.Hook := hookU hFile hFa hFn hFu hEx
def ob (s : PySem.W.SharedT) : AlU := obUG hFile hFa hFn hFu hEx (HandSHeadRun.getT s)
theorem ob_eq (s : PySem.W.SharedT) : ob s = hk.obs s.abs := obUG_eq (HandSHeadRun.getT_eq s)
def ls0 : List Str := ["_wall", "RowsError", "BadRows", "BadText", "BadWish", "Refused", "BadKey", "KeyThere", "NoKey", "Ring", "Undone", "BIG", "is_key", "is_row", "look_rows", "Telling", "Wish", "standing", "end_word", "settle"]
def ls1 : List Str := ["kinds", "refusing", "preorder", "due", "has_key", "place_of", "end_of", "block_of", "landing", "path_up", "Spot", "Edit", "Tree", "LoggedTree", "_law_bag", "_law_take", "_law_moves", "_law_single", "_law_odd"]
def lsAll : List Str := ls0 ++ ls1
theorem run (w : World) : HandSHeadRun.RunEq R (PySem.W.view R.prog [45]) hk ob 8000 lsAll w := by
  intro os
  kernel_rfl
theorem facts {P : Program} {w : World} {K : PySem.W.Frag} {h : Heap} {mg : Str → Option Value} {f : Addr} (hF : (P.main.file : Str) = hFile) (htop : (P.main.scope.names.lookup ("super" : Str)).isSome = false) (X : K.In h) (G : h.Ns mainGlobals mg) (hfa : mg ("law" : Str) = some (.ref f)) (c0 : obU hFile hFa hFn hFu hEx K = vaU hFn hFu) :
    ∃ fd : FuncData, (∀ (s : Shared) (v : Value), BindsTo s fd ⟨[v], []⟩ [("_law_script", v)]) ∧ ∀ bs : Heap, K.In bs → bs.Ns mainGlobals mg → FnOk P w K mg bs (L2.CX P w) 15 f fd ["_law_script"] (spLaw K) := by
  have c := obU_a c0
  obtain ⟨fd0, F0⟩ := c.def_ 0 rfl
  obtain ⟨fd1, F1⟩ := c.def_ 1 rfl
  obtain ⟨fd2, F2⟩ := c.def_ 2 rfl
  obtain ⟨fd3, F3⟩ := c.def_ 3 rfl
  obtain ⟨fd4, F4⟩ := c.def_ 4 rfl
  obtain ⟨fd5, F5⟩ := c.def_ 5 rfl
  obtain ⟨fd6, F6⟩ := c.def_ 6 rfl
  obtain ⟨fd7, F7⟩ := c.def_ 7 rfl
  obtain ⟨fd8, F8⟩ := c.def_ 8 rfl
  obtain ⟨fd9, F9⟩ := c.def_ 9 rfl
  obtain ⟨fd10, F10⟩ := c.def_ 10 rfl
  obtain ⟨fd11, F11⟩ := c.def_ 11 rfl
  obtain ⟨fd12, F12⟩ := c.def_ 12 rfl
  obtain ⟨fd13, F13⟩ := c.def_ 13 rfl
  obtain ⟨fd14, F14⟩ := c.def_ 14 rfl
  obtain ⟨fd15, F15⟩ := c.def_ 15 rfl
  obtain ⟨fd16, F16⟩ := c.def_ 16 rfl
  obtain ⟨ud0, U0⟩ := obU_u c0 hF htop 0 (by rfl) ⟨_, rfl, rfl⟩
  obtain ⟨ud1, U1⟩ := obU_u c0 hF htop 1 (by rfl) ⟨_, rfl, rfl⟩
  obtain ⟨ud2, U2⟩ := obU_u c0 hF htop 2 (by rfl) ⟨_, rfl, rfl⟩
  obtain ⟨ud3, U3⟩ := obU_u c0 hF htop 3 (by rfl) ⟨_, rfl, rfl⟩
  obtain ⟨fd17, F17⟩ := c.def_ 17 rfl
  obtain ⟨fd18, F18⟩ := c.def_ 18 rfl
  obtain ⟨fd19, F19⟩ := c.def_ 19 rfl
  obtain ⟨fd20, F20⟩ := c.def_ 20 rfl
  obtain ⟨fd21, F21⟩ := c.def_ 21 rfl
  obtain ⟨fd22, F22⟩ := c.def_ 22 rfl
  obtain ⟨fd23, F23⟩ := c.def_ 23 rfl
  obtain ⟨fd24, F24⟩ := c.def_ 24 rfl
  obtain ⟨fd25, F25⟩ := c.def_ 25 rfl
  obtain ⟨fd26, F26⟩ := c.def_ 26 rfl
  have e := hfa.symm.trans (He.glo_ok X G (x := "law") (c.fact 52 rfl))
  cases e
  let A : Ad := { is_key := He.ga K "is_key", has_key := He.ga K "has_key", place_of := He.ga K "place_of", end_of := He.ga K "end_of", landing := He.ga K "landing", path_up := He.ga K "path_up", d_is_key := fd0, d_has_key := fd1, d_place_of := fd2, d_end_of := fd3, d_landing := fd4, d_path_up := fd5, c_Edit := He.ga K "Edit", c_Tree := He.ga K "Tree", f_E_init := He.ma K (He.ga K "Edit") "__init__", d_E_init := fd6, f_E_enter := He.ma K (He.ga K "Edit") "__enter__", d_E_enter := fd7, f_E_exit := He.ma K (He.ga K "Edit") "__exit__", d_E_exit := fd8, f_T_init := He.ma K (He.ga K "Tree") "__init__", d_T_init := fd9, f_T_put := He.ma K (He.ga K "Tree") "put", d_T_put := fd10, f_T_move := He.ma K (He.ga K "Tree") "move", d_T_move := fd11, f_T_all := He.ma K (He.ga K "Tree") "move_all", d_T_all := fd12, f_T_edit := He.ma K (He.ga K "Tree") "edit", d_T_edit := fd13, c_Log := He.ga K "LoggedTree", f_T_len := He.ma K (He.ga K "Tree") "__len__", d_T_len := fd15, f_T_iter := He.ma K (He.ga K "Tree") "__iter__", d_T_iter := fd16, f_L_init := He.ma K (He.ga K "LoggedTree") "__init__", d_L_init := ud0, cd_L_init := cdAt K (He.ma K (He.ga K "LoggedTree") "__init__"), cc_L_init := ccAt K (He.ma K (He.ga K "LoggedTree") "__init__"), f_L_put := He.ma K (He.ga K "LoggedTree") "put", d_L_put := ud1, cd_L_put := cdAt K (He.ma K (He.ga K "LoggedTree") "put"), cc_L_put := ccAt K (He.ma K (He.ga K "LoggedTree") "put"), f_L_move := He.ma K (He.ga K "LoggedTree") "move", d_L_move := ud2, cd_L_move := cdAt K (He.ma K (He.ga K "LoggedTree") "move"), cc_L_move := ccAt K (He.ma K (He.ga K "LoggedTree") "move"), f_L_all := He.ma K (He.ga K "LoggedTree") "move_all", d_L_all := ud3, cd_L_all := cdAt K (He.ma K (He.ga K "LoggedTree") "move_all"), cc_L_all := ccAt K (He.ma K (He.ga K "LoggedTree") "move_all"), f_U_init := He.ma K (He.ga K "Undone") "__init__", d_U_init := fd14, c_BadKey := He.ga K "BadKey", i_BadKey := He.ma K (He.ga K "BadKey") "__init__", c_KeyThere := He.ga K "KeyThere", i_KeyThere := He.ma K (He.ga K "KeyThere") "__init__", c_Ring := He.ga K "Ring", i_Ring := He.ma K (He.ga K "Ring") "__init__", c_Undone := He.ga K "Undone", c_NoKey := He.ga K "NoKey", i_NoKey := He.ma K (He.ga K "NoKey") "__init__" }
  let L : AdL := { moves := He.ga K "_law_moves", d_moves := fd21, single := He.ga K "_law_single", d_single := fd22, odd := He.ga K "_law_odd", d_odd := fd23, bag := He.ga K "_law_bag", d_bag := fd24, take := He.ga K "_law_take", d_take := fd25, c_RowsError := He.ga K "RowsError" }
  have T : TxtL P K mg A L := {
    n_len := He.free_ok X G (x := "len") (c.fact 0 rfl)
    n_int := He.free_ok X G (x := "int") (c.fact 1 rfl)
    n_bool := He.free_ok X G (x := "bool") (c.fact 2 rfl)
    n_isinstance := He.free_ok X G (x := "isinstance") (c.fact 3 rfl)
    g_BIG := He.int_ok X G (x := "BIG") (c.fact 4 rfl)
    g_is_key := He.glo_ok X G (x := "is_key") (c.fact 5 rfl)
    g_has_key := He.glo_ok X G (x := "has_key") (c.fact 6 rfl)
    g_place_of := He.glo_ok X G (x := "place_of") (c.fact 7 rfl)
    F_is_key := He5.fun_of F0
    F_has_key := He5.fun_of F1
    F_place_of := He5.fun_of F2
    g_end_of := He.glo_ok X G (x := "end_of") (c.fact 8 rfl)
    F_end_of := He5.fun_of F3
    g_landing := He.glo_ok X G (x := "landing") (c.fact 9 rfl)
    F_landing := He5.fun_of F4
    g_path_up := He.glo_ok X G (x := "path_up") (c.fact 10 rfl)
    F_path_up := He5.fun_of F5
    F_E_init := He5.fun_of F6
    F_E_enter := He5.fun_of F7
    F_E_exit := He5.fun_of F8
    F_T_init := He5.fun_of F9
    F_T_put := F10
    F_T_move := He5.fun_of F11
    F_T_all := He5.fun_of F12
    F_T_edit := He5.fun_of F13
    F_U_init := He5.fun_of F14
    F_T_len := He5.fun_of F15
    F_T_iter := He5.fun_of F16
    F_L_init := U0
    F_L_put := U1
    F_L_move := U2
    F_L_all := U3
    n_super := He.free_ok X G (x := "super") (c.fact 11 rfl)
    n_iter := He.free_ok X G (x := "iter") (c.fact 12 rfl)
    sT_iter := spmB_ok (x := "Tree") (y := "Tree") (m := "__iter__") (obU_x c0 0 rfl)
    sL_iter := spmB_ok (x := "LoggedTree") (y := "Tree") (m := "__iter__") (obU_x c0 1 rfl)
    sT_len := spmB_ok (x := "Tree") (y := "Tree") (m := "__len__") (obU_x c0 2 rfl)
    sL_len := spmB_ok (x := "LoggedTree") (y := "Tree") (m := "__len__") (obU_x c0 3 rfl)
    ct_Tree := ⟨He.cls_ok (x := "Tree") (c.fact 13 rfl), He.noat_ok (x := "Tree") (f := "rows") (c.fact 14 rfl), He.noat_ok (x := "Tree") (f := "left") (c.fact 15 rfl)⟩
    ct_Log := ⟨He.cls_ok (x := "LoggedTree") (c.fact 16 rfl), He.noat_ok (x := "LoggedTree") (f := "rows") (c.fact 17 rfl), He.noat_ok (x := "LoggedTree") (f := "left") (c.fact 18 rfl)⟩
    a_log := He.noat_ok (x := "LoggedTree") (f := "log") (c.fact 19 rfl)
    m_Tree := He.mkr_ok (x := "Tree") (c.fact 20 rfl)
    m_Log := He.mkr_ok (x := "LoggedTree") (c.fact 21 rfl)
    mT_put := methB_ok (x := "Tree") (y := "Tree") (m := "put") (obU_x c0 4 rfl)
    mL_put := methB_ok (x := "LoggedTree") (y := "LoggedTree") (m := "put") (obU_x c0 5 rfl)
    mT_move := methB_ok (x := "Tree") (y := "Tree") (m := "move") (obU_x c0 6 rfl)
    mL_move := methB_ok (x := "LoggedTree") (y := "LoggedTree") (m := "move") (obU_x c0 7 rfl)
    mT_all := methB_ok (x := "Tree") (y := "Tree") (m := "move_all") (obU_x c0 8 rfl)
    mL_all := methB_ok (x := "LoggedTree") (y := "LoggedTree") (m := "move_all") (obU_x c0 9 rfl)
    mT_edit := methB_ok (x := "Tree") (y := "Tree") (m := "edit") (obU_x c0 10 rfl)
    mL_edit := methB_ok (x := "LoggedTree") (y := "Tree") (m := "edit") (obU_x c0 11 rfl)
    sp_init := supB_ok (x := "LoggedTree") (y := "Tree") (m := "__init__") (obU_x c0 12 rfl)
    sp_put := supB_ok (x := "LoggedTree") (y := "Tree") (m := "put") (obU_x c0 13 rfl)
    sp_move := supB_ok (x := "LoggedTree") (y := "Tree") (m := "move") (obU_x c0 14 rfl)
    sp_all := supB_ok (x := "LoggedTree") (y := "Tree") (m := "move_all") (obU_x c0 15 rfl)
    g_Log := He.glo_ok X G (x := "LoggedTree") (c.fact 22 rfl)
    k_Edit := He.cls_ok (x := "Edit") (c.fact 23 rfl)
    g_Edit := He.glo_ok X G (x := "Edit") (c.fact 24 rfl)
    g_Tree := He.glo_ok X G (x := "Tree") (c.fact 25 rfl)
    a_etree := He.noat_ok (x := "Edit") (f := "tree") (c.fact 26 rfl)
    a_saved := He.noat_ok (x := "Edit") (f := "saved") (c.fact 27 rfl)
    m_Edit := He.mkr_ok (x := "Edit") (c.fact 28 rfl)
    w_Edit := withCB_ok (obU_x c0 16 rfl)
    n_list := He.free_ok X G (x := "list") (c.fact 29 rfl)
    n_tuple := He.free_ok X G (x := "tuple") (c.fact 30 rfl)
    n_enumerate := He.free_ok X G (x := "enumerate") (c.fact 31 rfl)
    X_BadKey := e1B_ok (x := "BadKey") X G (obU_x c0 17 rfl) (fun _ _ _ _ _ _ _ _ _ _ _ _ _ => rfl) F17
    X_KeyThere := e1B_ok (x := "KeyThere") X G (obU_x c0 18 rfl) (fun _ _ _ _ _ _ _ _ _ _ _ _ _ => rfl) F18
    X_Ring := e1B_ok (x := "Ring") X G (obU_x c0 19 rfl) (fun _ _ _ _ _ _ _ _ _ _ _ _ _ => rfl) F19
    g_Undone := He.glo_ok X G (x := "Undone") (c.fact 32 rfl)
    o_Undone := oexB_ok (obU_x c0 20 rfl)
    u_init := (fnB_ok (obU_x c0 21 rfl)).1
    u_fn := (fnB_ok (obU_x c0 21 rfl)).2
    u_place := He.noat_ok (x := "Undone") (f := "place") (c.fact 33 rfl)
    u_why := He.noat_ok (x := "Undone") (f := "why") (c.fact 34 rfl)
    h_Ring := He.glo_ok X G (x := "Ring") (c.fact 35 rfl)
    h_NoKey := He.glo_ok X G (x := "NoKey") (c.fact 36 rfl)
    x_RR := He.exm_ok (x := "Ring") (y := "Ring") (c.fact 37 rfl)
    x_NR := He.exm_ok (x := "NoKey") (y := "Ring") (c.fact 38 rfl)
    x_UU := He.exm_ok (x := "Undone") (y := "Undone") (c.fact 39 rfl)
    x_NN := He.exm_ok (x := "NoKey") (y := "NoKey") (c.fact 40 rfl)
    X_NoKey := e1B_ok (x := "NoKey") X G (obU_x c0 22 rfl) (fun _ _ _ _ _ _ _ _ _ _ _ _ _ => rfl) F20
    n_range := He.free_ok X G (x := "range") (c.fact 41 rfl)
    n_abs := He.free_ok X G (x := "abs") (c.fact 42 rfl)
    n_max := He.free_ok X G (x := "max") (c.fact 43 rfl)
    n_min := He.free_ok X G (x := "min") (c.fact 44 rfl)
    n_ValueError := He.free_ok X G (x := "ValueError") (c.fact 45 rfl)
    g_RowsError := He.glo_ok X G (x := "RowsError") (c.fact 46 rfl)
    g__law_moves := He.glo_ok X G (x := "_law_moves") (c.fact 47 rfl)
    F__law_moves := He5.fun_of F21
    g__law_single := He.glo_ok X G (x := "_law_single") (c.fact 48 rfl)
    F__law_single := He5.fun_of F22
    g__law_odd := He.glo_ok X G (x := "_law_odd") (c.fact 49 rfl)
    F__law_odd := He5.fun_of F23
    g__law_bag := He.glo_ok X G (x := "_law_bag") (c.fact 50 rfl)
    F__law_bag := He5.fun_of F24
    g__law_take := He.glo_ok X G (x := "_law_take") (c.fact 51 rfl)
    F__law_take := He5.fun_of F25
    e_Undone := (excB_ok (obU_x c0 23 rfl)).1
    f_Undone := (excB_ok (obU_x c0 23 rfl)).2
    z_UR := kitGB_ok (x := "Undone") (y := "RowsError") (obU_x c0 24 rfl)
    z_UV := kitTB_ok (x := "Undone") (y := "ValueError") (obU_x c0 25 rfl)
  }
  have b := FunD.bindsA (ps := ["_law_script"]) F26 fun _ _ _ _ _ _ us hl => match us, hl with | [_], _ => rfl
  exact ⟨fd26, fun s v => b s [v] rfl, fun bs _ _ => ok_law T (He5.fun_of F26)⟩
end PR
open PySem PySem.W PySem.Calls PyProof.Rows
theorem PySem.Challenge.cw_parentrows_k81_several_moves_all_or_none_holds : PySem.Challenge.rw_parentrows_k81_several_moves_all_or_none.Holds := by
  w_on; o_law
  refine HandSHeadRun.head_any (r := PR.R) (q := view PR.R.prog [45]) (H := PR.hk) (ob := PR.ob) (M := 8000) (loose := PR.lsAll) (d := HandSHeadRun.topDef PR.R.prog 45) (kwd := []) PR.ob_eq
    (by kernel_rfl) (fun s => by kernel_rfl) PR.run (by kernel_rfl) (by kernel_rfl) (by kernel_rfl) (by rfl) (by first | assumption | decide +kernel) (by decide +kernel) ⟨rfl, rfl, rfl, rfl, rfl, by decide +kernel⟩ ?hw ?hc
  case hw => w_witness2
  case hc =>
    refine PR.walkE (l := PySem.Challenge.rw_parentrows_k81_several_moves_all_or_none) (n := 63) (k := 15) (x := "_law_script") (CX := fun w => L2.CX PR.R.prog w) rfl (by decide) (by kernel_rfl) ⟨rfl, by decide, by decide⟩ ?F (fun _ _ _ _ _ z => by obtain ⟨_, _, _, _, _, _, _, _, _, _, _, _, z⟩ := z; exact z)
    intro w mg fa h Y G hmg0
    obtain ⟨K, KX, c⟩ := Y
    have hmg : mg ("law" : PySem.Str) = some (.ref fa) := by
      have e : (HandSHeadRun.topDef PR.R.prog 45).name = ("law" : PySem.Str) := by kernel_rfl
      rw [← e]
      exact hmg0
    obtain ⟨fd, hb, hF⟩ := PR.facts (P := PR.R.prog) (w := w) rfl (by decide +kernel) KX G hmg c
    exact ⟨K, fd, PR.spLaw K, KX, hb, fun H a ns hl _ hS => ⟨a, ns, rfl, hS, hl, fun _ => rfl⟩, hF⟩
