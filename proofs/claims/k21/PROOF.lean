import PyProof.Rows.All
import Wide.All
import OpenK.AllK
import Wide.FinOn
import HandS.ForMost
import HandS.Codes
import HandS.Defaults
import KE.GoesNew
import KE.GoesEnum
import HandS.Walk
import PyProof.StrLawsIn
import PyProof.StrLawsChain
import PyProof.StrBlockL
import HandS.SlotsOwn
import PyProof.ListStr
import PyProof.Rows.StrRev
import HandS.Style
import KE.KxIndex
import KE.KDictZip
import KE.KDictItemsList
import HandS.IsInst
import HandS.NoneIn
import HandS.TupAny
import HandS.Replace
import HandS.HeadHook4
import HandS.DictComp
import KE.KDictDisplayH
import HandS.Deep
import HandS.TupLen
import HandS.HeadEnd
import PyProof.ReprRoads
import HandS.Head0
import HandS.Head1
import HandS.Head2
import PyProof.ReprText
import PyProof.StrLawsRepr
import PySem.Challenge.RW_allrows_k21_acts_of_rows
set_option Elab.async false
set_option linter.all false
set_option maxRecDepth 100000
set_option maxHeartbeats 0
/-! AR: the small layer of this work over HandS -/
namespace AR
open PySem PySem.Spec PyProof.Rows L2
/-- a def of the module under its name, as the top leaves it -/
structure GD (K : PySem.W.Frag) (mg : Str → Option Value) (x : Str) (st : Stmt) (ps : List Str) : Prop where
  ex : ∃ (f : Addr) (fd : FuncData), FunD K x x (defArgs st) (defBody st) (defScope st) [] [] f fd ∧ mg x = some (.ref f) ∧ Binds K fd ps []
section
variable {P : Program} {w : World} {K : PySem.W.Frag} {mg : Str → Option Value} {base : Heap}
theorem GD.cal {x : Str} {st : Stmt} {N ps : List Str} {k : Nat} {sp : Sp} (G : GD K mg x st ps) (S : FnScope N ps (defScope st)) (len : ∀ vs H Q E, sp vs H Q E → vs.length = ps.length)
    (hbody : ∀ (f : Addr) (cdv : Value) (A : Around) (outer : List Env) (s : Shared) (H : Hp) (vs : List V) (Q : VK) (E : XK), Room k (A.deeper (envOfC x (defScope st) s.heap.objs.size f cdv)) → sp vs H Q E →
      ∃ t, PSs (cxOf CX0 P w K mg base N x (defScope st) f cdv A outer s H E).nox (defBody st) t ∧ t { nx := fun _ H' => Q .non H', rt := Q } (start N vs) H) : C8.Cal P w K mg base (k + 1) x sp [] := by
  obtain ⟨f, fd, F, m, b⟩ := G.ex
  refine ⟨f, fd, ps, [], F.ok S len fun cdv A outer s H vs Q E hr hsp => ?_, m, F.kp, b, .nil⟩
  obtain ⟨t, h, q⟩ := hbody f cdv A outer s H vs Q E hr hsp
  exact ⟨t, h.nox, q⟩
end
/-! ### boxes -/
/-- a list of three ints -/
def Box (o : HO) : Prop := ∃ x y z : Int, o = .lst [.int x, .int y, .int z]
/-- what is no box stays as it is; a box stays a box -/
structure Keep (H H' : Hp) : Prop where
  st : ∀ a o, H a = some o → ¬ Box o → H' a = some o
  bx : ∀ a o, H a = some o → Box o → ∃ o', H' a = some o' ∧ Box o'
theorem Keep.refl (H : Hp) : Keep H H := ⟨fun _ _ h _ => h, fun _ _ h b => ⟨_, h, b⟩⟩
theorem Keep.trans {H H1 H2 : Hp} (a : Keep H H1) (b : Keep H1 H2) : Keep H H2 :=
  ⟨fun c o h n => b.st c o (a.st c o h n) n, fun c o h n => by
    obtain ⟨o', h1, b1⟩ := a.bx c o h n
    exact b.bx c o' h1 b1⟩
theorem Keep.free {H H' : Hp} (e : Keep H H') {l : Addr} (h : H' l = none) : H l = none := by
  cases q : H l with
  | none => rfl
  | some o =>
    by_cases b : Box o
    · obtain ⟨o', h1, _⟩ := e.bx l o q b
      rw [h] at h1; cases h1
    · rw [e.st l o q b] at h; cases h
theorem Keep.same {H H' : Hp} (e : Same H H') : Keep H H' := ⟨fun a o h _ => e a o h, fun a o h b => ⟨o, e a o h, b⟩⟩
/-- a new object -/
theorem Keep.new {H : Hp} {p : Addr} {o : HO} (h : H p = none) : Keep H (upd H p o) := Keep.same fun a u e => by rw [upd_ne (ne_of_none e h)]; exact e
/-- an object that H does not know may change -/
theorem Keep.mut {H H' : Hp} {p : Addr} {o : HO} (e : Keep H H') (h : H p = none) : Keep H (upd H' p o) :=
  ⟨fun a u ha n => by rw [upd_ne (ne_of_none ha h)]; exact e.st a u ha n, fun a u ha n => by rw [upd_ne (ne_of_none ha h)]; exact e.bx a u ha n⟩
/-- a box is changed -/
theorem Keep.box {H : Hp} {p : Addr} {o o' : HO} (h : H p = some o) (b : Box o) (b' : Box o') : Keep H (upd H p o') :=
  ⟨fun a u ha n => by
    by_cases e : a = p
    · subst e; rw [h] at ha; cases ha; exact absurd b n
    · rw [upd_ne e]; exact ha, fun a u ha n => by
    by_cases e : a = p
    · subst e; exact ⟨_, upd_same, b'⟩
    · rw [upd_ne e]; exact ⟨_, ha, n⟩⟩
/-- the box at b -/
def BoxAt (H : Hp) (b : Addr) : Prop := ∃ x y z : Int, H b = some (.lst [.int x, .int y, .int z])
theorem BoxAt.keep {H H' : Hp} {b : Addr} (h : BoxAt H b) (k : Keep H H') : BoxAt H' b := by
  obtain ⟨x, y, z, e⟩ := h
  obtain ⟨o', h1, x', y', z', rfl⟩ := k.bx b _ e ⟨x, y, z, rfl⟩
  exact ⟨x', y', z', h1⟩
end AR
namespace AR
open PySem PySem.Spec PyProof.Rows L2
section
variable {K : PySem.W.Frag} {σ : L2.St} {H H' : Hp} {Q : VK} {D : Ends} {i : Nat} {v x y : V} {ta tb te : TE} {t u : TS} {c : TT} {r : R2} {a b p : Addr}
theorem i_var {v : V} (h : σ[i]? = some (some v)) (k : Q v H) : tVar i σ H Q := ⟨v, h, k⟩
theorem i_c (k : Q v H) : tC v σ H Q := k
theorem i_op (k : ta σ H fun x H1 => tb σ H1 fun y H2 => r x y H2 Q) : tOp r ta tb σ H Q := k
theorem i_un {r : V → Hp → VK → Prop} (k : ta σ H fun x H1 => r x H1 Q) : tUn r ta σ H Q := k
theorem i_I0 {g : Int → Int → V} {i j : Int} (k : Q (g i j) H) : rI0 g (.int i) (.int j) H Q := ⟨i, j, rfl, rfl, k⟩
theorem i_I {C : Int → Int → Prop} {g : Int → Int → V} {i j : Int} (c : C i j) (k : Q (g i j) H) : rI C g (.int i) (.int j) H Q := ⟨i, j, rfl, rfl, c, k⟩
theorem i_U {g : Int → V} {i : Int} (k : Q (g i) H) : rU g (.int i) H Q := ⟨i, rfl, k⟩
theorem i_eq (s : scal x y = true) (k : Q (.bl (decide (x = y))) H) : rEq x y H Q := ⟨s, k⟩
theorem i_ne (s : scal x y = true) (k : Q (.bl (!decide (x = y))) H) : rNe x y H Q := ⟨s, k⟩
theorem i_ixL {xs : List V} {i : Int} {v : V} (h : SqL K H p xs) (e : atI xs i = some v) (k : Q v H) : rIxL K (.ref p) (.int i) H Q := ⟨p, xs, i, v, rfl, rfl, h, e, k⟩
theorem i_ixT {xs : List V} {i : Int} {v : V} (h : SqT K H p xs) (e : atI xs i = some v) (k : Q v H) : rIxT K (.ref p) (.int i) H Q := ⟨p, xs, i, v, rfl, rfl, h, e, k⟩
theorem i_nil {Q : List V → Hp → Prop} (k : Q [] H) : tNil σ H Q := k
theorem i_cons {tr : TA} {Q : List V → Hp → Prop} (k : ta σ H fun x H1 => tr σ H1 fun xs H2 => Q (x :: xs) H2) : tCons ta tr σ H Q := k
theorem i_cb {r : List V → Hp → VK → Prop} {t : TA} (k : t σ H fun vs H1 => r vs H1 Q) : tCB r t σ H Q := k
theorem i_call {sp : Sp} {dvs : List V} {E : XK} {t : TA} (k : t σ H fun vs H1 => sp (vs ++ dvs) H1 Q E) : tCall sp dvs E t σ H Q := k
theorem i_seq (k : t { D with nx := u D } σ H) : tSeq t u D σ H := k
theorem i_asg {g : TG} (k : te σ H fun x H1 => g x σ H1 D.nx) : tAsg te g D σ H := k
theorem i_name {Q : L2.St → Hp → Prop} (k : Q (σ.set i (some v)) H) : gName i v σ H Q := k
theorem i_sub {to ti : TE} {ts : TSet} {Q : L2.St → Hp → Prop} (k : to σ H fun o H1 => ti σ H1 fun i H2 => ts o i v H2 fun H3 => Q σ H3) : gSub to ti ts v σ H Q := k
theorem i_drop (k : te σ H fun _ H1 => D.nx σ H1) : tDrop te D σ H := k
theorem i_ret (k : te σ H D.rt) : tRet te D σ H := k
theorem i_retN (k : D.rt .non H) : tRetN D σ H := k
theorem i_next (k : D.nx σ H) : tNext D σ H := k
theorem i_ifS (k : c σ H fun b H1 => if b = true then t D σ H1 else u D σ H1) : tIfS c t u D σ H := k
theorem i_test {Q : Bool → Hp → Prop} (k : te σ H fun x H1 => ∃ k, x = .bl k ∧ Q k H1) : tTest te σ H Q := k
theorem i_B {Q : Bool → Hp → Prop} (k : te σ H fun x H1 => ∃ k, x = .bl k ∧ Q k H1) : tB te σ H Q := k
theorem i_not {Q : Bool → Hp → Prop} (k : c σ H fun b H1 => Q (!b) H1) : tNot c σ H Q := k
theorem i_if {c : TT} (k : c σ H fun b H1 => if b = true then ta σ H1 Q else tb σ H1 Q) : tIf c ta tb σ H Q := k
/-- a test's bool is at hand -/
theorem i_bl {b : Bool} {P : Bool → Prop} (k : P b) : ∃ k, V.bl b = .bl k ∧ P k := ⟨b, rfl, k⟩
theorem i_dec {p : Prop} [Decidable p] {A B : Prop} (h1 : p → A) (h2 : ¬ p → B) : if decide p = true then A else B := by
  by_cases h : p
  · rw [if_pos (decide_eq_true h)]; exact h1 h
  · rw [if_neg (by simpa using h)]; exact h2 h
theorem i_decN {p : Prop} [Decidable p] {A B : Prop} (h1 : ¬ p → A) (h2 : p → B) : if (!decide p) = true then A else B := by
  by_cases h : p
  · rw [if_neg (by simpa using h)]; exact h2 h
  · rw [if_pos (by simpa using h)]; exact h1 h
/-- a new list, a new tuple: the heap behind it is any that keeps what stood -/
theorem i_lst {t : TA} (k : t σ H fun xs H1 => xs.length ≤ sizeLine ∧ ∀ p H', H1 p = none → Keep H1 H' → H' p = some (.lst xs) → Q (.ref p) H') : (t σ H fun xs H1 => xs.length ≤ sizeLine ∧ ∀ p H', H1 p = none → Keep H1 H' → H' p = some (.lst xs) → Q (.ref p) H') := k
theorem new_of {o : HO} {F : Addr → Hp → Prop} (k : ∀ p H', H p = none → Keep H H' → H' p = some o → F p H') : ∀ p, H p = none → F p (upd H p o) :=
  fun p hp => k p _ hp (Keep.new hp) upd_same
theorem i_setL {xs : List V} {k : Int} {j : Nat} {Q : Hp → Prop} (h : H p = some (.lst xs)) (e : ixN xs.length k = some j) (q : Q (upd H p (.lst (xs.set j v)))) : rSetL (.ref p) (.int k) v H Q := ⟨p, xs, k, j, rfl, rfl, h, e, q⟩
theorem i_setB {xs : List V} {k : Int} {j : Nat} {Q : Hp → Prop} (h : H p = some (.lst xs)) (b : Box (.lst xs)) (b' : Box (.lst (xs.set j v))) (e : ixN xs.length k = some j) (q : ∀ H', Keep H H' → H' p = some (.lst (xs.set j v)) → Q H') : rSetL (.ref p) (.int k) v H Q :=
  ⟨p, xs, k, j, rfl, rfl, h, e, q _ (Keep.box h b b') upd_same⟩
theorem i_int1 {n : Int} (k : Q (.int n) H) : (∃ i, [V.int n] = [V.int i] ∧ Q (.int i) H) ∨ ∃ b, [V.int n] = [V.bl b] ∧ Q (.int (if b = true then 1 else 0)) H := .inl ⟨n, rfl, k⟩
end
/-! ### what is no box -/
theorem nb_tup {xs : List V} : ¬ Box (.tup xs) := fun ⟨_, _, _, e⟩ => nomatch e
theorem nb_ins {C dx : Addr} {fs : List (Str × V)} : ¬ Box (.ins C dx fs) := fun ⟨_, _, _, e⟩ => nomatch e
theorem nb_dK {kvs : List (Key × V)} : ¬ Box (.dK kvs) := fun ⟨_, _, _, e⟩ => nomatch e
theorem nb_dT {kvs : List (List Key × V)} : ¬ Box (.dT kvs) := fun ⟨_, _, _, e⟩ => nomatch e
theorem nb_frz {o : Obj} {u : HO} : ¬ Box (.frz o u) := fun ⟨_, _, _, e⟩ => nomatch e
theorem nb_own {a : Addr} : ¬ Box (.own a) := fun ⟨_, _, _, e⟩ => nomatch e
theorem nb_strs {ys : List Str} : ¬ Box (.lst (ys.map V.str)) := fun ⟨x, y, z, e⟩ => by
  injection e with e
  cases ys with
  | nil => cases e
  | cons s r => rw [List.map_cons] at e; injection e with e1; cases e1
theorem nb_refs {ys : List Addr} : ¬ Box (.lst (ys.map V.ref)) := fun ⟨x, y, z, e⟩ => by
  injection e with e
  cases ys with
  | nil => cases e
  | cons s r => rw [List.map_cons] at e; injection e with e1; cases e1
theorem nb_nil : ¬ Box (.lst []) := fun ⟨_, _, _, e⟩ => by injection e with e; cases e
theorem nb_str1 {s : Str} {r : List V} : ¬ Box (.lst (V.str s :: r)) := fun ⟨_, _, _, e⟩ => by injection e with e; injection e with e1; cases e1
theorem nb_ref1 {s : Addr} {r : List V} : ¬ Box (.lst (V.ref s :: r)) := fun ⟨_, _, _, e⟩ => by injection e with e; injection e with e1; cases e1
section
variable {K : PySem.W.Frag} {H H' : Hp} {a : Addr} {xs : List V}
theorem Keep.rd {u : HO} (k : Keep H H') (n : ¬ Box u) (h : Rd H a u) : Rd H' a u := by
  rcases h with h | ⟨o, h⟩
  · exact .inl (k.st _ _ h n)
  · exact .inr ⟨o, k.st _ _ h nb_frz⟩
theorem Keep.sqT (k : Keep H H') (h : SqT K H a xs) : SqT K H' a xs := by
  rcases h with h | h
  · exact .inl (k.rd nb_tup h)
  · exact .inr h
theorem Keep.sqL (k : Keep H H') (n : ¬ Box (.lst xs)) (h : SqL K H a xs) : SqL K H' a xs := by
  rcases h with h | h
  · exact .inl (k.rd n h)
  · exact .inr h
end
/-- the script: whatever is drawn it is read -/
def Scr (K : PySem.W.Frag) (H : Hp) (a : Addr) (xs : List V) : Prop := ∀ H', Keep H H' → SqL K H' a xs
theorem Scr.keep {K : PySem.W.Frag} {H H' : Hp} {a : Addr} {xs : List V} (h : Scr K H a xs) (k : Keep H H') : Scr K H' a xs := fun H2 k2 => h H2 (k.trans k2)
theorem Scr.sq {K : PySem.W.Frag} {H : Hp} {a : Addr} {xs : List V} (h : Scr K H a xs) : SqL K H a xs := h H (Keep.refl H)
theorem Scr.of {K : PySem.W.Frag} {H : Hp} {a : Addr} {xs : List V} (o : ∀ b, H b = none ∨ ∃ o ys, H b = some (.frz o (.lst ys))) (h : SqL K H a xs) : Scr K H a xs := fun H' k => by
  rcases h with (h | ⟨ob, h⟩) | h
  · rcases o a with e | ⟨o', ys, e⟩
    · rw [e] at h; cases h
    · rw [e] at h; cases h
  · exact .inl (.inr ⟨ob, k.st _ _ h nb_frz⟩)
  · exact .inr h
section
variable {K : PySem.W.Frag} {σ : L2.St} {H H' : Hp} {Q : VK} {D : Ends} {p : Addr}
theorem i_tup {t : TA} (k : t σ H fun xs H1 => xs.length ≤ sizeLine ∧ ∀ p H', H1 p = none → Keep H1 H' → H' p = some (.tup xs) → Q (.ref p) H') (m : ∀ (A B : List V → Hp → Prop), (∀ x h, A x h → B x h) → t σ H A → t σ H B) : tTup t σ H Q :=
  m _ _ (fun xs H1 h => ⟨h.1, fun p hp => h.2 p _ hp (Keep.new hp) upd_same⟩) k
theorem newK {p : Addr} {o : HO} {H1 : Hp} (np : H p = none) (e : upd H p o = H1) : Keep H H1 ∧ H1 p = some o := by rw [← e]; exact ⟨Keep.new np, upd_same⟩
theorem newS {p : Addr} {o : HO} {H1 : Hp} (np : H p = none) (e : upd H p o = H1) : Same H H1 ∧ H1 p = some o := by rw [← e]; exact ⟨fun a u h => by rw [upd_ne (ne_of_none h np)]; exact h, upd_same⟩
/-- the display's own items are there -/
theorem i_lst1 {xs : List V} (hl : xs.length ≤ sizeLine) (k : ∀ p H', H p = none → Keep H H' → H' p = some (.lst xs) → Q (.ref p) H') : xs.length ≤ sizeLine ∧ ∀ p, H p = none → Q (.ref p) (upd H p (.lst xs)) :=
  ⟨hl, fun p hp => k p _ hp (Keep.new hp) upd_same⟩
theorem i_tup1 {xs : List V} {F : Addr → Hp → Prop} (hl : xs.length ≤ sizeLine) (k : ∀ p H', H p = none → Keep H H' → H' p = some (.tup xs) → F p H') : xs.length ≤ sizeLine ∧ ∀ p, H p = none → F p (upd H p (.tup xs)) :=
  ⟨hl, fun p hp => k p _ hp (Keep.new hp) upd_same⟩
theorem i_lst1S {xs : List V} {F : Addr → Hp → Prop} (hl : xs.length ≤ sizeLine) (k : ∀ p H', H p = none → Same H H' → H' p = some (.lst xs) → F p H') : xs.length ≤ sizeLine ∧ ∀ p, H p = none → F p (upd H p (.lst xs)) :=
  ⟨hl, fun p hp => k p _ hp (fun a u e => by rw [upd_ne (ne_of_none e hp)]; exact e) upd_same⟩
theorem i_tup1S {xs : List V} {F : Addr → Hp → Prop} (hl : xs.length ≤ sizeLine) (k : ∀ p H', H p = none → Same H H' → H' p = some (.tup xs) → F p H') : xs.length ≤ sizeLine ∧ ∀ p, H p = none → F p (upd H p (.tup xs)) :=
  ⟨hl, fun p hp => k p _ hp (fun a u e => by rw [upd_ne (ne_of_none e hp)]; exact e) upd_same⟩
/-- a new object of any kind -/
theorem i_new {o : HO} {F : Addr → Hp → Prop} (k : ∀ p H', H p = none → Keep H H' → H' p = some o → F p H') : ∀ p, H p = none → F p (upd H p o) := fun p hp => k p _ hp (Keep.new hp) upd_same
theorem i_newS {o : HO} {F : Addr → Hp → Prop} (k : ∀ p H', H p = none → Same H H' → H' p = some o → F p H') : ∀ p, H p = none → F p (upd H p o) := fun p hp => k p _ hp (fun a u e => by rw [upd_ne (ne_of_none e hp)]; exact e) upd_same
theorem i_Lst {t : TA} (k : t σ H fun xs H1 => xs.length ≤ sizeLine ∧ ∀ p, H1 p = none → Q (.ref p) (upd H1 p (.lst xs))) : tLst t σ H Q := k
theorem i_Tup {t : TA} (k : t σ H fun xs H1 => xs.length ≤ sizeLine ∧ ∀ p, H1 p = none → Q (.ref p) (upd H1 p (.tup xs))) : tTup t σ H Q := k
theorem i_par {i j : Nat} {ta : TA} {D : Ends} (k : ta σ H fun vs H1 => ∃ v w, vs = [v, w] ∧ D.nx ((σ.set i (some v)).set j (some w)) H1) : tPar i j ta D σ H := k
theorem i_and {c d : TT} {Q : Bool → Hp → Prop} (k : c σ H fun b H1 => if b = true then d σ H1 Q else Q false H1) : tAnd c d σ H Q := k
theorem i_or {c d : TT} {Q : Bool → Hp → Prop} (k : c σ H fun b H1 => if b = true then Q true H1 else d σ H1 Q) : tOr c d σ H Q := k
theorem i_andV {ta tb : TE} (k : ta σ H fun x H1 => ∃ c, x = .bl c ∧ if c = true then tb σ H1 Q else Q (.bl false) H1) : tAndV ta tb σ H Q := k
theorem i_orV {ta tb : TE} (k : ta σ H fun x H1 => ∃ c, x = .bl c ∧ if c = true then Q (.bl true) H1 else tb σ H1 Q) : tOrV ta tb σ H Q := k
theorem i_notV {ta : TE} (k : ta σ H fun x H1 => ∃ c, x = .bl c ∧ Q (.bl (!c)) H1) : tNotV ta σ H Q := k
theorem i_m1 {r : V → List V → Hp → VK → Prop} {to te : TE} (k : to σ H fun x H1 => (∃ z, x = .str z) ∧ te σ H1 fun y H2 => r x [y] H2 Q) : (to σ H fun x H1 => (∃ z, x = .str z) ∧ te σ H1 fun y H2 => r x [y] H2 Q) := k
theorem i_M1 {r : V → List V → Hp → VK → Prop} {to te : TE} (k : to σ H fun x H1 => (∃ z, x = .str z) ∧ te σ H1 fun y H2 => r x [y] H2 Q) : tM1 r to te σ H Q := k
theorem i_M0 {r : V → List V → Hp → VK → Prop} {to : TE} (k : to σ H fun x H1 => (∃ z, x = .str z) ∧ r x [] H1 Q) : tM0 r to σ H Q := k
theorem i_isS {z : Str} {B : Prop} (k : B) : (∃ a, V.str z = .str a) ∧ B := ⟨⟨z, rfl⟩, k⟩
theorem i_bm {T : String} {r : V → List V → Hp → VK → Prop} {to : TE} {t : TA} (k : to σ H fun x H1 => tyV K T x H1 ∧ t σ H1 fun xs H2 => r x xs H2 Q) : tBM K T r to t σ H Q := k
theorem i_bm0 {T : String} {r : V → List V → Hp → VK → Prop} {to : TE} (k : to σ H fun x H1 => tyV K T x H1 ∧ r x [] H1 Q) : tBM0 K T r to σ H Q := k
theorem i_fld {ta : TE} {f : Str} {a C dx : Addr} {fs : List (Str × V)} {v : V} (k : ta σ H fun x H1 => ∃ a C dx fs v, x = .ref a ∧ H1 a = some (.ins C dx fs) ∧ Cls K C ∧ NoAttr K C f ∧ fs.lookup f = some v ∧ Q v H1) : tFld K ta f σ H Q := k
theorem i_sl {r : V → Option Int → Option Int → Hp → VK → Prop} {te : TE} {tl th : TO} (k : te σ H fun x H1 => tl σ H1 fun l H2 => th σ H2 fun u H3 => r x l u H3 Q) : tSl r te tl th σ H Q := k
theorem i_part {t : TE} {Q : Option Int → Hp → Prop} (k : t σ H fun x H1 => ∃ i, x = .int i ∧ Q (some i) H1) : tPart t σ H Q := k
theorem i_nopart {Q : Option Int → Hp → Prop} (k : Q none H) : tNoPart σ H Q := k
theorem i_yes {Q : Bool → Hp → Prop} (k : Q true H) : tYes σ H Q := k
theorem i_it {A B : Prop} (h : A) : if true = true then A else B := by rw [if_pos rfl]; exact h
theorem i_if0 {A B : Prop} (h : B) : if false = true then A else B := by rw [if_neg (by decide)]; exact h
theorem i_iRng1 {ta : TA} {R : It → Hp → Prop} (k : ta σ H fun vs H1 => ∃ j : Int, vs = [.int j] ∧ -(2 ^ 62) ≤ j ∧ j < 2 ^ 62 ∧ R (Itr 0 j.toNat) H1) : iRng1 ta σ H R := k
theorem i_iStr {te : TE} {R : It → Hp → Prop} (k : te σ H fun v H1 => ∃ x, v = .str x ∧ R (Its x) H1) : iStr te σ H R := k
theorem i_iList {te : TE} {R : It → Hp → Prop} (k : te σ H fun x H1 => ∃ a, x = .ref a ∧ (∃ xs, SqL K H1 a xs) ∧ R (Itl K a) H1) : iList K te σ H R := k
theorem i_iTup {te : TE} {R : It → Hp → Prop} (k : te σ H fun x H1 => ∃ a, x = .ref a ∧ (∃ xs, SqT K H1 a xs) ∧ R (Itt K a) H1) : iTup K te σ H R := k
theorem i_for {wi : TI} {g : TG} {tb : TS} (k : wi σ H fun J H1 => ∃ W : Nat → Nat → L2.St → Hp → Prop, (∃ m, W 0 m σ H1) ∧ ∀ i m σ H, W i m σ H →
    (J.stop i H ∧ D.nx σ H) ∨ (J.go i H ∧ ∃ N : L2.St → Hp → Prop, (∀ σ' H', N σ' H' → ∃ m', m' < m ∧ W (i + 1) m' σ' H') ∧ ∀ x H', J.yld i H x H' → g x σ H' fun σ2 H2 => tb { D with nx := N, ct := N, bk := D.nx } σ2 H2)) : tFor wi g tb D σ H := k
end
end AR
namespace AR
open PySem PySem.Spec PyProof.Rows L2
/-! ### what is walked: a text, a list, a tuple -/
inductive Src where
  | txt (x : Str) | lst (a : Addr) | tup (a : Addr)
def Src.v : Src → V
  | .txt x => .str x
  | .lst a => .ref a
  | .tup a => .ref a
/-- the signs of a text as values -/
def chV (x : Str) : List V := x.cps.toList.map fun c => V.str ⟨#[c]⟩
def Src.has (K : PySem.W.Frag) (H : Hp) (xs : List V) : Src → Prop
  | .txt x => xs = chV x
  | .lst a => SqL K H a xs
  | .tup a => SqT K H a xs
def Src.fp : Src → List Addr
  | .txt _ => []
  | .lst a => [a]
  | .tup a => [a]
/-- the value it stands for -/
def Src.is (t : Tok) : Src → Value → Prop
  | .txt x, v => v = .str x t
  | .lst a, v => v = .ref a
  | .tup a, v => v = .ref a
def Src.obj (t : Tok) : Src → Obj
  | .txt x => { cls := .type (strIterType x), data := .fields #[.str x t, .int 0 0] }
  | .lst l => { cls := .type "list_iterator", data := .fields #[.ref l, .int 0 0] }
  | .tup l => { cls := .type "tuple_iterator", data := .fields #[.ref l, .int 0 0] }
/-- its iterator's state -/
def Src.at (t : Tok) (it : Addr) (i : Nat) (h : Heap) : Src → Prop
  | .txt x => h.IsStrIter it (strIterType x) x t i
  | .lst a => h.IsListIter it a i
  | .tup a => h.IsTupleIter it a i
/-- what the heap holds of it -/
def Src.ok (items : Array Value) (h : Heap) : Src → Prop
  | .txt _ => True
  | .lst a => h.IsList a items
  | .tup a => h.IsTuple a items
def Src.rel (xs : List V) (items : Array Value) : Src → Prop
  | .txt x => xs = chV x
  | .lst _ => Vals xs items.toList
  | .tup _ => Vals xs items.toList
section
variable {P : Program} {w : World} {A : Around}
theorem Src.draws (hh : A.handled = none) (src : Src) (t : Tok) (it : Addr) (items : Array Value) (xs : List V) (hr : src.rel xs items) (hne : ∀ b ∈ src.fp, b ≠ it) :
    Draws P w A it (it :: src.fp) xs.length (fun i v => ∃ x, xs[i]? = some x ∧ RelV x v) (fun i h => src.at t it i h ∧ src.ok items h) := by
  cases src with
  | txt x =>
    have hx : xs = chV x := hr
    have D := Draws.text (prog := P) (w := w) hh it x t
    have hl : xs.length = x.cps.size := by rw [hx]; simp [chV]
    refine ⟨fun i h st => D.live i h st.1, fun i h h' st k => ⟨D.frame i h h' st.1 fun b hb o e => k b (by rw [List.mem_singleton.mp hb]; exact List.mem_cons_self) o e, trivial⟩, fun i s Q E hi st hQ => ?_, fun s Q E st hE => ?_⟩
    · refine D.item i s Q E (by omega) st.1 fun v h' tk hv st' sb => hQ v h' tk ?_ ⟨st', trivial⟩ sb
      obtain ⟨c, u, hc, rfl⟩ := hv
      refine ⟨.str ⟨#[c]⟩, ?_, u, rfl⟩
      rw [hx]
      unfold chV
      rw [List.getElem?_map, Array.getElem?_toList, hc]
      rfl
    · exact D.done s Q E (by rw [← hl]; exact st.1) hE
  | lst a =>
    have hv : Vals xs items.toList := hr
    have D := Draws.list (prog := P) (w := w) hh it a (hne a (by simp [Src.fp])) items
    have hl : xs.length = items.size := by rw [hv.length]; simp
    refine ⟨fun i h st => D.live i h st, fun i h h' st k => D.frame i h h' st fun b hb o e => k b (by simpa [Src.fp] using hb) o e, fun i s Q E hi st hQ => ?_, fun s Q E st hE => ?_⟩
    · refine D.item i s Q E (by omega) st fun v h' tk hv' st' sb => hQ v h' tk ?_ st' sb
      obtain ⟨x, hx⟩ : ∃ x, xs[i]? = some x := ⟨xs[i], by simp [hi]⟩
      obtain ⟨u, hu, r⟩ := hv.get hx
      have : u = v := by
        rw [Array.getElem?_toList] at hu
        rw [hu] at hv'
        exact Option.some.inj hv'
      subst this
      exact ⟨x, hx, r⟩
    · exact D.done s Q E (by rw [← hl]; exact st) hE
  | tup a =>
    have hv : Vals xs items.toList := hr
    have D := Draws.tuple (prog := P) (w := w) hh it a (hne a (by simp [Src.fp])) items
    have hl : xs.length = items.size := by rw [hv.length]; simp
    refine ⟨fun i h st => D.live i h st, fun i h h' st k => D.frame i h h' st fun b hb o e => k b (by simpa [Src.fp] using hb) o e, fun i s Q E hi st hQ => ?_, fun s Q E st hE => ?_⟩
    · refine D.item i s Q E (by omega) st fun v h' tk hv' st' sb => hQ v h' tk ?_ st' sb
      obtain ⟨x, hx⟩ : ∃ x, xs[i]? = some x := ⟨xs[i], by simp [hi]⟩
      obtain ⟨u, hu, r⟩ := hv.get hx
      have : u = v := by
        rw [Array.getElem?_toList] at hu
        rw [hu] at hv'
        exact Option.some.inj hv'
      subst this
      exact ⟨x, hx, r⟩
    · exact D.done s Q E (by rw [← hl]; exact st) hE
theorem Src.begins (src : Src) (t : Tok) (items : Array Value) {v : Value} (hv : src.is t v) : Begins v (src.obj t) (src.ok items) := by
  cases src with
  | txt x => cases hv; exact begins_text x t
  | lst a => cases hv; exact begins_list a items
  | tup a => cases hv; exact begins_tuple a items
theorem Src.at_obj (src : Src) (t : Tok) {it : Addr} {h : Heap} (e : h.get? it = some (src.obj t)) : src.at t it 0 h := by
  cases src with
  | txt x => exact ⟨_, e, rfl, rfl⟩
  | lst a => exact ⟨_, e, rfl, rfl⟩
  | tup a => exact ⟨_, e, rfl, rfl⟩
theorem Src.at_keep (src : Src) {t : Tok} {it : Addr} {i : Nat} {h h' : Heap} (x : src.at t it i h) (k : ∀ o, h.get? it = some o → h'.get? it = some o) : src.at t it i h' := by
  cases src with
  | txt x' => obtain ⟨o, e, r⟩ := x; exact ⟨o, k o e, r⟩
  | lst a => obtain ⟨o, e, r⟩ := x; exact ⟨o, k o e, r⟩
  | tup a => obtain ⟨o, e, r⟩ := x; exact ⟨o, k o e, r⟩
theorem Src.at_live (src : Src) {t : Tok} {it : Addr} {i : Nat} {h : Heap} (x : src.at t it i h) : ∃ o, h.get? it = some o ∧ ∀ v, o.data ≠ .cell v := by
  cases src with
  | txt x' => obtain ⟨o, e, _, d⟩ := x; exact ⟨o, e, fun v q => by rw [d] at q; cases q⟩
  | lst a => obtain ⟨o, e, _, d⟩ := x; exact ⟨o, e, fun v q => by rw [d] at q; cases q⟩
  | tup a => obtain ⟨o, e, _, d⟩ := x; exact ⟨o, e, fun v q => by rw [d] at q; cases q⟩
end
section
variable {X : Cx} {pins : List (Addr × Obj)} {σ : L2.St} {H : Hp} {s : Shared}
theorem Src.given (I : Inv X pins σ H s) (src : Src) {xs : List V} (h : src.has X.K H xs) : ∃ items : Array Value, src.ok items s.heap ∧ src.rel xs items ∧ (∀ b ∈ src.fp, b < s.heap.objs.size) ∧ (∀ b ∈ src.fp, ∃ o, s.heap.get? b = some o) := by
  cases src with
  | txt x => exact ⟨#[], trivial, h, fun b hb => absurd hb (by simp [Src.fp]), fun b hb => absurd hb (by simp [Src.fp])⟩
  | lst a =>
    obtain ⟨its, r, pl, _⟩ := I.list h
    obtain ⟨o, e, q⟩ := pl.isList
    refine ⟨its.toArray, pl.isList, by simpa [Src.rel] using r, fun b hb => ?_, fun b hb => ?_⟩
    · have : b = a := by simpa [Src.fp] using hb
      subst this; exact pl.lt
    · have : b = a := by simpa [Src.fp] using hb
      subst this; exact ⟨o, e⟩
  | tup a =>
    obtain ⟨its, r, pl, _⟩ := I.tuple h
    obtain ⟨o, e, q⟩ := id pl
    refine ⟨its.toArray, pl, by simpa [Src.rel] using r, fun b hb => ?_, fun b hb => ?_⟩
    · have : b = a := by simpa [Src.fp] using hb
      subst this; exact Heap.lt_size e
    · have : b = a := by simpa [Src.fp] using hb
      subst this; exact ⟨o, e⟩
theorem Src.is_of (src : Src) {v : Value} (r : RelV src.v v) : ∃ t, src.is t v := by
  cases src with
  | txt x => obtain ⟨t, e⟩ := r; exact ⟨t, e⟩
  | lst a => exact ⟨0, r⟩
  | tup a => exact ⟨0, r⟩
end
/-! ### zip -/
def ItZ (K : PySem.W.Frag) (s1 s2 : Src) (xs ys : List V) : It :=
  ⟨fun i H => s1.has K H xs ∧ s2.has K H ys ∧ i < min xs.length ys.length,
    fun i H v H' => ∃ T x y, v = .ref T ∧ H T = none ∧ H' = upd H T (.tup [x, y]) ∧ xs[i]? = some x ∧ ys[i]? = some y,
    fun i H => s1.has K H xs ∧ s2.has K H ys ∧ i = min xs.length ys.length⟩
theorem walk_Z {K : PySem.W.Frag} {s1 s2 : Src} {xs ys : List V} : Walk (ItZ K s1 s2 xs ys) (min xs.length ys.length) (fun H => s1.has K H xs ∧ s2.has K H ys) (YPair (fun i => xs[i]?) (fun i => ys[i]?)) :=
  ⟨fun i H hi q => ⟨q.1, q.2, hi⟩, fun H q => ⟨q.1, q.2, rfl⟩, fun i H v H' _ _ y => y⟩
theorem turn_Z {P : Program} {w : World} {K : PySem.W.Frag} {elts : List Expr} {kk : Nat} {tpos : Pos} {z TI TO i1 i2 : Addr} {s1 s2 : Src} {t1 t2 : Tok} {xs ys : List V} (S : ZipSep2 z TI TO i1 i2 (i1 :: s1.fp) (i2 :: s2.fp)) (n1 : ∀ b ∈ s1.fp, b ≠ i1) (n2 : ∀ b ∈ s2.fp, b ≠ i2) :
    Turn P w K (.Tuple elts kk tpos) (ItZ K s1 s2 xs ys) [z, TI, TO, i1, i2] z (fun i h => IsZip h z TI TO .none ∧ IsTupOf2 h TI (.ref i1) (.ref i2) ∧ (∃ x y, IsTupOf2 h TO x y) ∧ s1.at t1 i1 i h ∧ s2.at t2 i2 i h) where
  mem := by simp
  obj := fun i h st c hc => by
    obtain ⟨hz, hTI, ⟨x, y, hTO⟩, h1, h2⟩ := st
    have e' : c = z ∨ c = TI ∨ c = TO ∨ c = i1 ∨ c = i2 := by simpa using hc
    rcases e' with q | q | q | q | q
    · rw [q]; exact ⟨_, hz, fun v q => nomatch q⟩
    · rw [q]; exact ⟨_, hTI, fun v q => nomatch q⟩
    · rw [q]; exact ⟨_, hTO, fun v q => nomatch q⟩
    · rw [q]; exact s1.at_live h1
    · rw [q]; exact s2.at_live h2
  keep := fun i h h' st k => by
    obtain ⟨hz, hTI, ⟨x, y, hTO⟩, h1, h2⟩ := st
    exact ⟨k z (by simp) _ hz, k TI (by simp) _ hTI, ⟨x, y, k TO (by simp) _ hTO⟩, s1.at_keep h1 fun o q => k i1 (by simp) o q, s2.at_keep h2 fun o q => k i2 (by simp) o q⟩
  item := by
    intro X hP hw hK hc i pins s σ H E I hf st hg
    subst hP hw hK
    obtain ⟨hz, hTI, hTO, h1, h2⟩ := st
    obtain ⟨g1, g2, hi⟩ := hg
    obtain ⟨it1, o1, r1, _, _⟩ := Src.given I s1 g1
    obtain ⟨it2, o2, r2, _, _⟩ := Src.given I s2 g2
    have D1 := Src.draws (P := X.prog) (w := X.w) (A := X.A.in1) (I.ok.hd hc) s1 t1 i1 it1 xs r1 n1
    have D2 := Src.draws (P := X.prog) (w := X.w) (A := X.A.in1) (I.ok.hd hc) s2 t2 i2 it2 ys r2 n2
    have G := GoesN.zip2 (elts := elts) (x1 := kk) (pos := tpos) S D1 D2
    refine G.goes i s (fun u s2' => ∃ x H', Inv X pins σ H' s2' ∧ RelV x u ∧ (ItZ X.K s1 s2 xs ys).yld i H x H' ∧ (IsZip s2'.heap z TI TO .none ∧ IsTupOf2 s2'.heap TI (.ref i1) (.ref i2) ∧ (∃ x y, IsTupOf2 s2'.heap TO x y) ∧ s1.at t1 i1 (i + 1) s2'.heap ∧ s2.at t2 i2 (i + 1) s2'.heap) ∧ ∀ b ∈ [z, TI, TO, i1, i2], H' b = none) E hi ⟨hz, hTI, hTO, ⟨h1, o1⟩, ⟨h2, o2⟩⟩ ?_
    rintro v h' tk ⟨T, u, u2, rfl, hT, ⟨x, hx, rx⟩, ⟨y, hy, ry⟩, isT⟩ ⟨z', TI', TO', ⟨a1, _⟩, ⟨a2, _⟩⟩ kept _
    have new : ObjOk X.prog X.w (upd H T (.tup [x, y])) h' T (.tup [x, y]) := ⟨by show 2 ≤ sizeLine; decide, [u, u2], .cons rx (.cons ry .nil), isT⟩
    have I1 : Inv X pins σ (upd H T (.tup [x, y])) { s with heap := h', toks := tk } := I.turnedNew (t' := tk) (ch := [z, TI, TO, i1, i2]) (fun c o hb q => kept c o (fun m => hb (by
      have e' : c = z ∨ c = TO ∨ c = i1 ∨ c = i2 := by simpa using m
      rcases e' with q | q | q | q <;> simp [q])) q) hf hT new
    refine ⟨.ref T, _, I1, rfl, ⟨T, x, y, rfl, I.hok.fresh hT, rfl, hx, hy⟩, ⟨z', TI', TO', a1, a2⟩, fun c hcm => ?_⟩
    have hlt : c ≠ T := by
      intro e
      have e' : c = z ∨ c = TI ∨ c = TO ∨ c = i1 ∨ c = i2 := by simpa using hcm
      have hl : c < s.heap.objs.size := by
        obtain ⟨_, _, hTO⟩ := hTO
        rcases e' with q | q | q | q | q
        · rw [q]; exact Heap.lt_size hz
        · rw [q]; exact Heap.lt_size hTI
        · rw [q]; exact Heap.lt_size hTO
        · rw [q]; obtain ⟨_, e1, _⟩ := s1.at_live h1; exact Heap.lt_size e1
        · rw [q]; obtain ⟨_, e2, _⟩ := s2.at_live h2; exact Heap.lt_size e2
      rw [e] at hl
      exact absurd (Nat.lt_of_lt_of_le hl hT) (Nat.lt_irrefl _)
    rw [upd_ne hlt]
    exact (hf c hcm).1
  done := by
    intro X hP hw hK hc i pins s σ H E I hf st hg
    subst hP hw hK
    obtain ⟨hz, hTI, hTO, h1, h2⟩ := st
    obtain ⟨g1, g2, hi⟩ := hg
    obtain ⟨it1, o1, r1, _, _⟩ := Src.given I s1 g1
    obtain ⟨it2, o2, r2, _, _⟩ := Src.given I s2 g2
    have D1 := Src.draws (P := X.prog) (w := X.w) (A := X.A.in1) (I.ok.hd hc) s1 t1 i1 it1 xs r1 n1
    have D2 := Src.draws (P := X.prog) (w := X.w) (A := X.A.in1) (I.ok.hd hc) s2 t2 i2 it2 ys r2 n2
    have G := GoesN.zip2 (elts := elts) (x1 := kk) (pos := tpos) S D1 D2
    refine G.stops s (fun s' => Inv X pins σ H s') E (by rw [← hi]; exact ⟨hz, hTI, hTO, ⟨h1, o1⟩, ⟨h2, o2⟩⟩) fun h' tk kept _ => I.turnedL (t' := tk) (ch := [z, TI, TO, i1, i2]) (fun c o hb q => kept c o (fun m => hb (by
      have e' : c = z ∨ c = TO ∨ c = i1 ∨ c = i2 := by simpa using m
      rcases e' with q | q | q | q <;> simp [q])) q) hf
  self := fun A i s Q E st h => wpAny_pyIter_zip st.1 h
def iZ (K : PySem.W.Frag) (ta : TA) : TI := fun σ H R => ta σ H fun vs H1 => ∃ s1 s2 : Src, ∃ xs ys, vs = [s1.v, s2.v] ∧ s1.has K H1 xs ∧ s2.has K H1 ys ∧ R (ItZ K s1 s2 xs ys) H1
theorem pi_Z {X : Cx} {e e2 : Expr} {ta : TA} {p pos tpos : Pos} {elts : List Expr} {kk : Nat} (hg : Gl X "zip") (hm : X.mg "zip" = none) (ha : PA X [e, e2] ta)
    (hs : starEach [e, e2] X.env = (false, eval e X.env) :: starEach [e2] X.env := by rfl) (hpl : (backTo pos (starEach [e2] X.env)).any (·.1) = false := by rfl) :
    PI X (.Tuple elts kk tpos) (.Call (.Name "zip" p) [e, e2] [] pos) (iZ X.K ta) := by
  refine ⟨fun pins s σ H R I h => ?_⟩
  refine Call_ (ld_blt I hg hm PyProof.Rows.boot_zip (PyProof.Rows.callWith_type1 (thn (ha.run pos pins s σ H _ I h) fun us s1 ⟨vs, H1, I1, r1, q1⟩ => ?_) hs hpl))
  obtain ⟨c1, c2, xs, ys, rfl, g1, g2, q⟩ := q1
  cases r1 with
  | cons r rr =>
    cases rr with
    | cons r' rr =>
      cases rr
      obtain ⟨t1, e1⟩ := c1.is_of r
      obtain ⟨t2, e2⟩ := c2.is_of r'
      obtain ⟨it1, o1, r1, l1, _⟩ := Src.given I1 c1 g1
      obtain ⟨it2, o2, r2, l2, _⟩ := Src.given I1 c2 g2
      refine zip_begins2 (c1.begins t1 it1 e1) (c2.begins t2 it2 e2) o1 o2 fun h' hz hTI hTO h1 h2 hsz hk => wpAny_pyIter_zip hz ?_
      have I2 : Inv X pins σ H1 { s1 with heap := h' } := I1.kept (t' := s1.toks) hk
      refine ⟨s1.heap.objs.size + 4, [s1.heap.objs.size + 4, s1.heap.objs.size + 2, s1.heap.objs.size + 3, s1.heap.objs.size, s1.heap.objs.size + 1], _, _, H1, rfl, I2,
        turn_Z (t1 := t1) (t2 := t2) (zip_sep2 l1 l2) (fun b hb => Nat.ne_of_lt (l1 b hb)) (fun b hb => Nat.ne_of_lt (Nat.lt_succ_of_lt (l2 b hb))), ⟨hz, hTI, ⟨_, _, hTO⟩, c1.at_obj t1 h1, c2.at_obj t2 h2⟩, fun c hcm => ?_, q⟩
      have e' : c = s1.heap.objs.size + 4 ∨ c = s1.heap.objs.size + 2 ∨ c = s1.heap.objs.size + 3 ∨ c = s1.heap.objs.size ∨ c = s1.heap.objs.size + 1 := by simpa using hcm
      have hle : s1.heap.objs.size ≤ c := by
        rcases e' with z | z | z | z | z
        · rw [z]; exact Nat.le_add_right _ _
        · rw [z]; exact Nat.le_add_right _ _
        · rw [z]; exact Nat.le_add_right _ _
        · rw [z]; exact Nat.le_refl _
        · rw [z]; exact Nat.le_add_right _ _
      exact I1.fpOk hle (I1.hok.fresh hle)
end AR
namespace AR
open PySem PySem.Spec PyProof.Rows L2
theorem same_new {H : Hp} {p : Addr} {o : HO} (h : H p = none) : Same H (upd H p o) := fun a u e => by rw [upd_ne (ne_of_none e h)]; exact e
theorem same_mut {H H' : Hp} {p : Addr} {o : HO} (e : Same H H') (h : H p = none) : Same H (upd H' p o) := fun a u ha => by rw [upd_ne (ne_of_none ha h)]; exact e a u ha
theorem sameSqT {K : PySem.W.Frag} {H H' : Hp} {a : Addr} {xs : List V} (e : Same H H') (h : SqT K H a xs) : SqT K H' a xs := by
  rcases h with (h | ⟨o, h⟩) | h
  · exact .inl (.inl (e _ _ h))
  · exact .inl (.inr ⟨o, e _ _ h⟩)
  · exact .inr h
theorem sameHas {K : PySem.W.Frag} {H H' : Hp} {s : Src} {xs : List V} (e : Same H H') (h : s.has K H xs) : s.has K H' xs := by
  cases s with
  | txt x => exact h
  | lst a => exact e.seq h
  | tup a => exact sameSqT e h
section
variable {J : It} {n : Nat} {G : Hp → Prop} {Y : Nat → Hp → V → Hp → Prop} {g : TG} {tt : TT} {te : TE} {vs : List Nat} {σ : L2.St} {H1 : Hp} {Qd : Addr → Hp → Prop}
/-- what a comprehension asks of the new list -/
def LcAsk (J : It) (g : TG) (tt : TT) (te : TE) (vs : List Nat) (σ : L2.St) (H1 : Hp) (Qd : Addr → Hp → Prop) : Prop :=
  ∀ D, H1 D = none → ∃ W : Nat → Nat → Hp → Prop, (∃ m, W 0 m (upd H1 D (.lst []))) ∧ ∀ i m H, W i m H →
      (J.stop i H ∧ Qd D H) ∨ (J.go i H ∧ ∃ Nx : Hp → Prop, (∀ H', Nx H' → ∃ m', m' < m ∧ W (i + 1) m' H') ∧ ∀ x H', J.yld i H x H' → g x (wipe σ vs) H' fun σ2 H2 => wipe σ2 vs = wipe σ vs ∧ tt σ2 H2 fun b H3 =>
        if b = true then te σ2 H3 fun y H4 => ∃ acc, H4 D = some (.lst acc) ∧ acc.length < sizeLine ∧ Nx (upd H4 D (.lst (acc ++ [y]))) else Nx H3)
theorem i_lc {wi : TI} {H : Hp} {Q : VK} (k : wi σ H fun J H1 => LcAsk J g tt te vs σ H1 fun D H' => Q (.ref D) H') : tLc wi g tt te vs σ H Q := k
/-- a comprehension whose elements are told by their places and that leaves all as it was -/
theorem lcF (w : Walk J n G Y) (kp : Nat → Bool) (out : Nat → V) (hn : n ≤ sizeLine) (hG : ∀ H, Same H1 H → G H)
    (hs : ∀ i x H H' (C : VK) (N : Hp → Prop), i < n → Same H1 H → Y i H x H' → (kp i = true → ∀ H4, Same H H4 → C (out i) H4) → (kp i = false → ∀ H3, Same H H3 → N H3) →
      g x (wipe σ vs) H' fun σ2 H2 => wipe σ2 vs = wipe σ vs ∧ tt σ2 H2 fun b H3 => if b = true then te σ2 H3 C else N H3)
    (hd : ∀ D H', H1 D = none → Same H1 H' → H' D = some (.lst (((List.range n).filter kp).map out)) → Qd D H') : LcAsk J g tt te vs σ H1 Qd := by
  intro D hD
  refine lc_it w (Qd := Qd D) (fun i H => Same H1 H ∧ H D = some (.lst (((List.range i).filter kp).map out))) ⟨same_new hD, upd_same⟩ (fun i H _ p => hG H p.1) (fun i x H H' hi p y => ?_) fun H p => hd D H hD p.1 p.2
  refine hs i x H H' _ _ hi p.1 y (fun hk H4 s4 => ?_) fun hk H3 s3 => ?_
  · refine ⟨_, s4 _ _ p.2, ?_, same_mut (p.1.trans s4) hD, ?_⟩
    · rw [List.length_map]
      have := List.length_filter_le kp (List.range i)
      rw [List.length_range] at this
      omega
    · rw [upd_same, List.range_succ, List.filter_append, List.map_append]
      simp [hk]
  · refine ⟨p.1.trans s3, ?_⟩
    rw [List.range_succ, List.filter_append, List.map_append]
    simp [hk]
    exact s3 _ _ p.2
theorem lcS (w : Walk J n G Y) (out : Nat → V) (hn : n ≤ sizeLine) (hG : ∀ H, Same H1 H → G H)
    (hs : ∀ i x H H' (C : VK) (N : Hp → Prop), i < n → Same H1 H → Y i H x H' → (∀ H4, Same H H4 → C (out i) H4) →
      g x (wipe σ vs) H' fun σ2 H2 => wipe σ2 vs = wipe σ vs ∧ tt σ2 H2 fun b H3 => if b = true then te σ2 H3 C else N H3)
    (hd : ∀ D H', H1 D = none → Same H1 H' → H' D = some (.lst ((List.range n).map out)) → Qd D H') : LcAsk J g tt te vs σ H1 Qd :=
  lcF w (fun _ => true) out hn hG (fun i x H H' C N hi s y k _ => hs i x H H' C N hi s y (k rfl)) fun D H' h1 h2 h3 => hd D H' h1 h2 (by rw [h3, List.filter_eq_self.mpr (fun _ _ => rfl)])
/-- a comprehension whose elements draw from a box -/
theorem lcK (w : Walk J n G Y) (Pe : Nat → V → Prop) (hn : n ≤ sizeLine) (nb : ∀ ys : List V, (∀ (j : Nat) y, ys[j]? = some y → Pe j y) → ¬ Box (.lst ys)) (hG : ∀ H, Keep H1 H → G H)
    (hs : ∀ i x H H' (C : VK) (N : Hp → Prop), i < n → Keep H1 H → Y i H x H' → (∀ y H4, Pe i y → Keep H H4 → C y H4) →
      g x (wipe σ vs) H' fun σ2 H2 => wipe σ2 vs = wipe σ vs ∧ tt σ2 H2 fun b H3 => if b = true then te σ2 H3 C else N H3)
    (hd : ∀ D H' (ys : List V), H1 D = none → Keep H1 H' → H' D = some (.lst ys) → ys.length = n → (∀ (j : Nat) y, ys[j]? = some y → Pe j y) → Qd D H') : LcAsk J g tt te vs σ H1 Qd := by
  intro D hD
  refine lc_it w (Qd := Qd D) (fun i H => Keep H1 H ∧ ∃ ys : List V, H D = some (.lst ys) ∧ ys.length = i ∧ ∀ (j : Nat) y, ys[j]? = some y → Pe j y) ⟨Keep.new hD, [], upd_same, rfl, fun j y h => by simp at h⟩ (fun i H _ p => hG H p.1) (fun i x H H' hi p y => ?_) fun H p => ?_
  · obtain ⟨kp, ys, hys, hl, hp⟩ := p
    refine hs i x H H' _ _ hi kp y fun y' H4 pe k4 => ?_
    refine ⟨ys, k4.st _ _ hys (nb ys hp), by omega, (kp.trans k4).mut hD, ys ++ [y'], upd_same, by rw [List.length_append, hl]; rfl, fun j v hv => ?_⟩
    rcases Nat.lt_trichotomy j ys.length with h1 | h1 | h1
    · rw [List.getElem?_append_left h1] at hv; exact hp j v hv
    · subst h1
      have : y' = v := by simpa using hv
      subst this; rw [hl]; exact pe
    · have hnone : (ys ++ [y'])[j]? = none := List.getElem?_eq_none (by rw [List.length_append, List.length_singleton]; omega)
      rw [hnone] at hv; cases hv
  · obtain ⟨kp, ys, hys, hl, hp⟩ := p
    exact hd D H ys hD kp hys hl hp
end
end AR
namespace AR
open PySem PySem.Spec PyProof.Rows L2
theorem nb_ref_all {ys : List V} (h : ∀ (j : Nat) y, ys[j]? = some y → ∃ l, y = V.ref l) : ¬ Box (.lst ys) := fun ⟨a, b, c, e⟩ => by
  injection e with e
  subst e
  obtain ⟨l, hl⟩ := h 0 _ rfl
  cases hl
section
variable {J : It} {n : Nat} {G : Hp → Prop} {Y : Nat → Hp → V → Hp → Prop} {g : TG} {tt : TT} {te : TE} {vs : List Nat} {σ : L2.St} {H1 : Hp} {Qd : Addr → Hp → Prop}
/-- a comprehension whose elements are new objects that draw from a box: Pe tells of each, in the heap -/
theorem lcH (w : Walk J n G Y) (Pe : Addr → Nat → Hp → V → Prop) (hn : n ≤ sizeLine) (hk : ∀ D i H H' y, Keep H H' → Pe D i H y → Pe D i H' y) (hm : ∀ D i H o y, Pe D i H y → Pe D i (upd H D o) y) (rf : ∀ D i H y, Pe D i H y → ∃ l, y = V.ref l)
    (hG : ∀ H, Keep H1 H → G H)
    (hs : ∀ D acc i x H H' (C : VK) (N : Hp → Prop), i < n → Keep H1 H → H1 D = none → H D = some (.lst acc) → Y i H x H' → (∀ y H4, Pe D i H4 y → Keep H H4 → C y H4) →
      g x (wipe σ vs) H' fun σ2 H2 => wipe σ2 vs = wipe σ vs ∧ tt σ2 H2 fun b H3 => if b = true then te σ2 H3 C else N H3)
    (hd : ∀ D H' (ys : List V), H1 D = none → Keep H1 H' → H' D = some (.lst ys) → ys.length = n → (∀ (j : Nat) y, ys[j]? = some y → Pe D j H' y) → Qd D H') : LcAsk J g tt te vs σ H1 Qd := by
  intro D hD
  refine lc_it w (Qd := Qd D) (fun i H => Keep H1 H ∧ ∃ ys : List V, H D = some (.lst ys) ∧ ys.length = i ∧ ∀ (j : Nat) y, ys[j]? = some y → Pe D j H y) ⟨Keep.new hD, [], upd_same, rfl, fun j y h => by simp at h⟩ (fun i H _ p => hG H p.1) (fun i x H H' hi p y => ?_) fun H p => ?_
  · obtain ⟨kp, ys, hys, hl, hp⟩ := p
    refine hs D ys i x H H' _ _ hi kp hD hys y fun y' H4 pe k4 => ?_
    refine ⟨ys, k4.st _ _ hys (nb_ref_all fun j y h => rf _ _ _ _ (hp j y h)), by omega, (kp.trans k4).mut hD, ys ++ [y'], upd_same, by rw [List.length_append, hl]; rfl, fun j v hv => ?_⟩
    rcases Nat.lt_trichotomy j ys.length with h1 | h1 | h1
    · rw [List.getElem?_append_left h1] at hv; exact hm _ _ _ _ _ (hk _ _ _ _ _ k4 (hp j v hv))
    · subst h1
      have : y' = v := by simpa using hv
      subst this; rw [hl]; exact hm _ _ _ _ _ pe
    · have hnone : (ys ++ [y'])[j]? = none := List.getElem?_eq_none (by rw [List.length_append, List.length_singleton]; omega)
      rw [hnone] at hv; cases hv
  · obtain ⟨kp, ys, hys, hl, hp⟩ := p
    exact hd D H ys hD kp hys hl hp
end
theorem len3 {ys : List V} (h : ys.length = 3) : ∃ a b c, ys = [a, b, c] := by
  match ys, h with
  | [a, b, c], _ => exact ⟨a, b, c, rfl⟩
theorem len2 {ys : List V} (h : ys.length = 2) : ∃ a b, ys = [a, b] := by
  match ys, h with
  | [a, b], _ => exact ⟨a, b, rfl⟩
end AR
namespace AR
open PySem
abbrev toL (s : Str) : List Nat := s.cps.toList
def ofL (l : List Nat) : Str := ⟨l.toArray⟩
@[simp] theorem toL_ofL (l : List Nat) : toL (ofL l) = l := by simp [toL, ofL]
theorem str_ext {a b : Str} (h : toL a = toL b) : a = b := by
  obtain ⟨a⟩ := a
  obtain ⟨b⟩ := b
  have : a = b := Array.ext' h
  rw [this]
@[simp] theorem ofL_toL (s : Str) : ofL (toL s) = s := str_ext (by simp)
theorem len_toL (s : Str) : s.length = (toL s).length := by simp [toL, Str.length]
theorem toL_append (a b : Str) : toL (a ++ b) = toL a ++ toL b := by
  obtain ⟨a⟩ := a
  obtain ⟨b⟩ := b
  show (a ++ b).toList = a.toList ++ b.toList
  simp
theorem join_empty : ∀ ys : List Str, toL (Str.join Str.empty ys) = ys.flatMap toL
  | [] => rfl
  | [x] => by simp [Str.join]
  | x :: y :: r => by
    show toL (x ++ Str.empty ++ Str.join Str.empty (y :: r)) = _
    rw [toL_append, toL_append, join_empty (y :: r)]
    have : toL Str.empty = [] := rfl
    rw [this, List.append_nil]
    rfl
theorem txt_join (ys : List Str) : toL (Txt.join Str.empty ys) = ys.flatMap toL := by
  show toL (Builtin.Str.glued Str.empty ys) = _
  rw [StrLaws.glued_eq_join, join_empty]
theorem txt_join0 (ys : List Str) : Txt.join "" ys = ofL (ys.flatMap toL) := by
  have e : ("" : Str) = Str.empty := by decide +kernel
  rw [e]
  exact str_ext (by rw [txt_join]; simp)
theorem occ_one {x : Str} {c : Nat} (h : c ∈ toL x) : ∃ i rest, Builtin.Str.occurrences x ⟨#[c]⟩ 0 x.length 1 = i :: rest ∧ (toL x)[i]? = some c := by
  have h1 := StrLaws.found_one x c
  rw [decide_eq_true h] at h1
  obtain ⟨f, hc⟩ := StrLaws.occ_chain x ⟨#[c]⟩ 1
  cases e : Builtin.Str.occurrences x ⟨#[c]⟩ 0 x.length 1 with
  | nil => rw [e] at h1; cases h1
  | cons i r =>
    rw [e] at hc
    exact ⟨i, r, rfl, (StrLaws.subAt_one x c i).mp hc.2.1⟩
end AR
namespace AR
open PySem PySem.Spec PyProof.Rows L2 PySem.W
section
variable {prog : Program} {w : World} {A : Around} {E : Value → Shared → Prop} {s : Shared} {K : PySem.W.Frag} {x C L f : Addr} {h₀ : Heap} {m : Str → Option Value} {ox : Obj} {od : Option Obj} {b tb : Value}
/-- the check ahead of a built-in slot of object, its self an own instance -/
theorem check_obj {M : Model} {id n : String} {rest : List Value} {Q : Unit → Shared → Prop} (hk : builtinKind id = some .slot) (hs : splitId id = some ("object", n)) (ha : argsOk id ⟨.ref x :: rest, []⟩)
    (X : K.In s.heap) (I : InstAt s.heap x ox C od) (hm : mroIn K C (.type "object") = some true) (hq : Q () s) : wpAny M A (checkBuiltinCall id ⟨.ref x :: rest, []⟩) Q E s := by
  have L0 := I.type (M := M)
  have L1 := looks_mroIn (M := M) X hm
  obtain ⟨hh, g, d, t, os⟩ := s
  simp only [checkBuiltinCall, hk, hs]
  refine wpAny_bind ?_
  unfold isInstance
  repeat lk
  cases hsig : Manifest.signature? id with
  | none => exact wpAny_pure hq
  | some sig =>
    simp only [argsOk, hsig] at ha
    have h2 : Bind.checkArgs id sig ⟨.ref x :: rest, []⟩ = pure () := ha
    show wpAny M A (Bind.checkArgs id sig ⟨.ref x :: rest, []⟩) Q E _
    rw [h2]; exact wpAny_pure hq
/-- a special method that is a built-in of object -/
theorem ifBound_B {M : Model} {name : Str} {id : String} {T : String} {args : List Value} {Q : Option Value → Shared → Prop} (X : K.In s.heap) (I : InstAt s.heap x ox C od) (hs : findIn K (.ref C) name = some (some (.builtin id))) (S : Slot T name id)
    (h : wpAny M A (call (.builtin id) (.ref x :: args)) (fun v => Q (some v)) E s) : wpAny M A (callSpecialIfBound? (.ref x) name args) Q E s := by
  simp only [callSpecialIfBound?, bindSpecialIfBound?]
  refine wpAny_holding (wpAny_bind (wpAny_bind (wpAny_bind (I.type.here ((looks_findIn X hs).here ?_)))))
  simp only [S.bind]
  refine wpAny_bind (wpAny_askSetting (wpAny_ite ?_))
  have fin : wpAny M A (call (.builtin id) ([.ref x] ++ args) >>= fun v => pure (some v)) Q E s := wpAny_bind (wpAny_mono h (fun v s' h' => wpAny_pure h') fun _ _ h' => h')
  split
  · exact wpAny_bind (wpAny_pure (wpAny_pure fin))
  · exact wpAny_tryCatch (wpAny_bind (wpAny_pure (wpAny_pure fin)))
/-- x != b of an own class with an own __eq__ and no own __ne__ -/
theorem ne_K {Q : Value → Shared → Prop} (hu : A.units + 1 < cLine) (X : K.In s.heap) (I : InstAt s.heap x ox C od) (hb : Looks (model prog w) s.heap (typeOf b) tb) (hn : notFirst K C tb = true)
    (hne : findIn K (.ref C) "__ne__" = some (some (.builtin "object.__ne__"))) (hm : mroIn K C (.type "object") = some true) (hs : findIn K (.ref C) "__eq__" = some (some (.ref f))) (hf : isFn K (.ref f) = true)
    (h : wpAny (model prog w) A.in1 (call (.ref f) [.ref x, b]) (fun v s' => ∃ k, v = .bool k ∧ Q (.bool (!k)) s') E s) : wpAny (model prog w) A (richCompare .NotEq (.ref x) b) Q E s := by
  have ent : wpAny (model prog w) A.in1 (Builtin.«object.__ne__» ⟨[.ref x, b], []⟩) (fun fin s' => ∃ k, fin = .done (.ret (.bool k)) ∧ Q (.bool k) s') E s := by
    unfold Builtin.«object.__ne__»
    repeat (first
      | with_reducible refine wpAny_cRoomFor hu ?_
      | (refine wpAny_bind (m := callSpecialIfBound? (.ref x) (Str.ofString "__eq__") [b])
          (ifBound_K X I hs hf (wpAny_mono h (fun r s' hr => by
            obtain ⟨k, rfl, hq⟩ := hr
            repeat (first | exact ⟨_, rfl, hq⟩ | exact wpAny_pure ⟨_, rfl, hq⟩ | exact wpAny_truthy_bool hq | (refine wpAny_bind (m := truthy (.bool _)) (wpAny_truthy_bool ?_)) | wp_step)) fun _ _ e => e)))
      | wp_step)
  have one : wpAny (model prog w) A (tryCompare (.ref x) (cmpInfo .NotEq).2.1 b) (fun r s' => ∃ v, r = some v ∧ Q v s') E s := by
    rw [cmpInfo_NotEq]
    dsimp only
    unfold tryCompare
    refine wpAny_bind (ifBound_B (T := "zip") X I hne F.slot_zip_ne (wpAny_call (codeAny_call_builtin F.slot_zip_ne.plain F.cmpEntry_ne (check_obj F.cmpKind_ne F.cmpSplit_ne (F.cmpArgs_ne _ _) X I hm
      (wpAny_mono ent (fun fin s' z => ?_) fun _ _ e => e)))))
    obtain ⟨k, rfl, hq⟩ := z
    exact wpAny_pure ⟨_, rfl, hq⟩
  unfold richCompare
  simp only [oneThing_ref]
  refine wpAny_holding (wpAny_bind (wpAny_cRoomFor (Nat.lt_of_succ_lt hu) ?_))
  refine wpAny_bind (I.type.here (wpAny_bind (hb.here ?_)))
  split
  · rename_i q
    have e : subIn K tb (.ref C) = some false := by
      rcases Bool.or_eq_true_iff.mp hn with e | e
      · rw [beq_iff_eq.mp e] at q; simp at q
      · exact beq_iff_eq.mp e
    refine wpAny_bind ((looks_subIn X e).here ?_)
    simp only [Bool.false_eq_true, if_false]
    refine wpAny_bind (wpAny_mono one (fun r s' z => ?_) fun _ _ e => e)
    obtain ⟨v, rfl, hq⟩ := z
    exact wpAny_pure hq
  · refine wpAny_bind (wpAny_pure ?_)
    simp only [Bool.false_eq_true, if_false]
    refine wpAny_bind (wpAny_mono one (fun r s' z => ?_) fun _ _ e => e)
    obtain ⟨v, rfl, hq⟩ := z
    exact wpAny_pure hq
end
/-! ### over the layer: both operands instances of one own class -/
section
variable {X : Cx} {k j : Nat} {C : Addr} {sp : Sp}
def rOwnI (C : Addr) (sp : Sp) : R2 := fun x y H Q => ∃ a dx fs b dy gs, x = .ref a ∧ y = .ref b ∧ H a = some (.ins C dx fs) ∧ H b = some (.ins C dy gs) ∧ sp [x, y] H Q E0
theorem op_ownB {op : Operator} (c : C8.Met X.prog X.w X.K X.mg X.base k C (PySem.dunder op.info.2) sp []) (sf : selfFirst X.K C = true) (hr : Room j X.A) (hk : k ≤ j) : OpR X (binaryOp op) (rOwnI C sp) := by
  intro pins s σ H x y v u Q I rx ry h
  obtain ⟨a, dx, fs, b, dy, gs, rfl, rfl, ha, hb, q⟩ := h
  cases (show v = Value.ref a from rx)
  cases (show u = Value.ref b from ry)
  obtain ⟨f, fd, ps, ds, cl, me, F, bi, vd⟩ := c.ex
  cases vd
  obtain ⟨mA, O, _⟩ := ins_get I.hok ha
  obtain ⟨mB, O', _⟩ := ins_get I.hok hb
  obtain ⟨od, J, _⟩ := O.look
  obtain ⟨od', J', _⟩ := O'.look
  obtain ⟨m, hF⟩ := I.fr
  refine binop_K hF I.ok.mod.kin J J'.type sf me.at_ me.fn (wpAny_mono (run_fn (us := [.ref a, .ref b]) (vs := [.ref a, .ref b]) F (hr.mono hk) bi .nil pass0 I (.cons rfl (.cons rfl .nil)) q) (fun w s' z => ?_) fun _ _ x => x)
  obtain ⟨z', H', I', rz, qz⟩ := z
  exact SlX.cmpback rz ⟨z', H', I', rz, qz⟩
theorem op_ownEq (c : C8.Met X.prog X.w X.K X.mg X.base k C "__eq__" sp []) (hr : Room j X.A) (hk : k ≤ j) : OpR X (compareOp .Eq) (rOwnI C sp) := by
  intro pins s σ H x y v u Q I rx ry h
  obtain ⟨a, dx, fs, b, dy, gs, rfl, rfl, ha, hb, q⟩ := h
  cases (show v = Value.ref a from rx)
  cases (show u = Value.ref b from ry)
  obtain ⟨f, fd, ps, ds, cl, me, F, bi, vd⟩ := c.ex
  cases vd
  obtain ⟨mA, O, _⟩ := ins_get I.hok ha
  obtain ⟨mB, O', _⟩ := ins_get I.hok hb
  obtain ⟨od, J, _⟩ := O.look
  obtain ⟨od', J', _⟩ := O'.look
  obtain ⟨m, hF⟩ := I.fr
  refine cmp_ofEq (cmp_K (op := .Eq) (tb := .ref C) hr.units0 hF I.ok.mod.kin J J'.type (by simp [notFirst]) me.at_ me.fn (wpAny_mono (run_fn (us := [.ref a, .ref b]) (vs := [.ref a, .ref b]) F (hr.mono hk) bi .nil pass0 I (.cons rfl (.cons rfl .nil)) q) (fun w s' z => ?_) fun _ _ x => x))
  obtain ⟨z', H', I', rz, qz⟩ := z
  exact SlX.cmpback rz ⟨z', H', I', rz, qz⟩
/-- the promise gives a bool -/
def rOwnN (C : Addr) (sp : Sp) : R2 := fun x y H Q => ∃ a dx fs b dy gs, x = .ref a ∧ y = .ref b ∧ H a = some (.ins C dx fs) ∧ H b = some (.ins C dy gs) ∧ sp [x, y] H (fun z H' => ∃ k, z = .bl k ∧ Q (.bl (!k)) H') E0
theorem op_ownNe (c : C8.Met X.prog X.w X.K X.mg X.base k C "__eq__" sp []) (hne : findIn X.K (.ref C) "__ne__" = some (some (.builtin "object.__ne__"))) (hm : mroIn X.K C (.type "object") = some true) (hr : Room j X.A) (hk : k + 1 ≤ j) : OpR X (compareOp .NotEq) (rOwnN C sp) := by
  intro pins s σ H x y v u Q I rx ry h
  obtain ⟨a, dx, fs, b, dy, gs, rfl, rfl, ha, hb, q⟩ := h
  cases (show v = Value.ref a from rx)
  cases (show u = Value.ref b from ry)
  obtain ⟨f, fd, ps, ds, cl, me, F, bi, vd⟩ := c.ex
  cases vd
  obtain ⟨mA, O, _⟩ := ins_get I.hok ha
  obtain ⟨mB, O', _⟩ := ins_get I.hok hb
  obtain ⟨od, J, _⟩ := O.look
  obtain ⟨od', J', _⟩ := O'.look
  have hr1 : Room k X.A.in1 := Room.in1 (hr.mono hk)
  show wpAny (model X.prog X.w) X.A (richCompare .NotEq (.ref a) (.ref b)) (EP X pins σ Q) X.xe s
  refine ne_K (tb := .ref C) (hu_of hr) I.kIn J J'.type (by simp [notFirst]) hne hm me.at_ me.fn ?_
  refine wpAny_call (codeAny_mono (F.run X.A.in1 X.stack s H ⟨[.ref a, .ref b], []⟩ [.ref a, .ref b] [.ref a, .ref b] _ E0 hr1 I.env0.in1 (by simpa using bi s [.ref a, .ref b] I.kIn (F.len _ _ _ _ q)) (.cons rfl (.cons rfl .nil)) q) fun r s' hq => ?_)
  cases r with
  | error e => exact absurd hq (fun z => z)
  | ok fl =>
    cases fl with
    | ret u =>
      obtain ⟨z', H', I', rz, k', rfl, qz⟩ := I.after hq
      cases (show u = Value.bool k' from rz)
      exact ⟨k', rfl, .bl (!k'), H', I', rfl, qz⟩
    | next => exact False.elim hq
    | brk => exact False.elim hq
    | cont => exact False.elim hq
end
end AR
namespace AR
open PySem PySem.Spec PyProof.Rows L2
theorem paired_of_get {α β : Type} {F : α → β → Prop} : ∀ {xs : List α} {ys : List β}, xs.length = ys.length → (∀ (j : Nat) a b, xs[j]? = some a → ys[j]? = some b → F a b) → Paired F xs ys
  | [], [], _, _ => .nil
  | [], _ :: _, h, _ => by cases h
  | _ :: _, [], h, _ => by cases h
  | x :: xs, y :: ys, h, g => .cons (g 0 x y rfl rfl) (paired_of_get (by simpa using h) fun j a b h1 h2 => g (j + 1) a b (by simpa using h1) (by simpa using h2))
/-- a text turned about -/
def revS (x : Str) : Str := ⟨x.cps.toList.reverse.toArray⟩
theorem pick_rev (c : Array Nat) : ((List.range c.size).map fun k => c.size - 1 - k).filterMap (c[·]?) = c.toList.reverse := by
  have e : ((List.range c.size).map fun k => c.size - 1 - k) = (List.range c.size).reverse := by
    apply List.ext_getElem
    · simp
    · intro i h1 h2
      simp
  rw [e, List.filterMap_reverse]
  congr 1
  apply List.ext_getElem?
  intro i
  have key : ∀ (n : Nat), n ≤ c.size → (List.range n).filterMap (c[·]?) = c.toList.take n := by
    intro n
    induction n with
    | zero => intro _; simp
    | succ n ih =>
      intro hn
      rw [List.range_succ, List.filterMap_append, ih (by omega), List.take_succ]
      congr 1
      have hc : c[n]? = some c[n] := by simp [show n < c.size by omega]
      simp [hc]
  rw [key c.size (Nat.le_refl _), List.take_of_length_le (by simp)]
section
variable {X : Cx}
/-- list(text) -/
theorem call_list_txt (hc : X.calm = true) : CallR X (.type "list") (fun xs H Q => ∃ x, xs = [.str x] ∧ x.length ≤ sizeLine ∧ ∀ l, H l = none → Q (.ref l) (upd H l (.lst (chV x)))) := by
  intro pins s σ H xs us Q I r h
  obtain ⟨x, rfl, hx, q⟩ := h
  obtain ⟨u, rfl, t, rfl⟩ := vals1 r
  refine PySem.call_list_str (I.ok.hd hc) x t (fun h' tk acc' c' hk hS' hacc => ?_) hx
  have rel : Vals (chV x) acc'.toList := by
    refine paired_of_get (by simp [chV, hacc.1]) fun j v u h1 h2 => ?_
    obtain ⟨c, tu, hcp, rfl⟩ := hacc.2 j u (by simpa using h2)
    have : (chV x)[j]? = some (V.str ⟨#[c]⟩) := by
      unfold chV
      rw [List.getElem?_map, Array.getElem?_toList, hcp]
      rfl
    rw [this] at h1
    cases h1
    exact ⟨tu, rfl⟩
  have hl : (chV x).length ≤ sizeLine := by
    have e : (chV x).length = x.length := by simp [chV, Str.length]
    rw [e]; exact hx
  exact ⟨.ref s.heap.objs.size, _, I.laid (t' := tk) hk (Nat.le_refl _) (show ObjOk X.prog X.w _ h' _ (.lst (chV x)) from ⟨hl, acc'.toList, c', rel, by simpa using hS'⟩), rfl, q _ (I.hok.fresh (Nat.le_refl _))⟩
/-- text * n -/
def rMulS : R2 := fun x y H Q => ∃ (z : Str) (n : Int), x = .str z ∧ y = .int n ∧ -1000000 ≤ n ∧ n ≤ 1000000 ∧ z.length * n.toNat ≤ sizeLine ∧ Q (.str (Txt.mul z n)) H
theorem op_mul_txt : OpR X (binaryOp .Mult) rMulS := by
  intro pins s σ H x y v u Q I rx ry h
  obtain ⟨z, n, rfl, rfl, h1, h2, hz, q⟩ := h
  obtain ⟨t, rfl⟩ := rx
  obtain ⟨t', rfl⟩ := ry
  refine SB.mul ⟨?_, fun hn _ => ?_, fun hn _ => ?_⟩ fun t'' k => ⟨.str _, H, I.tok _, ⟨_, rfl⟩, q⟩
  · simp only [Bool.or_eq_false_iff, decide_eq_false_iff_not]
    omega
  · intro hh
    have hs : sizeLine = 16777216 := sizeLine_eq
    have : z.length ≤ z.length * n.toNat := Nat.le_mul_of_pos_right _ (by omega)
    have h3 : (16777216 : Int) ≤ (2 ^ 63 - 1) / n := by
      apply Int.le_ediv_of_mul_le (by omega)
      omega
    omega
  · unfold Builtin.Str.tooLong
    simp
    exact hz
/-- text[::step], the step -1 -/
def tRevS (te ts : TE) : TE := fun σ H Q => te σ H fun x H1 => ts σ H1 fun i H2 => ∃ z, x = .str z ∧ i = .int (-1) ∧ z.length ≤ sizeLine ∧ Q (.str (revS z)) H2
theorem pe_revS {e st : Expr} {te ts : TE} {p3 pos : Pos} (he : PE X e te) (hst : PE X st ts) : PE X (.Subscript e (.Slice none none (some st) p3) pos) (tRevS te ts) := by
  refine ⟨fun pins s σ H Q I h => ?_⟩
  refine Subscript_ (thn (he.run pins s σ H _ I h) fun v s1 ⟨x, H1, I1, r1, q1⟩ => ?_)
  refine wpAny_Slice (thn (po_none.run pins s1 σ H1 (fun o H2 => o = none ∧ H2 = H1) I1 ⟨rfl, rfl⟩) fun vl s2 ⟨l, H2, I2, pl, el, e2⟩ => ?_)
  subst el e2
  refine thn (po_none.run pins s2 σ H2 (fun o H3 => o = none ∧ H3 = H2) I2 ⟨rfl, rfl⟩) fun vu s3 ⟨u, H3, I3, pu, eu, e3⟩ => ?_
  subst eu e3
  rw [evalPart_some]
  refine thn (hst.run pins s3 σ H3 _ I3 q1) fun vs s4 ⟨i, H4, I4, ri, z, ex, ei, hz, q⟩ => ?_
  subst ex ei
  obtain ⟨t, rfl⟩ := r1
  obtain ⟨ti, rfl⟩ := ri
  cases pl
  cases pu
  have I5 : Inv X pins σ H4 { s4 with heap := s4.heap.push { cls := .type "slice", data := .fields #[.none, .none, .int (-1) ti] } } := I4.kept (t' := s4.toks) fun b ob q => Heap.get?_push_of_some _ q
  show wpAny (model X.prog X.w) X.A (subscriptTail e (.Slice none none (some st) p3) (.str z t) (.ref s4.heap.objs.size)) (EP X pins σ Q) X.xe { s4 with heap := s4.heap.push { cls := .type "slice", data := .fields #[.none, .none, .int (-1) ti] } }
  refine tail_any (ops := [.ref s4.heap.objs.size, .str z t]) (typeIs_str _ _ _) F.slot_str_getitem.lookup ?_ (by with_unfolding_all rfl)
  refine wpAny_getItem_str_slice (l := none) (u := none) (st := some (-1, ti)) ⟨_, Heap.get?_push_size _ rfl, rfl, rfl⟩ rfl ?_
  have em : sliceMade z t none none (some (-1, ti)) = .str (revS z) := by
    unfold sliceMade slicePicked
    rw [if_neg (by simp)]
    show Made.str ⟨((Builtin.Str.strSliceIndices none none (-1) z.length).filterMap (z.cps[·]?)).toArray⟩ = _
    rw [picked_rev]
    show Made.str ⟨(((List.range z.cps.size).map fun k => z.cps.size - 1 - k).filterMap (z.cps[·]?)).toArray⟩ = _
    rw [pick_rev]
    rfl
  rw [em]
  refine ⟨?_, .str (revS z), H4, I5.tok _, ⟨_, rfl⟩, q⟩
  have e : (revS z).length = z.length := by simp [revS, Str.length]
  rw [e]; exact hz
end
end AR
namespace AR
open PySem PySem.Spec PyProof.Rows L2
/-! ### an iterator of new pairs that are held -/
structure PairIter (prog : Program) (w : World) (A : Around) (I S : Addr) (n : Nat) (Pr : Nat → Value → Value → Prop) (wr : List Addr) (St : Nat → Heap → Prop) : Prop where
  item : ∀ i (s : Shared) (Q : Option Value → Shared → Prop) (E : Value → Shared → Prop), i < n → St i s.heap → S < s.heap.objs.size →
    (∀ x y h' tk, Pr i x y → St (i + 1) h' → IsTupOf2 h' s.heap.objs.size x y → (∀ b o, b ∉ wr → s.heap.get? b = some o → h'.get? b = some o) → Q (some (.ref s.heap.objs.size)) { s with heap := h', toks := tk }) →
    wpAny (model prog w) A (pyNext (.ref I)) Q E s
  done : ∀ (s : Shared) (Q : Option Value → Shared → Prop) (E : Value → Shared → Prop), St n s.heap →
    (∀ h' tk, (∀ b o, b ∉ wr → s.heap.get? b = some o → h'.get? b = some o) → Q none { s with heap := h', toks := tk }) → wpAny (model prog w) A (pyNext (.ref I)) Q E s
  keep : ∀ i h h', St i h → (∀ b o, b ≠ S → h.get? b = some o → h'.get? b = some o) → St i h'
  low : ∀ b ∈ wr, b < S
/-- the tuples made so far -/
structure Made2 (Pr : Nat → Value → Value → Prop) (S : Addr) (h : Heap) (as : List Addr) : Prop where
  rise : as.Pairwise (· < ·)
  above : ∀ a ∈ as, S < a
  pairs : ∀ (j : Nat) (a : Addr), as[j]? = some a → ∃ x y, Pr j x y ∧ IsTupOf2 h a x y
section
variable {prog : Program} {w : World} {A : Around} {s : Shared} {R : Result → Shared → Prop} {I S : Addr} {n : Nat} {Pr : Nat → Value → Value → Prop} {wr : List Addr} {St : Nat → Heap → Prop}
theorem pl_loop (W : PairIter prog w A.in1 I S n Pr wr St) (hn : n ≤ sizeLine) (res : Value) {h₁ : Heap}
    (hR : ∀ h' tk acc c as, (∀ b o, b ≠ S → b ∉ wr → h₁.get? b = some o → h'.get? b = some o) → h'.get? S = some { cls := .type "list", dict := none, data := .seq acc c, slots := #[] } → as.length = n → Made2 Pr S h' as →
      acc.toList = as.map Value.ref → R (.ok (.ret res)) { s with heap := h', toks := tk }) :
    ∀ (k i : Nat) (h : Heap) (tk c : Nat) (acc : Array Value) (as : List Addr), n - i = k → i ≤ n → St i h → (∀ b o, b ≠ S → b ∉ wr → h₁.get? b = some o → h.get? b = some o) →
      h.get? S = some { cls := .type "list", dict := none, data := .seq acc c, slots := #[] } → acc.toList = as.map Value.ref → as.length = i → Made2 Pr S h as →
      codeAny (model prog w) A (.builtin "list.extend.loop" ⟨[.ref S, .ref I, res], []⟩) R { s with heap := h, toks := tk } := by
  have hSw : S ∉ wr := fun m => absurd (W.low S m) (Nat.lt_irrefl _)
  have haw : ∀ a, S < a → a ∉ wr := fun a ha m => absurd (Nat.lt_trans ha (W.low a m)) (Nat.lt_irrefl _)
  intro k
  induction k with
  | zero =>
    intro i h tk c acc as hk hi hst hkeep hS hacc hal hG
    have hin : i = n := by omega
    subst hin
    refine codeAny_builtin PySem.F.entry_extend_loop ?_
    rw [Around.under_plainId PySem.F.plain_extend_loop _]
    show wpAny _ A.in1 (pyNext (.ref I) >>= _) _ _ _
    refine wpAny_bind (W.done { s with heap := h, toks := tk } _ _ hst fun h' tk' he => ?_)
    refine wpAny_pure (hR h' tk' acc c as (fun b o h1 h2 e => he b o h2 (hkeep b o h1 h2 e)) (he S _ hSw hS) (by omega) ⟨hG.rise, hG.above, fun j a hj => ?_⟩ hacc)
    obtain ⟨x, y, hp, e3⟩ := hG.pairs j a hj
    exact ⟨x, y, hp, he a _ (haw a (hG.above a (List.mem_of_getElem? hj))) e3⟩
  | succ k ih =>
    intro i h tk c acc as hk hi hst hkeep hS hacc hal hG
    have hlt : i < n := by omega
    have hsz : acc.size = i := by rw [← Array.length_toList, hacc, List.length_map, hal]
    refine codeAny_builtin PySem.F.entry_extend_loop ?_
    rw [Around.under_plainId PySem.F.plain_extend_loop _]
    show wpAny _ A.in1 (pyNext (.ref I) >>= _) _ _ _
    refine wpAny_bind (W.item i { s with heap := h, toks := tk } _ _ hlt hst (Heap.lt_size hS) fun x y h' tk' hp hst' ht hkp => ?_)
    dsimp only at ht hkp ⊢
    have hS' := hkp S _ hSw hS
    have up : ∀ b o, b ≠ S → h'.get? b = some o → (h'.update S (Obj.mapSeq (·.push (Value.ref h.objs.size)))).get? b = some o := fun b o hb e => (Heap.get?_update_other _ _ (Ne.symm hb)).trans e
    have hSl : S < h.objs.size := Heap.lt_size hS
    show wpAny _ A.in1 (updateSeq S (·.push (Value.ref h.objs.size)) >>= _) _ _ _
    refine wpAny_bind ?_
    refine wpAny_updateSeq hS' rfl (wpAny_pure ⟨plainId_quiet PySem.F.plain_extend_loop _, ih (i + 1) _ tk' _ (acc.push (Value.ref h.objs.size)) (as ++ [h.objs.size]) (by omega) hlt (W.keep _ _ _ hst' up)
      (fun b o h1 h2 e => up b o h1 (hkp b o h2 (hkeep b o h1 h2 e))) (Heap.get?_update_self _ hS' rfl) (by rw [Array.toList_push, hacc, List.map_append]; rfl) (by rw [List.length_append, hal]; rfl) ⟨?_, ?_, ?_⟩⟩) (by rw [hsz]; omega) (by show (acc.push (Value.ref h.objs.size)).size ≤ sizeLine + 1; rw [Array.size_push, hsz]; omega)
    · refine List.pairwise_append.mpr ⟨hG.rise, List.pairwise_singleton _ _, fun a ha b hb => ?_⟩
      rw [List.mem_singleton.mp hb]
      obtain ⟨j, hj⟩ := List.mem_iff_getElem?.mp ha
      obtain ⟨x', y', _, e⟩ := hG.pairs j a hj
      exact Heap.lt_size e
    · intro a ha
      rcases List.mem_append.mp ha with ha | ha
      · exact hG.above a ha
      · rw [List.mem_singleton.mp ha]; exact hSl
    · intro j b hj
      rcases Nat.lt_trichotomy j as.length with h1 | h1 | h1
      · rw [List.getElem?_append_left h1] at hj
        obtain ⟨x', y', hp', e3⟩ := hG.pairs j b hj
        have hb := hG.above b (List.mem_of_getElem? hj)
        exact ⟨x', y', hp', up b _ (Nat.ne_of_gt hb) (hkp b _ (haw b hb) e3)⟩
      · subst h1
        have hb : h.objs.size = b := by simpa using hj
        subst hb
        rw [hal]
        exact ⟨x, y, hp, up _ _ (Nat.ne_of_gt hSl) ht⟩
      · have hnone : (as ++ [h.objs.size])[j]? = none := List.getElem?_eq_none (by rw [List.length_append, List.length_singleton]; omega)
        rw [hnone] at hj; cases hj
end
/-! ### zip, its tuples held -/
section
variable {prog : Program} {w : World} {A : Around} {E : Value → Shared → Prop} {s : Shared} {z TI TO i1 i2 S : Addr} {fp1 fp2 : List Addr} {n1 n2 i : Nat} {P1 P2 : Nat → Value → Prop} {St1 St2 : Nat → Heap → Prop} {a1 a2 : Value}
theorem zipD_item_held {T : Addr} {f : Bool} {oT : Obj} {Q : Value → Shared → Prop} (S : ZipSep2 z TI TO i1 i2 fp1 fp2) (D1 : Draws prog w A i1 fp1 n1 P1 St1) (D2 : Draws prog w A i2 fp2 n2 P2 St2)
    (hz : IsZipHeld s.heap z TI TO T f) (hT : s.heap.get? T = some oT) (hTI : IsTupOf2 s.heap TI (.ref i1) (.ref i2)) (st1 : St1 i s.heap) (st2 : St2 i s.heap) (hlt1 : i < n1) (hlt2 : i < n2)
    (hQ : ∀ x y h' tk, P1 i x → P2 i y → IsZipHeld h' z TI TO T true → St1 (i + 1) h' → St2 (i + 1) h' → IsTupOf2 h' s.heap.objs.size x y →
      (∀ c o, c ≠ z → c ≠ i1 → c ≠ i2 → s.heap.get? c = some o → h'.get? c = some o) → Q (.ref s.heap.objs.size) { s with heap := h', toks := tk }) :
    wpAny (model prog w) A (Builtin.«zip.__next__» ⟨[.ref z], []⟩) (fun fin s' => ∃ v, fin = .done (.ret v) ∧ Q v s') E s := by
  obtain ⟨hp, g, d, tk0, os⟩ := s
  show wpAny _ _ (field (.ref z) 2 >>= _) _ _ _
  refine wpAny_bind (wpAny_field hz rfl (x := .bool false) rfl ?_)
  show wpAny _ _ (field (.ref z) 3 >>= _) _ _ _
  refine wpAny_bind (wpAny_field hz rfl (x := .ref TI) rfl ?_)
  refine wpAny_bind (wpAny_seqItems hTI rfl ?_)
  show wpAny _ _ (Builtin.SmallTypes.ownedTupleIsFree (.ref z) >>= _) _ _ _
  refine wpAny_bind (wpAny_tupleHeld_zip hz hT fun h₁ hz₁ hs₁ => ?_)
  replace hs₁ : Heap.SameBut z hp h₁ := hs₁
  simp only [Bool.false_eq_true, if_false]
  refine wpAny_bind ?_
  rw [← Array.forIn_toList]
  simp only [List.forIn_cons, List.forIn_nil]
  refine wpAny_bind (wpAny_bind (wpAny_holding ?_))
  show wpAny _ _ (Builtin.SmallTypes.nextOf (.ref i1) >>= _) _ _ ⟨h₁, g, d, tk0, os⟩
  refine wpAny_bind (D1.item i _ _ _ hlt1 (D1.over st1 hs₁ S.zf1) fun x h₂ tk1 hx sn1 hs₂ => wpAny_pure ?_)
  replace hs₂ : Heap.SameBut i1 h₁ h₂ := hs₂
  refine wpAny_pure ?_
  refine wpAny_bind (wpAny_bind (wpAny_holding ?_))
  show wpAny _ _ (Builtin.SmallTypes.nextOf (.ref i2) >>= _) _ _ ⟨h₂, g, d, tk1, os⟩
  refine wpAny_bind (D2.item i _ _ _ hlt2 (D2.over (D2.over st2 hs₁ S.zf2) hs₂ S.sep1_2) fun y h₃ tk2 hy sn2 hs₃ => wpAny_pure ?_)
  replace hs₃ : Heap.SameBut i2 h₂ h₃ := hs₃
  refine wpAny_pure (wpAny_pure ?_)
  show wpAny _ _ (newTuple [x, y] >>= _) _ _ _
  refine wpAny_bind (wpAny_newTuple ?_)
  have hsz : h₃.objs.size = hp.objs.size := by rw [hs₃.1, hs₂.1, hs₁.1]
  have hz₃ : IsZipHeld h₃ z TI TO T true := hs₃.extBut _ _ S.zi2 (hs₂.extBut _ _ S.zi1 hz₁)
  have hk : ∀ c o, c ≠ z → c ≠ i1 → c ≠ i2 → hp.get? c = some o → h₃.get? c = some o := fun c o c1 c2 c3 e => hs₃.extBut _ _ c3 (hs₂.extBut _ _ c2 (hs₁.extBut _ _ c1 e))
  have hj1 : St1 (i + 1) h₃ := D1.over sn1 hs₃ S.sep2_1
  refine wpAny_pure ⟨_, rfl, ?_⟩
  show Q (.ref h₃.objs.size) ⟨h₃.push { cls := .type "tuple", data := .seq #[x, y] }, g, d, tk2, os⟩
  have hp' : IsTupOf2 (h₃.push { cls := .type "tuple", data := .seq #[x, y] }) h₃.objs.size x y := Heap.get?_push_size _ rfl
  rw [hsz] at hp' ⊢
  exact hQ x y _ tk2 hx hy (Heap.get?_push_of_some _ hz₃) (D1.frame _ _ _ hj1 fun b hb o e => Heap.get?_push_of_some _ e) (D2.frame _ _ _ sn2 fun b hb o e => Heap.get?_push_of_some _ e) hp' fun c o c1 c2 c3 e => Heap.get?_push_of_some _ (hk c o c1 c2 c3 e)
theorem zipD_end_held {T : Addr} {f : Bool} {oT : Obj} {Q : Fin → Shared → Prop} (S : ZipSep2 z TI TO i1 i2 fp1 fp2) (D1 : Draws prog w A i1 fp1 n1 P1 St1) (D2 : Draws prog w A i2 fp2 n2 P2 St2)
    (hz : IsZipHeld s.heap z TI TO T f) (hT : s.heap.get? T = some oT) (hTI : IsTupOf2 s.heap TI (.ref i1) (.ref i2)) (st1 : St1 i s.heap) (st2 : St2 i s.heap) (hle1 : i ≤ n1) (hle2 : i ≤ n2) (hend : i = n1 ∨ i = n2)
    (hE : ∀ h' tk e, (∀ c o, c ≠ z → c ≠ i1 → c ≠ i2 → s.heap.get? c = some o → h'.get? c = some o) → (∃ o, h'.get? e = some o ∧ o.cls = .type "StopIteration") → E (.ref e) { s with heap := h', toks := tk }) :
    wpAny (model prog w) A (Builtin.«zip.__next__» ⟨[.ref z], []⟩) Q E s := by
  obtain ⟨hp, g, d, tk0, os⟩ := s
  show wpAny _ _ (field (.ref z) 2 >>= _) _ _ _
  refine wpAny_bind (wpAny_field hz rfl (x := .bool false) rfl ?_)
  show wpAny _ _ (field (.ref z) 3 >>= _) _ _ _
  refine wpAny_bind (wpAny_field hz rfl (x := .ref TI) rfl ?_)
  refine wpAny_bind (wpAny_seqItems hTI rfl ?_)
  show wpAny _ _ (Builtin.SmallTypes.ownedTupleIsFree (.ref z) >>= _) _ _ _
  refine wpAny_bind (wpAny_tupleHeld_zip hz hT fun h₁ hz₁ hs₁ => ?_)
  replace hs₁ : Heap.SameBut z hp h₁ := hs₁
  simp only [Bool.false_eq_true, if_false]
  refine wpAny_bind ?_
  rw [← Array.forIn_toList]
  simp only [List.forIn_cons, List.forIn_nil]
  refine wpAny_bind (wpAny_bind (wpAny_holding ?_))
  show wpAny _ _ (Builtin.SmallTypes.nextOf (.ref i1) >>= _) _ _ ⟨h₁, g, d, tk0, os⟩
  by_cases h1 : i = n1
  · subst h1
    refine wpAny_bind (D1.done _ _ _ (D1.over st1 hs₁ S.zf1) fun h₂ e hs₂ he => ?_)
    replace hs₂ : Heap.ExtBut i1 h₁ h₂ := hs₂
    exact hE h₂ tk0 e (fun c o c1 c2 _ x => hs₂ _ _ c2 (hs₁.extBut _ _ c1 x)) he
  · have h2 : i = n2 := by rcases hend with q | q; exact absurd q h1; exact q
    refine wpAny_bind (D1.item i _ _ _ (by omega) (D1.over st1 hs₁ S.zf1) fun x h₂ tk1 hx sn1 hs₂ => wpAny_pure ?_)
    replace hs₂ : Heap.SameBut i1 h₁ h₂ := hs₂
    refine wpAny_pure ?_
    refine wpAny_bind (wpAny_bind (wpAny_holding ?_))
    show wpAny _ _ (Builtin.SmallTypes.nextOf (.ref i2) >>= _) _ _ ⟨h₂, g, d, tk1, os⟩
    subst h2
    refine wpAny_bind (D2.done _ _ _ (D2.over (D2.over st2 hs₁ S.zf2) hs₂ S.sep1_2) fun h₃ e hs₃ he => ?_)
    replace hs₃ : Heap.ExtBut i2 h₂ h₃ := hs₃
    exact hE h₃ tk1 e (fun c o c1 c2 c3 x => hs₃ _ _ c3 (hs₂.extBut _ _ c2 (hs₁.extBut _ _ c1 x))) he
end
end AR
namespace AR
open PySem PySem.Spec PyProof.Rows L2
section
variable {prog : Program} {w : World} {A : Around} {z TI TO i1 i2 S : Addr} {fp1 fp2 : List Addr} {n1 n2 : Nat} {P1 P2 : Nat → Value → Prop} {St1 St2 : Nat → Heap → Prop}
def ZSt (z TI TO i1 i2 S : Addr) (St1 St2 : Nat → Heap → Prop) (i : Nat) (h : Heap) : Prop :=
  ((IsZip h z TI TO .none ∧ ∃ a1 a2, IsTupOf2 h TO a1 a2) ∨ ∃ T f oT, IsZipHeld h z TI TO T f ∧ h.get? T = some oT ∧ T ≠ z ∧ T ≠ i1 ∧ T ≠ i2 ∧ T ≠ S) ∧ IsTupOf2 h TI (.ref i1) (.ref i2) ∧ St1 i h ∧ St2 i h
theorem zip_pairIter (hS : ∀ b, b = z ∨ b = TI ∨ b = TO ∨ b ∈ fp1 ∨ b ∈ fp2 → b < S) (SP : ZipSep2 z TI TO i1 i2 fp1 fp2) (D1 : Draws prog w A.in1 i1 fp1 n1 P1 St1) (D2 : Draws prog w A.in1 i2 fp2 n2 P2 St2) :
    PairIter prog w A z S (min n1 n2) (fun i x y => P1 i x ∧ P2 i y) [z, TO, i1, i2] (ZSt z TI TO i1 i2 S St1 St2) where
  item := fun i s Q E hi st hSl hQ => by
    obtain ⟨hz, hTI, st1, st2⟩ := st
    have nT : ∀ c, c = z ∨ c = i1 ∨ c = i2 ∨ c = S → s.heap.objs.size ≠ c := fun c hc e => by
      have : c < s.heap.objs.size := by
        rcases hc with q | q | q | q
        · rw [q]; exact Nat.lt_trans (hS z (by simp)) hSl
        · rw [q]; exact Nat.lt_trans (hS i1 (by simp [SP.mem1])) hSl
        · rw [q]; exact Nat.lt_trans (hS i2 (by simp [SP.mem2])) hSl
        · rw [q]; exact hSl
      rw [e] at this
      exact absurd this (Nat.lt_irrefl _)
    rcases hz with ⟨hz, a1, a2, hTO⟩ | ⟨T, f, oT, hz, hT, t1, t2, t3, t4⟩
    · have hTy : s.TypeIs (.ref z) "zip" := ⟨_, hz, rfl⟩
      unfold pyNext
      refine wpAny_bind (wpAny_attempt (wpAny_callSpecial?_slot (name := Str.ofString "__next__") hTy F.slot_zip_next
        (wpAny_call_entry F.slot_zip_next hTy F.entry_zip_next
          (zipD2_next_item SP D1 D2 hz hTI hTO st1 st2 (by omega) (by omega) fun x y h' tk hx hy hz' hTO' sn1 sn2 ht hsz hk => wpAny_pure ?_) (F.args_zip_next_1 _))))
      refine hQ x y h' tk ⟨hx, hy⟩ ⟨.inr ⟨_, false, _, hz', ht, nT z (by simp), nT i1 (by simp), nT i2 (by simp), nT S (by simp)⟩, hk TI _ SP.TIz SP.TITO SP.TIi1 SP.TIi2 hTI, sn1, sn2⟩ ht fun b o hb e => ?_
      simp only [List.mem_cons, List.not_mem_nil, or_false, not_or] at hb
      exact hk b o hb.1 hb.2.1 hb.2.2.1 hb.2.2.2 e
    · have hTy : s.TypeIs (.ref z) "zip" := ⟨_, hz, rfl⟩
      unfold pyNext
      refine wpAny_bind (wpAny_attempt (wpAny_callSpecial?_slot (name := Str.ofString "__next__") hTy F.slot_zip_next
        (wpAny_call_entry F.slot_zip_next hTy F.entry_zip_next
          (zipD_item_held SP D1 D2 hz hT hTI st1 st2 (by omega) (by omega) fun x y h' tk hx hy hz' sn1 sn2 ht hk => wpAny_pure ?_) (F.args_zip_next_1 _))))
      refine hQ x y h' tk ⟨hx, hy⟩ ⟨.inr ⟨T, true, oT, hz', hk T oT t1 t2 t3 hT, t1, t2, t3, t4⟩, hk TI _ SP.TIz SP.TIi1 SP.TIi2 hTI, sn1, sn2⟩ ht fun b o hb e => ?_
      simp only [List.mem_cons, List.not_mem_nil, or_false, not_or] at hb
      exact hk b o hb.1 hb.2.2.1 hb.2.2.2 e
  done := fun s Q E st hQ => by
    obtain ⟨hz, hTI, st1, st2⟩ := st
    have hen : min n1 n2 = n1 ∨ min n1 n2 = n2 := by omega
    rcases hz with ⟨hz, a1, a2, hTO⟩ | ⟨T, f, oT, hz, hT, t1, t2, t3, t4⟩
    · have hTy : s.TypeIs (.ref z) "zip" := ⟨_, hz, rfl⟩
      unfold pyNext
      refine wpAny_bind (wpAny_attempt (wpAny_callSpecial?_slot (name := Str.ofString "__next__") hTy F.slot_zip_next
        (wpAny_call_entry F.slot_zip_next hTy F.entry_zip_next (zipD2_next_end SP D1 D2 hz hTI hTO st1 st2 (Nat.min_le_left _ _) (Nat.min_le_right _ _) hen fun h' tk e hk he => ?_) (F.args_zip_next_1 _))))
      obtain ⟨o, ho, hc⟩ := he
      refine wpAny_bind (wpAny_isInstance (T := "StopIteration") (b := true) ⟨o, ho, hc⟩ isSubtype_stop ?_)
      refine wpAny_pure (hQ h' tk fun b o hb e => ?_)
      simp only [List.mem_cons, List.not_mem_nil, or_false, not_or] at hb
      exact hk b o hb.1 hb.2.1 hb.2.2.1 hb.2.2.2 e
    · have hTy : s.TypeIs (.ref z) "zip" := ⟨_, hz, rfl⟩
      unfold pyNext
      refine wpAny_bind (wpAny_attempt (wpAny_callSpecial?_slot (name := Str.ofString "__next__") hTy F.slot_zip_next
        (wpAny_call_entry F.slot_zip_next hTy F.entry_zip_next (zipD_end_held SP D1 D2 hz hT hTI st1 st2 (Nat.min_le_left _ _) (Nat.min_le_right _ _) hen fun h' tk e hk he => ?_) (F.args_zip_next_1 _))))
      obtain ⟨o, ho, hc⟩ := he
      refine wpAny_bind (wpAny_isInstance (T := "StopIteration") (b := true) ⟨o, ho, hc⟩ isSubtype_stop ?_)
      refine wpAny_pure (hQ h' tk fun b o hb e => ?_)
      simp only [List.mem_cons, List.not_mem_nil, or_false, not_or] at hb
      exact hk b o hb.1 hb.2.2.1 hb.2.2.2 e
  keep := fun i h h' st k => by
    obtain ⟨hz, hTI, st1, st2⟩ := st
    have kk : ∀ b o, (b = z ∨ b = TI ∨ b = TO ∨ b ∈ fp1 ∨ b ∈ fp2) → h.get? b = some o → h'.get? b = some o := fun b o hb e => k b o (Nat.ne_of_lt (hS b hb)) e
    refine ⟨?_, kk TI _ (by simp) hTI, D1.frame _ _ _ st1 fun b hb o e => kk b o (by simp [hb]) e, D2.frame _ _ _ st2 fun b hb o e => kk b o (by simp [hb]) e⟩
    rcases hz with ⟨hz, a1, a2, hTO⟩ | ⟨T, f, oT, hz, hT, t1, t2, t3, t4⟩
    · exact .inl ⟨kk z _ (by simp) hz, a1, a2, kk TO _ (by simp) hTO⟩
    · exact .inr ⟨T, f, oT, kk z _ (by simp) hz, k T oT t4 hT, t1, t2, t3, t4⟩
  low := fun b hb => by
    have e' : b = z ∨ b = TO ∨ b = i1 ∨ b = i2 := by simpa using hb
    rcases e' with q | q | q | q
    · rw [q]; exact hS z (by simp)
    · rw [q]; exact hS TO (by simp)
    · rw [q]; exact hS i1 (by simp [SP.mem1])
    · rw [q]; exact hS i2 (by simp [SP.mem2])
end
theorem zip_no_len : typeLookup (.type "zip") "__len__" = pure none := am_miss_of_fast (by decide +kernel)
theorem zip_no_hint : typeLookup (.type "zip") "__length_hint__" = pure none := am_miss_of_fast (by decide +kernel)
section
variable {prog : Program} {w : World} {A : Around} {E : Value → Shared → Prop} {s : Shared} {I S : Addr} {n : Nat} {Pr : Nat → Value → Value → Prop} {wr : List Addr} {St : Nat → Heap → Prop}
theorem zip_hint {r : Addr} (hT : s.TypeIs (.ref r) "zip") {Q : Bool → Shared → Prop} (h : Q true s) : wpAny (model prog w) A (Builtin.List.listLengthHint (.ref r)) Q E s := by
  unfold Builtin.List.listLengthHint
  refine wpAny_bind (wpAny_specialOf hT zip_no_len ?_)
  refine wpAny_ite_split (fun hab => absurd hab (by decide)) (fun _ => ?_)
  refine wpAny_ite_split (fun hab => absurd hab (by decide)) (fun _ => ?_)
  refine wpAny_bind (wpAny_specialOf hT zip_no_hint ?_)
  exact wpAny_pure h
theorem pl_extend {R : Result → Shared → Prop} (W : PairIter prog w A.in1 I S n Pr wr St) (hn : n ≤ sizeLine) (hT : s.TypeIs (.ref I) "zip") (hIS : I ≠ S) (hst : St 0 s.heap)
    (self : ∀ (A' : Around) (s' : Shared) (Q : Value → Shared → Prop) (E : Value → Shared → Prop), s'.heap = s.heap → Q (.ref I) s' → wpAny (model prog w) A' (pyIter (.ref I)) Q E s')
    (res : Value) (c₀ : Nat) (hS : s.heap.get? S = some { cls := .type "list", data := .seq #[] c₀ })
    (hR : ∀ h' tk acc c as, (∀ b o, b ≠ S → b ∉ wr → s.heap.get? b = some o → h'.get? b = some o) → h'.get? S = some { cls := .type "list", dict := none, data := .seq acc c, slots := #[] } → as.length = n → Made2 Pr S h' as →
      acc.toList = as.map Value.ref → R (.ok (.ret res)) { s with heap := h', toks := tk }) :
    wpAny (model prog w) A.in1 (Builtin.List.listExtendWith (.ref S) (.ref I) res)
      (fun fin s' => match fin with | .done f => R (.ok f) s' | .again c' => c'.quiet = true ∧ codeAny (model prog w) A c' R s') (fun e s' => R (.error e) s') s := by
  have key : ∀ (h : Heap) (c₁ tk : Nat), St 0 h → (∀ b o, b ≠ S → b ∉ wr → s.heap.get? b = some o → h.get? b = some o) →
      h.get? S = some { cls := .type "list", data := .seq #[] c₁ } → codeAny (model prog w) A (.builtin "list.extend.loop" ⟨[.ref S, .ref I, res], []⟩) R { s with heap := h, toks := tk } := by
    intro h c₁ tk hst hk hS₁
    exact pl_loop W hn res hR n 0 h tk c₁ #[] [] (Nat.sub_zero _) (Nat.zero_le _) hst hk hS₁ rfl rfl ⟨List.Pairwise.nil, (fun _ ha => nomatch ha), (fun j a hj => by simp at hj)⟩
  unfold Builtin.List.listExtendWith
  refine wpAny_bind (wpAny_typeOf (T := "zip") hT ?_)
  have h1 : Builtin.List.listSameRef (.ref S) (.ref I) = false := by simp [Builtin.List.listSameRef, Ne.symm hIS]
  have h2 : (Value.type "zip" == Value.type "list") = false := by decide
  have h3 : (Value.type "zip" == Value.type "tuple") = false := by decide
  simp only [h1, h2, h3, Bool.or_false, Bool.false_eq_true, if_false]
  refine wpAny_bind (self _ _ _ _ rfl ?_)
  refine wpAny_bind (wpAny_holding (zip_hint hT ?_))
  refine wpAny_ite_split (fun _ => ?_) (fun _ => wpAny_pure ⟨plainId_quiet PySem.F.plain_extend_loop _, key _ c₀ _ hst (fun b o _ _ e => e) hS⟩)
  refine wpAny_bind (wpAny_rule ?_)
  refine wpAny_bind ?_
  show wpAny _ _ (updateSeq S (·.push .none) >>= fun _ => updateSeq S (·.pop)) _ _ _
  refine wpAny_bind (wpAny_updateSeq hS rfl ?_)
  have hS₂ := Heap.get?_update_self (Obj.mapSeq (·.push Value.none)) hS rfl
  refine wpAny_updateSeq (hz := by seq_fits) hS₂ rfl ?_
  have hS₃ := Heap.get?_update_self (Obj.mapSeq (·.pop)) hS₂ rfl
  have oth : ∀ b o, b ≠ S → s.heap.get? b = some o → ((s.heap.update S (Obj.mapSeq (·.push Value.none))).update S (Obj.mapSeq (·.pop))).get? b = some o := fun b o hb e => (Heap.get?_update_other _ _ (Ne.symm hb)).trans ((Heap.get?_update_other _ _ (Ne.symm hb)).trans e)
  exact wpAny_pure ⟨plainId_quiet PySem.F.plain_extend_loop _, key _ _ _ (W.keep _ _ _ hst oth) (fun b o hb _ e => oth b o hb e) hS₃⟩
end
end AR
namespace AR
open PySem PySem.Spec PyProof.Rows L2
section
variable {prog : Program} {w : World} {A : Around} {E : Value → Shared → Prop} {s : Shared} {I : Addr} {n : Nat} {Pr : Nat → Value → Value → Prop} {wr : List Addr} {St : Nat → Heap → Prop}
/-- list(zip) -/
theorem pl_call {Q : Value → Shared → Prop} (W : PairIter prog w A.in1.in1 I s.heap.objs.size n Pr wr St) (hn : n ≤ sizeLine) (hT : s.TypeIs (.ref I) "zip") (hst : St 0 s.heap) (hI : I < s.heap.objs.size)
    (self : ∀ (A' : Around) (s' : Shared) (Q : Value → Shared → Prop) (E : Value → Shared → Prop), (∀ o, s.heap.get? I = some o → s'.heap.get? I = some o) → Q (.ref I) s' → wpAny (model prog w) A' (pyIter (.ref I)) Q E s')
    (hQ : ∀ h' tk acc c as, (∀ b o, b ∉ wr → s.heap.get? b = some o → h'.get? b = some o) → h'.get? s.heap.objs.size = some { cls := .type "list", dict := none, data := .seq acc c, slots := #[] } → as.length = n → Made2 Pr s.heap.objs.size h' as →
      acc.toList = as.map Value.ref → Q (.ref s.heap.objs.size) { s with heap := h', toks := tk }) :
    wpAny (model prog w) A (call (.type "list") [.ref I]) Q E s := by
  refine callType_codes (Q₁ := fun obj s₁ => obj = .ref s.heap.objs.size ∧ s₁ = { s with heap := s.heap.push { cls := .type "list", data := .seq #[] } }) PySem.F.called_list (PySem.F.typeCall_list_1 _) PySem.F.entry_list_init
    (code_list_new _ ⟨rfl, rfl⟩) fun obj s₁ h₁ => ?_
  obtain ⟨rfl, rfl⟩ := h₁
  have hS : (s.heap.push { cls := .type "list", data := .seq #[] }).get? s.heap.objs.size = some { cls := .type "list", data := .seq #[] } := Heap.get?_push_size _ rfl
  have hIS : I ≠ s.heap.objs.size := Nat.ne_of_lt hI
  refine ⟨⟨_, hS, rfl⟩, PySem.F.args_list_init_2 _ _, ?_⟩
  show wpAny _ _ (do let old ← Builtin.List.listItems (.ref s.heap.objs.size); Builtin.List.listUpdate (.ref s.heap.objs.size) (fun _ => #[]); letGo old.toList.reverse; Builtin.List.listExtendWith (.ref s.heap.objs.size) (.ref I) .none) _ _ _
  refine wpAny_bind ?_
  unfold Builtin.List.listItems
  refine wpAny_bind (wpAny_seqItems hS rfl (wpAny_pure ?_))
  show wpAny _ _ (updateSeq s.heap.objs.size (fun _ => #[]) >>= fun _ => letGo (#[] : Array Value).toList.reverse >>= fun _ => Builtin.List.listExtendWith (.ref s.heap.objs.size) (.ref I) .none) _ _ _
  refine wpAny_bind (wpAny_updateSeq hS rfl ?_)
  have hS₂ := Heap.get?_update_self (Obj.mapSeq (fun _ => (#[] : Array Value))) hS rfl
  have oth : ∀ b o, b ≠ s.heap.objs.size → s.heap.get? b = some o → ((s.heap.push { cls := .type "list", data := .seq #[] }).update s.heap.objs.size (Obj.mapSeq (fun _ => (#[] : Array Value)))).get? b = some o :=
    fun b o hb e => (Heap.get?_update_other _ _ (Ne.symm hb)).trans (Heap.get?_push_of_some _ e)
  refine wpAny_bind (wpAny_letGo ?_)
  refine pl_extend (A := A.in1) W hn (let ⟨o, ho, hc⟩ := hT; ⟨o, oth I o hIS ho, hc⟩) hIS (W.keep _ _ _ hst oth) (fun A' s' Q E e h => self A' s' Q E (fun o ho => by rw [e]; exact oth I o hIS ho) h) .none _ hS₂ (fun h' tk acc c as hk hS' hl hG hacc => ?_)
  exact ⟨rfl, hQ h' tk acc c as (fun b o hb e => hk b o (Nat.ne_of_lt (Heap.lt_size e)) hb (oth b o (Nat.ne_of_lt (Heap.lt_size e)) e)) hS' hl hG hacc⟩
end
section
variable {X : Cx} {pins : List (Addr × Obj)} {σ : L2.St} {H : Hp} {s : Shared}
/-- several new objects, tracked at once -/
theorem laidAll {as : List Addr} {H' : Hp} {h' : Heap} {t' : Nat} (I : Inv X pins σ H s) (k : ∀ b u, s.heap.get? b = some u → h'.get? b = some u) (hf : ∀ a ∈ as, s.heap.objs.size ≤ a) (off : ∀ b, b ∉ as → H' b = H b)
    (new : ∀ a ∈ as, ∀ o, H' a = some o → ObjOk X.prog X.w H' h' a o) : Inv X pins σ H' { s with heap := h', toks := t' } := by
  have hfr : ∀ a ∈ as, H a = none := fun a ha => I.hok.fresh (hf a ha)
  have kp : ∀ b o, H b = some o → H' b = some o := fun b o e => by
    rw [off b fun hb => by rw [hfr b hb] at e; cases e]; exact e
  have nas : ∀ b o, s.heap.get? b = some o → b ∉ as := fun b o e hb => absurd (Nat.lt_of_lt_of_le (Heap.lt_size e) (hf b hb)) (Nat.lt_irrefl _)
  refine I.un ⟨fun b o q _ _ _ => k b o q, fun b o q _ _ _ => ⟨o.slots, k b o q⟩, fun b o q n _ => by rw [off b (nas b o q)]; exact n, fun b o q _ => ⟨o, k b o q⟩, fun b xs q => kp b _ q, fun b o u q => kp b _ q, fun b ps q => ⟨#[], by rw [kp b _ q]; simp⟩⟩ fun b o e => ?_
  by_cases hb : b ∈ as
  · exact new b hb o e
  · rw [off b hb] at e
    exact (I.hok b o e).stay (fun c v _ q => k c v q) (fun c q => kp c _ q) fun c xs q => kp c _ q
/-- list(zip(a, b)): a new list of new pairs -/
def tListZ (K : PySem.W.Frag) (ta : TA) : TE := fun σ H Q => ta σ H fun vs H1 => ∃ s1 s2 : Src, ∃ xs ys, vs = [s1.v, s2.v] ∧ s1.has K H1 xs ∧ s2.has K H1 ys ∧ min xs.length ys.length ≤ sizeLine ∧
  ∀ (l : Addr) (as : List Addr) (H' : Hp), H1 l = none → (∀ a ∈ as, H1 a = none) → Same H1 H' → H' l = some (.lst (as.map V.ref)) → as.length = min xs.length ys.length →
    (∀ (j : Nat) a, as[j]? = some a → ∃ x y, xs[j]? = some x ∧ ys[j]? = some y ∧ H' a = some (.tup [x, y])) → Q (.ref l) H'
theorem pe_listZ {e e2 : Expr} {ta : TA} {p p2 pos pos2 : Pos} (hc : X.calm = true) (hg : Gl X "list") (hm : X.mg "list" = none) (hg2 : Gl X "zip") (hm2 : X.mg "zip" = none) (ha : PA X [e, e2] ta)
    (hs : starEach [.Call (.Name "zip" p2) [e, e2] [] pos2] X.env = (false, eval (.Call (.Name "zip" p2) [e, e2] [] pos2) X.env) :: starEach [] X.env := by rfl)
    (hs2 : starEach [e, e2] X.env = (false, eval e X.env) :: starEach [e2] X.env := by rfl) (hpl : (backTo pos2 (starEach [e2] X.env)).any (·.1) = false := by rfl) :
    PE X (.Call (.Name "list" p) [.Call (.Name "zip" p2) [e, e2] [] pos2] [] pos) (tListZ X.K ta) := by
  refine ⟨fun pins s σ H Q I h => ?_⟩
  refine wpAny_Call_Name_kw (ld_blt I hg hm (show bootBuiltins "list" = some (.type "list") by decide +kernel) ?_)
  refine PyProof.Rows.callWith_type1 ?_ hs rfl
  rw [hs]
  show wpAny _ _ (spliced ((false, eval (.Call (.Name "zip" p2) [e, e2] [] pos2) X.env) :: backTo pos (starEach [] X.env))) _ _ s
  refine Calls.spliced_cons ?_
  refine Call_ (ld_blt I hg2 hm2 PyProof.Rows.boot_zip (PyProof.Rows.callWith_type1 (thn (ha.run pos2 pins s σ H _ I h) fun us s1 ⟨vs, H1, I1, r1, q1⟩ => ?_) hs2 hpl))
  obtain ⟨c1, c2, xs, ys, rfl, g1, g2, hn, q⟩ := q1
  cases r1 with
  | cons r rr =>
    cases rr with
    | cons r' rr =>
      cases rr
      obtain ⟨t1, e1⟩ := c1.is_of r
      obtain ⟨t2, e2⟩ := c2.is_of r'
      obtain ⟨it1, o1, r1, l1, _⟩ := Src.given I1 c1 g1
      obtain ⟨it2, o2, r2, l2, _⟩ := Src.given I1 c2 g2
      refine zip_begins2 (c1.begins t1 it1 e1) (c2.begins t2 it2 e2) o1 o2 fun h' hz hTI hTO h1 h2 hsz hk => ?_
      refine Calls.spliced_nil ?_
      have I2 : Inv X pins σ H1 { s1 with heap := h' } := I1.kept (t' := s1.toks) hk
      have D1 := Src.draws (P := X.prog) (w := X.w) (A := X.A.in1.in1.in1) (I1.ok.hd hc) c1 t1 s1.heap.objs.size it1 xs r1 (fun b hb => Nat.ne_of_lt (l1 b hb))
      have D2 := Src.draws (P := X.prog) (w := X.w) (A := X.A.in1.in1.in1) (I1.ok.hd hc) c2 t2 (s1.heap.objs.size + 1) it2 ys r2 (fun b hb => Nat.ne_of_lt (Nat.lt_succ_of_lt (l2 b hb)))
      have ok1 : c1.ok it1 h' := (c1.begins t1 it1 e1).keeps _ _ o1 hk
      have ok2 : c2.ok it2 h' := (c2.begins t2 it2 e2).keeps _ _ o2 hk
      have W := zip_pairIter (prog := X.prog) (w := X.w) (A := X.A.in1.in1) (S := h'.objs.size) (z := s1.heap.objs.size + 4) (TI := s1.heap.objs.size + 2) (TO := s1.heap.objs.size + 3) (fun b hb => by
        have hle : b < s1.heap.objs.size + 5 := by
          rcases hb with q | q | q | q | q
          · rw [q]; exact Nat.lt_succ_self _
          · rw [q]; exact Nat.add_lt_add_left (by decide) _
          · rw [q]; exact Nat.add_lt_add_left (by decide) _
          · rcases List.mem_cons.mp q with q | q
            · rw [q]; exact Nat.lt_add_of_pos_right (by decide)
            · exact Nat.lt_of_lt_of_le (l1 b q) (Nat.le_add_right _ _)
          · rcases List.mem_cons.mp q with q | q
            · rw [q]; exact Nat.add_lt_add_left (by decide) _
            · exact Nat.lt_of_lt_of_le (l2 b q) (Nat.le_add_right _ _)
        rw [hsz]; exact hle) (zip_sep2 l1 l2) D1 D2
      refine pl_call (s := { s1 with heap := h' }) W hn ⟨_, hz, rfl⟩ ⟨.inl ⟨hz, _, _, hTO⟩, hTI, ⟨c1.at_obj t1 h1, ok1⟩, ⟨c2.at_obj t2 h2, ok2⟩⟩ (Heap.lt_size hz) (fun A' s' Q E kk hq => wpAny_pyIter_zip (kk _ hz) hq) fun h'' tk acc c as hk2 hS hl hG hacc => ?_
      have hk3 : ∀ b o, s1.heap.get? b = some o → h''.get? b = some o := fun b o eb => hk2 b o (fun hb => by
        have lt := Heap.lt_size eb
        have e' : b = s1.heap.objs.size + 4 ∨ b = s1.heap.objs.size + 3 ∨ b = s1.heap.objs.size ∨ b = s1.heap.objs.size + 1 := by simpa using hb
        rcases e' with q | q | q | q <;> (rw [q] at lt; exact absurd lt (by first | exact Nat.lt_irrefl _ | exact Nat.not_lt.mpr (Nat.le_add_right _ _)))) (hk b o eb)
      have hS0 : s1.heap.objs.size ≤ h'.objs.size := by rw [hsz]; exact Nat.le_add_right _ _
      -- each tuple by its place
      have tv : ∀ (j : Nat) a, as[j]? = some a → ∃ x y, xs[j]? = some x ∧ ys[j]? = some y ∧ ∃ u u', RelV x u ∧ RelV y u' ∧ IsTupOf2 h'' a u u' := fun j a ja => by
        obtain ⟨u, u', ⟨⟨x, hx, rx⟩, ⟨y, hy, ry⟩⟩, ht⟩ := hG.pairs j a ja
        exact ⟨x, y, hx, hy, u, u', rx, ry, ht⟩
      have ndup : ∀ (i j : Nat) a, as[i]? = some a → as[j]? = some a → i = j := fun i j a hi hj => by
        rcases Nat.lt_trichotomy i j with lt | eq | gt
        · have := List.pairwise_iff_getElem.mp hG.rise i j (List.getElem?_eq_some_iff.mp hi).1 (List.getElem?_eq_some_iff.mp hj).1 lt
          rw [(List.getElem?_eq_some_iff.mp hi).2, (List.getElem?_eq_some_iff.mp hj).2] at this
          exact absurd this (Nat.lt_irrefl _)
        · exact eq
        · have := List.pairwise_iff_getElem.mp hG.rise j i (List.getElem?_eq_some_iff.mp hj).1 (List.getElem?_eq_some_iff.mp hi).1 gt
          rw [(List.getElem?_eq_some_iff.mp hi).2, (List.getElem?_eq_some_iff.mp hj).2] at this
          exact absurd this (Nat.lt_irrefl _)
      let f : Addr → Option HO := fun a => match as.idxOf? a with
        | some j => (match xs[j]?, ys[j]? with
          | some x, some y => some (.tup [x, y])
          | _, _ => none)
        | none => none
      let H' : Hp := fun b => if b = h'.objs.size then some (.lst (as.map V.ref)) else if b ∈ as then f b else H1 b
      have nS : ∀ a ∈ as, a ≠ h'.objs.size := fun a ha => Nat.ne_of_gt (hG.above a ha)
      have atH : ∀ (j : Nat) a x y, as[j]? = some a → xs[j]? = some x → ys[j]? = some y → H' a = some (.tup [x, y]) := fun j a x y ja hx hy => by
        have hm := List.mem_of_getElem? ja
        show (if a = h'.objs.size then some (HO.lst (as.map V.ref)) else if a ∈ as then f a else H1 a) = _
        rw [if_neg (nS a hm), if_pos hm]
        show (match as.idxOf? a with
          | some j => (match xs[j]?, ys[j]? with
            | some x, some y => some (HO.tup [x, y])
            | _, _ => none)
          | none => none) = _
        cases hi : as.idxOf? a with
        | none =>
          have := List.idxOf?_eq_none_iff.mp hi
          exact absurd hm this
        | some i =>
          have hi2 : as[i]? = some a := by
            obtain ⟨hlt, he, _⟩ := List.findIdx?_eq_some_iff_getElem.mp (show as.findIdx? (· == a) = some i from hi)
            rw [List.getElem?_eq_getElem hlt]
            exact congrArg some (beq_iff_eq.mp he)
          have : i = j := ndup i j a hi2 ja
          subst this
          show (match xs[i]?, ys[i]? with
            | some x, some y => some (HO.tup [x, y])
            | _, _ => none) = _
          rw [hx, hy]
      have J : Inv X pins σ H' { s1 with heap := h'', toks := tk } := by
        refine laidAll (as := h'.objs.size :: as) I1 hk3 (fun a ha => ?_) (fun b hb => ?_) fun a ha o e => ?_
        · rcases List.mem_cons.mp ha with q | q
          · rw [q]; exact hS0
          · exact Nat.le_trans hS0 (Nat.le_of_lt (hG.above a q))
        · show (if b = h'.objs.size then some (HO.lst (as.map V.ref)) else if b ∈ as then f b else H1 b) = _
          rw [if_neg (fun q => hb (by rw [q]; exact List.mem_cons_self)), if_neg (fun q => hb (List.mem_cons_of_mem _ q))]
        · by_cases hS' : a = h'.objs.size
          · subst hS'
            have eo : H' h'.objs.size = some (.lst (as.map V.ref)) := if_pos rfl
            rw [eo] at e
            cases e
            refine ⟨by rw [List.length_map, hl]; exact hn, acc.toList, c, ?_, by simpa using hS⟩
            rw [hacc]
            refine paired_of_get (by simp) fun j v u h1 h2 => ?_
            rw [List.getElem?_map] at h1 h2
            cases ej : as[j]? with
            | none => rw [ej] at h1; cases h1
            | some b =>
              rw [ej] at h1 h2
              cases h1; cases h2
              rfl
          · have hm : a ∈ as := by rcases List.mem_cons.mp ha with q | q; exact absurd q hS'; exact q
            obtain ⟨j, ja⟩ := List.mem_iff_getElem?.mp hm
            obtain ⟨x, y, hx, hy, u, u', rx, ry, ht⟩ := tv j a ja
            rw [atH j a x y ja hx hy] at e
            cases e
            exact ⟨by show 2 ≤ sizeLine; decide, [u, u'], .cons rx (.cons ry .nil), ⟨_, ht, rfl, _, rfl⟩⟩
      have fS : H1 h'.objs.size = none := I1.hok.fresh hS0
      have fa : ∀ a ∈ as, H1 a = none := fun a ha => I1.hok.fresh (Nat.le_trans hS0 (Nat.le_of_lt (hG.above a ha)))
      refine ⟨.ref _, H', J, rfl, q _ as H' fS fa (fun b o e => ?_) (if_pos rfl) hl fun j a ja => ?_⟩
      · show (if b = h'.objs.size then some (HO.lst (as.map V.ref)) else if b ∈ as then f b else H1 b) = _
        rw [if_neg (ne_of_none e fS), if_neg (fun hm => by rw [fa b hm] at e; cases e)]
        exact e
      · obtain ⟨x, y, hx, hy, _⟩ := tv j a ja
        exact ⟨x, y, hx, hy, atH j a x y ja hx hy⟩
end
end AR
namespace AR
open PySem PySem.Spec PyProof.Rows L2
/-- a method of the class at C -/
structure MD (K : PySem.W.Frag) (C : Addr) (m qual : Str) (st : Stmt) (ps : List Str) : Prop where
  ex : ∃ (f : Addr) (fd : FuncData), FunD K m qual (defArgs st) (defBody st) (defScope st) [] [] f fd ∧ Meth K C m f ∧ Binds K fd ps []
/-- an __init__ of the class at C -/
structure ID (K : PySem.W.Frag) (mg : Str → Option Value) (x : Str) (C : Addr) (qual : Str) (st : Stmt) (ps : List Str) : Prop where
  ex : ∃ (f : Addr) (fd : FuncData), FunD K "__init__" qual (defArgs st) (defBody st) (defScope st) [] [] f fd ∧ Mk K C f ∧ mg x = some (.ref C) ∧ Binds K fd ps []
section
variable {P : Program} {w : World} {K : PySem.W.Frag} {mg : Str → Option Value} {base : Heap}
theorem MD.met {C : Addr} {m qual : Str} {st : Stmt} {N ps : List Str} {k : Nat} {sp : Sp} (M : MD K C m qual st ps) (c : Cls K C) (S : FnScope N ps (defScope st)) (len : ∀ vs H Q E, sp vs H Q E → vs.length = ps.length)
    (hbody : ∀ (f : Addr) (cdv : Value) (A : Around) (outer : List Env) (s : Shared) (H : Hp) (vs : List V) (Q : VK) (E : XK), Room k (A.deeper (envOfC qual (defScope st) s.heap.objs.size f cdv)) → sp vs H Q E →
      ∃ t, PSs (cxOf CX0 P w K mg base N qual (defScope st) f cdv A outer s H E).nox (defBody st) t ∧ t { nx := fun _ H' => Q .non H', rt := Q } (start N vs) H) : C8.Met P w K mg base (k + 1) C m sp [] := by
  obtain ⟨f, fd, F, me, b⟩ := M.ex
  refine ⟨f, fd, ps, [], c, me, F.ok S len fun cdv A outer s H vs Q E hr hsp => ?_, b, .nil⟩
  obtain ⟨t, h, q⟩ := hbody f cdv A outer s H vs Q E hr hsp
  exact ⟨t, h.nox, q⟩
theorem ID.mak {x qual : Str} {C : Addr} {st : Stmt} {N ps : List Str} {k : Nat} {sp : Sp} (M : ID K mg x C qual st ps) (S : FnScope N ps (defScope st)) (len : ∀ vs H Q E, sp vs H Q E → vs.length = ps.length)
    (hbody : ∀ (f : Addr) (cdv : Value) (A : Around) (outer : List Env) (s : Shared) (H : Hp) (vs : List V) (Q : VK) (E : XK), Room k (A.deeper (envOfC qual (defScope st) s.heap.objs.size f cdv)) → sp vs H Q E →
      ∃ t, PSs (cxOf CX0 P w K mg base N qual (defScope st) f cdv A outer s H E).nox (defBody st) t ∧ t { nx := fun _ H' => Q .non H', rt := Q } (start N vs) H) : C8.Mak P w K mg base (k + 1) x C sp [] := by
  obtain ⟨f, fd, F, mk, hm, b⟩ := M.ex
  refine ⟨f, fd, ps, [], mk, F.ok S len fun cdv A outer s H vs Q E hr hsp => ?_, hm, b, .nil⟩
  obtain ⟨t, h, q⟩ := hbody f cdv A outer s H vs Q E hr hsp
  exact ⟨t, h.nox, q⟩
end
end AR
namespace AR
open PySem PySem.Spec PyProof.Rows L2
/-! ### the layer's rules with the written part named (so that they stand within a comprehension too) -/
section
variable (K : PySem.W.Frag) {X : Cx}
theorem ix_listK (hK : X.K = K := by rfl) : IxR X (rIxL K) := hK ▸ ix_list
theorem ix_tupK (hK : X.K = K := by rfl) : IxR X (rIxT K) := hK ▸ ix_tup
theorem op_in_seqK (hK : X.K = K := by rfl) : OpR X (compareOp .In) (rIn K false) := hK ▸ op_in_seq
theorem op_notIn_seqK (hK : X.K = K := by rfl) : OpR X (compareOp .NotIn) (rIn K true) := hK ▸ op_notIn_seq
theorem op_eqDK (hu : X.A.units + 64 < cLine) (hK : X.K = K := by rfl) : OpR X (compareOp .Eq) (rEqD K) := hK ▸ op_eqD hu
theorem op_neDK (hu : X.A.units + 64 < cLine) (hK : X.K = K := by rfl) : OpR X (compareOp .NotEq) (rNeD K) := hK ▸ op_neD hu
theorem sl_listK (hK : X.K = K := by rfl) : SlR X (rSlL K) := hK ▸ sl_list
theorem sl_tupAK (hK : X.K = K := by rfl) : SlR X (rSlA K) := hK ▸ sl_tupA
theorem op_catAK (hK : X.K = K := by rfl) : OpR X (binaryOp .Add) (rCatA K) := hK ▸ op_catA
def rLenQ : List V → Hp → VK → Prop := fun xs H Q => ∃ p ys, xs = [.ref p] ∧ (SqL K H p ys ∨ SqT K H p ys) ∧ Q (.int ys.length) H
theorem call_lenK (hK : X.K = K := by rfl) : CallR X (.builtin "len") (rLenQ K) := by subst hK; exact call_len_seq
def rListQ : List V → Hp → VK → Prop := fun xs H Q => ∃ p ys, xs = [.ref p] ∧ (SqL K H p ys ∨ SqT K H p ys) ∧ ∀ l, H l = none → Q (.ref l) (upd H l (.lst ys))
theorem call_listK (hK : X.K = K := by rfl) : CallR X (.type "list") (rListQ K) := by subst hK; exact call_list_of
def rTupQ : List V → Hp → VK → Prop := fun xs H Q => ∃ p ys, xs = [.ref p] ∧ ((SqL K H p ys ∧ ∀ l, H l = none → Q (.ref l) (upd H l (.tup ys))) ∨ (SqT K H p ys ∧ Q (.ref p) H))
theorem call_tupK (hK : X.K = K := by rfl) : CallR X (.type "tuple") (rTupQ K) := by subst hK; exact call_tuple_of
theorem cr_allK (hc : X.calm = true) (hK : X.K = K := by rfl) : CallR X (.builtin "all") (rAll K) := hK ▸ cr_all hc
theorem cr_anyK (hc : X.calm = true) (hK : X.K = K := by rfl) : CallR X (.builtin "any") (rAny K) := hK ▸ cr_any hc
theorem cr_sumK (hc : X.calm = true) (hK : X.K = K := by rfl) : CallR X (.builtin "sum") (rSum K) := hK ▸ cr_sum hc
theorem call_isK (hK : X.K = K := by rfl) : CallR X (.builtin "isinstance") (rIsi K) := hK ▸ call_isi
theorem call_isTK (hK : X.K = K := by rfl) : CallR X (.builtin "isinstance") (rIsiT K) := hK ▸ call_isiT
def rDictQ : List V → Hp → VK → Prop := fun xs H Q => ∃ (a : Addr) (ps : List Addr) (kvs : List (Key × V)), xs = [.ref a] ∧ SqL K H a (ps.map V.ref) ∧ Paired (fun p kv => SqT K H p [kV kv.1, kv.2]) ps kvs ∧ ∀ p, H p = none → Q (.ref p) (upd H p (.dK (mergeK [] kvs)))
theorem call_dictK (hc : X.calm = true) (hK : X.K = K := by rfl) : CallR X (.type "dict") (rDictQ K) := by subst hK; exact call_dictP hc
def rLenT : List V → Hp → VK → Prop := fun xs H Q => ∃ z, xs = [.str z] ∧ z.length ≤ sizeLine ∧ Q (.int z.length) H
theorem call_lenT : CallR X (.builtin "len") rLenT := call_len_str
def rListT : List V → Hp → VK → Prop := fun xs H Q => ∃ x, xs = [.str x] ∧ x.length ≤ sizeLine ∧ ∀ l, H l = none → Q (.ref l) (upd H l (.lst (chV x)))
theorem call_listT (hc : X.calm = true) : CallR X (.type "list") rListT := call_list_txt hc
variable {e o : Expr} {es : List Expr} {ta to te : TE} {t : TA} {f name : Str} {pos apos cpos : Pos} {T id : String} {r : V → List V → Hp → VK → Prop}
theorem pe_fldK (he : PE X e ta) (hb : attributeBase e f X.env (eval e X.env) = eval e X.env) (hK : X.K = K := by rfl) : PE X (.Attribute e f pos) (tFld K ta f) := hK ▸ pe_fld he hb
theorem pi_listK {tg : Expr} (hl : PE X e ta) (hK : X.K = K := by rfl) : PI X tg e (iList K ta) := hK ▸ pi_list hl
theorem pi_tupK {tg : Expr} (hl : PE X e ta) (hK : X.K = K := by rfl) : PI X tg e (iTup K ta) := hK ▸ pi_tup hl
theorem pi_ZK {e2 : Expr} {p tpos : Pos} {elts : List Expr} {kk : Nat} (hg : Gl X "zip") (hm : X.mg "zip" = none) (ha : PA X [e, e2] t) (hK : X.K = K := by rfl)
    (hs : starEach [e, e2] X.env = (false, eval e X.env) :: starEach [e2] X.env := by rfl) (hpl : (backTo pos (starEach [e2] X.env)).any (·.1) = false := by rfl) :
    PI X (.Tuple elts kk tpos) (.Call (.Name "zip" p) [e, e2] [] pos) (iZ K t) := hK ▸ pi_Z hg hm ha hs hpl
theorem pe_listZK {e2 : Expr} {p p2 pos2 : Pos} (hc : X.calm = true) (hg : Gl X "list") (hm : X.mg "list" = none) (hg2 : Gl X "zip") (hm2 : X.mg "zip" = none) (ha : PA X [e, e2] t) (hK : X.K = K := by rfl)
    (hs : starEach [.Call (.Name "zip" p2) [e, e2] [] pos2] X.env = (false, eval (.Call (.Name "zip" p2) [e, e2] [] pos2) X.env) :: starEach [] X.env := by rfl)
    (hs2 : starEach [e, e2] X.env = (false, eval e X.env) :: starEach [e2] X.env := by rfl) (hpl : (backTo pos2 (starEach [e2] X.env)).any (·.1) = false := by rfl) :
    PE X (.Call (.Name "list" p) [.Call (.Name "zip" p2) [e, e2] [] pos2] [] pos) (tListZ K t) := hK ▸ pe_listZ hc hg hm hg2 hm2 ha hs hs2 hpl
theorem pg_tupK {es : List Expr} {k : Nat} {t : TGs} {n : Nat} (hc : X.calm = true) (h : PGs X es t) (hn : es.length = n := by rfl) (hK : X.K = K := by rfl)
    (hx : PG X (.Tuple es k pos) (gTup X.K n t)) : PG X (.Tuple es k pos) (gTup K n t) := hK ▸ hx
theorem pe_bmK (pa : PlainAttrs T) (slot : Slot T name id) (hty : typeOf (.builtin id) = pure (.type "method_descriptor")) (hm : MtR X id r) (ho : PE X o to) (ha : PA X (e :: es) t) (hK : X.K = K := by rfl)
    (hx : PE X (.Call (.Attribute o name apos) (e :: es) [] cpos) (tBM X.K T r to t) := by exact pe_bm (by assumption) (by assumption) (by assumption) (by assumption) (by assumption) (by assumption)) : PE X (.Call (.Attribute o name apos) (e :: es) [] cpos) (tBM K T r to t) := hK ▸ hx
def rJoin : V → List V → Hp → VK → Prop := fun x xs H Q => ∃ a p, ∃ ys : List Str, x = .str a ∧ xs = [.ref p] ∧ (SqL K H p (ys.map V.str) ∨ SqT K H p (ys.map V.str)) ∧ (ys.map (·.length)).sum + ys.length * a.length ≤ 16777216 ∧ Q (.str (Txt.join a ys)) H
theorem pe_joinK (ho : PE X o to) (he : PE X e te) (hK : X.K = K := by rfl) (hs : starEach [e] X.env = [(false, eval e X.env)] := by rfl) (hbase : attributeBase o "join" X.env (eval o X.env) = eval o X.env := by rfl) (hline : (apos.endLine == pos.line) = true := by rfl) :
    PE X (.Call (.Attribute o "join" apos) [e] [] pos) (tM1 (rJoin K) to te) := by subst hK; exact pe_join ho he hs hbase hline
end
theorem same_at {H H' : Hp} {a : Addr} {o : HO} (e : Same H H') (h : H a = some o) : H' a = some o := e a o h
/-! ### readings, entered -/
section
variable {K : PySem.W.Frag} {H H' : Hp} {Q : VK} {p : Addr} {ys : List V}
theorem i_lenL (h : SqL K H p ys) (k : Q (.int ys.length) H) : rLenQ K [.ref p] H Q := ⟨p, ys, rfl, .inl h, k⟩
theorem i_lenU (h : SqT K H p ys) (k : Q (.int ys.length) H) : rLenQ K [.ref p] H Q := ⟨p, ys, rfl, .inr h, k⟩
theorem i_lenT {z : Str} (h : z.length ≤ sizeLine) (k : Q (.int z.length) H) : rLenT [.str z] H Q := ⟨z, rfl, h, k⟩
theorem i_listT {x : Str} (h : x.length ≤ sizeLine) (k : ∀ l H', H l = none → Same H H' → H' l = some (.lst (chV x)) → Q (.ref l) H') : rListT [.str x] H Q := ⟨x, rfl, h, fun l hl => k l _ hl (same_new hl) upd_same⟩
theorem i_listL (h : SqL K H p ys) (k : ∀ l H', H l = none → Same H H' → H' l = some (.lst ys) → Q (.ref l) H') : rListQ K [.ref p] H Q := ⟨p, ys, rfl, .inl h, fun l hl => k l _ hl (same_new hl) upd_same⟩
theorem i_listU (h : SqT K H p ys) (k : ∀ l H', H l = none → Same H H' → H' l = some (.lst ys) → Q (.ref l) H') : rListQ K [.ref p] H Q := ⟨p, ys, rfl, .inr h, fun l hl => k l _ hl (same_new hl) upd_same⟩
theorem i_tupL (h : SqL K H p ys) (k : ∀ l H', H l = none → Same H H' → H' l = some (.tup ys) → Q (.ref l) H') : rTupQ K [.ref p] H Q := ⟨p, ys, rfl, .inl ⟨h, fun l hl => k l _ hl (same_new hl) upd_same⟩⟩
theorem i_tupU (h : SqT K H p ys) (k : Q (.ref p) H) : rTupQ K [.ref p] H Q := ⟨p, ys, rfl, .inr ⟨h, k⟩⟩
theorem i_joinL {a : Str} {zs : List Str} (h : SqL K H p (zs.map V.str)) (hs : (zs.map (·.length)).sum + zs.length * a.length ≤ 16777216) (k : Q (.str (Txt.join a zs)) H) : rJoin K (.str a) [.ref p] H Q := ⟨a, p, zs, rfl, rfl, .inl h, hs, k⟩
theorem i_joinU {a : Str} {zs : List Str} (h : SqT K H p (zs.map V.str)) (hs : (zs.map (·.length)).sum + zs.length * a.length ≤ 16777216) (k : Q (.str (Txt.join a zs)) H) : rJoin K (.str a) [.ref p] H Q := ⟨a, p, zs, rfl, rfl, .inr h, hs, k⟩
theorem i_app {xs : List V} {y : V} (h : H p = some (.lst xs)) (hl : xs.length < sizeLine) (k : Q .non (upd H p (.lst (xs ++ [y])))) : rAppend (.ref p) [y] H Q := ⟨p, xs, y, rfl, rfl, h, hl, k⟩
theorem i_tyL {xs : List V} {B : Prop} (h : SqL K H p xs) (k : B) : tyV K "list" (.ref p) H ∧ B := ⟨.inl ⟨rfl, xs, h⟩, k⟩
theorem i_fldI {ta : TE} {σ : L2.St} {f : Str} (k : ta σ H fun x H1 => ∃ a C dx fs v, x = .ref a ∧ H1 a = some (.ins C dx fs) ∧ Cls K C ∧ NoAttr K C f ∧ fs.lookup f = some v ∧ Q v H1) : tFld K ta f σ H Q := k
end
end AR
namespace AR
open PySem PySem.Spec PyProof.Rows L2
section
variable (K : PySem.W.Frag) {X : Cx} {pos : Pos}
theorem pg_tK {es : List Expr} {k : Nat} {t : TGs} {n : Nat} (hc : X.calm = true) (h : PGs X es t) (hK : X.K = K := by rfl)
    (hn : (assignEach es X.env).length = n := by rfl) (hst : (assignEach es X.env).findIdx? (·.1) = none := by rfl) : PG X (.Tuple es k pos) (gTup K n t) := hK ▸ pg_tup hc h hn hst
theorem pg_uK {es : List Expr} {k : Nat} {t : TGs} {n : Nat} (hc : X.calm = true) (h : PGs X es t) (hK : X.K = K := by rfl)
    (hn : (assignEach es X.env).length = n := by rfl) (hst : (assignEach es X.env).findIdx? (·.1) = none := by rfl) : PG X (.Tuple es k pos) (gUnl K n t) := hK ▸ pg_unl hc h hn hst
end
section
variable {K : PySem.W.Frag} {σ : L2.St} {H H' : Hp} {Q : VK} {D : Ends} {p : Addr} {z : Str}
theorem i_chain {r r' : R2} {ta tb tc : TE} (k : ta σ H fun x H1 => tb σ H1 fun y H2 => r x y H2 fun z H3 => ∃ k, z = .bl k ∧ (if k = true then tc σ H3 fun w' H4 => r' y w' H4 Q else Q (.bl false) H3)) : tChain r r' ta tb tc σ H Q := k
theorem i_nt {A B : Prop} (h : B) : if (!true) = true then A else B := by rw [if_neg (by decide)]; exact h
theorem i_nf {A B : Prop} (h : A) : if (!false) = true then A else B := by rw [if_pos (by decide)]; exact h
theorem i_isiS (k : Q (.bl true) H) : rIsi K [.str z, .ty "str"] H Q := ⟨_, _, _, _, true, rfl, .ty _, .base (.str _), kit_ty (by decide +kernel), k⟩
/-- a new pair as a target of two names -/
theorem i_pair {n : Nat} {t : TGs} {xs : List V} {Q : L2.St → Hp → Prop} (h : SqT K H p xs) (hl : xs.length = n) (k : t xs σ H Q) : gTup K n t (.ref p) σ H Q := ⟨p, xs, rfl, h, hl, k⟩
theorem i_gcons {t : TG} {u : TGs} {v : V} {r : List V} {Q : L2.St → Hp → Prop} (k : t v σ H fun σ' H' => u r σ' H' Q) : gCons t u (v :: r) σ H Q := ⟨v, r, rfl, k⟩
theorem i_gnil {Q : L2.St → Hp → Prop} (k : Q σ H) : gNil [] σ H Q := ⟨rfl, k⟩
theorem i_iZ {ta : TA} {R : It → Hp → Prop} (k : ta σ H fun vs H1 => ∃ s1 s2 : Src, ∃ xs ys, vs = [s1.v, s2.v] ∧ s1.has K H1 xs ∧ s2.has K H1 ys ∧ R (ItZ K s1 s2 xs ys) H1) : iZ K ta σ H R := k
theorem i_slS {lo hi : Option Int} (h : z.length ≤ sizeLine) (k : Q (.str (cutS z lo hi)) H) : rSlS (.str z) lo hi H Q := ⟨z, rfl, h, k⟩
theorem i_all {bs : List Bool} (h : SqL K H p (bs.map V.bl)) (k : Q (.bl (bs.all id)) H) : rAll K [.ref p] H Q := ⟨p, bs, rfl, h, k⟩
theorem i_lts {a b : Str} (k : Q (.bl (decide (a.cps.toList < b.cps.toList))) H) : ∃ i j, V.str a = .str i ∧ V.str b = .str j ∧ Q (.bl (decide (i.cps.toList < j.cps.toList))) H := ⟨a, b, rfl, rfl, k⟩
theorem i_ins {c : Nat} (k : Q (.bl (decide (c ∈ z.cps.toList))) H) : ∃ (c' : Nat) (z' : Str), V.str ⟨#[c]⟩ = .str ⟨#[c']⟩ ∧ V.str z = .str z' ∧ Q (.bl (decide (c' ∈ z'.cps.toList))) H := ⟨c, z, rfl, rfl, k⟩
theorem i_revS {te ts : TE} (k : te σ H fun x H1 => ts σ H1 fun i H2 => ∃ z, x = .str z ∧ i = .int (-1) ∧ z.length ≤ sizeLine ∧ Q (.str (revS z)) H2) : tRevS te ts σ H Q := k
theorem i_meth {C : Addr} {m : Str} {sp : Sp} {dvs : List V} {E : XK} {ta : TE} {t : TA} (k : ta σ H fun x H1 => ∃ a dx fs, x = .ref a ∧ H1 a = some (.ins C dx fs) ∧ fs.lookup m = none ∧ t σ H1 fun vs H2 => sp (x :: vs ++ dvs) H2 Q E) : (ta σ H fun x H1 => ∃ a dx fs, x = .ref a ∧ H1 a = some (.ins C dx fs) ∧ fs.lookup m = none ∧ t σ H1 fun vs H2 => sp (x :: vs ++ dvs) H2 Q E) := k
theorem i_dget {td ty : TE} (k : td σ H fun x H1 => ty σ H1 fun y H2 => ∃ a v, x = .ref a ∧ DGet H2 a y (some v) ∧ Q v H2) : tDGet td ty σ H Q := k
theorem i_sFld {ta tv : TE} {f : Str} (k : tv σ H fun y H1 => ta σ H1 fun x H2 => ∃ a C dx fs, x = .ref a ∧ H2 a = some (.ins C dx fs) ∧ Cls K C ∧ NoAttr K C f ∧ fs.length < 1000 ∧ D.nx σ (upd H2 a (.ins C dx (putF f y fs)))) : sFld K ta tv f D σ H := k
end
end AR
namespace AR
open PySem PySem.Spec PyProof.Rows L2
section
variable {K : PySem.W.Frag} {σ : L2.St} {H H' : Hp} {Q : VK} {D : Ends} {p : Addr} {z : Str}
theorem i_Meth {C : Addr} {m : Str} {sp : Sp} {dvs : List V} {E : XK} {ta : TE} {t : TA} (k : ta σ H fun x H1 => ∃ a dx fs, x = .ref a ∧ H1 a = some (.ins C dx fs) ∧ fs.lookup m = none ∧ t σ H1 fun vs H2 => sp (x :: (vs ++ dvs)) H2 Q E) : tMeth C m sp dvs E ta t σ H Q := k
/-- a new instance: what stood stays -/
theorem i_Make {C : Addr} {sp : Sp} {dvs : List V} {E : XK} {t : TA} (k : t σ H fun vs H1 => ∀ x dx, H1 x = none → H1 dx = none → dx ≠ x → sp (.ref x :: (vs ++ dvs)) (upd (upd H1 dx (.own x)) x (.ins C dx [])) (fun v H2 => v = .non ∧ Q (.ref x) H2) E) : tMake C sp dvs E t σ H Q := k
theorem newI {x dx C : Addr} {H1 : Hp} {fs : List (Str × V)} (nx : H x = none) (nd : H dx = none) (ne : dx ≠ x) (e : upd (upd H dx (.own x)) x (.ins C dx fs) = H1) : Same H H1 ∧ H1 x = some (.ins C dx fs) := by
  rw [← e]
  exact ⟨fun a u h => by rw [upd_ne (ne_of_none h nx), upd_ne (ne_of_none h nd)]; exact h, upd_same⟩
theorem i_listZ {ta : TA} (k : ta σ H fun vs H1 => ∃ s1 s2 : Src, ∃ xs ys, vs = [s1.v, s2.v] ∧ s1.has K H1 xs ∧ s2.has K H1 ys ∧ min xs.length ys.length ≤ sizeLine ∧
  ∀ (l : Addr) (as : List Addr) (H' : Hp), H1 l = none → (∀ a ∈ as, H1 a = none) → Same H1 H' → H' l = some (.lst (as.map V.ref)) → as.length = min xs.length ys.length →
    (∀ (j : Nat) a, as[j]? = some a → ∃ x y, xs[j]? = some x ∧ ys[j]? = some y ∧ H' a = some (.tup [x, y])) → Q (.ref l) H') : tListZ K ta σ H Q := k
theorem i_inst (k : Q (.bl true) H) {a C dx : Addr} {fs : List (Str × V)} (h : H a = some (.ins C dx fs)) (ic : C8.InsC K C) : rIsi K [.ref a, .ref C] H Q :=
  ⟨_, _, _, _, true, rfl, .own _, .base (.ins h ic.cl ic.ha ic.hn ic.htk ic.hm), ic.me, k⟩
/-! ### texts in a row, as data -/
theorem dpAll_strs : ∀ ys : List Str, DpAll K H (ys.map V.str) (ys.map PyData.str)
  | [] => .nil
  | y :: r => .cons (.str y) (dpAll_strs r)
theorem lay_strs : ∀ ys : List Str, (∀ y ∈ ys, PyData.strOk y = true) → PyData.canLayAll0 (ys.map PyData.str) = true
  | [], _ => by simp [PyData.canLayAll0]
  | y :: r, h => by
    have h1 : PyData.canLay0 (PyData.str y) = true := by simpa [PyData.canLay0] using h y (by simp)
    simp only [List.map_cons, PyData.canLayAll0, h1, lay_strs r fun x hx => h x (List.mem_cons_of_mem _ hx), Bool.and_self]
theorem depth_strs : ∀ ys : List Str, PyData.depthAll (ys.map PyData.str) = 0
  | [] => by simp [PyData.depthAll]
  | y :: r => by simp [PyData.depthAll, PyData.depth, depth_strs r]
theorem eqv_strs : ∀ xs ys : List Str, PyData.eqvAll (xs.map PyData.str) (ys.map PyData.str) = decide (xs = ys)
  | [], [] => by simp [PyData.eqvAll]
  | [], y :: r => by simp [PyData.eqvAll]
  | x :: r, [] => by simp [PyData.eqvAll]
  | x :: r, y :: q => by
    show (PyData.eqv (.str x) (.str y) && PyData.eqvAll (r.map PyData.str) (q.map PyData.str)) = _
    rw [eqv_strs r q]
    have : PyData.eqv (.str x) (.str y) = decide (x = y) := by
      simp only [PyData.eqv]
      by_cases h : x = y <;> simp [h]
    rw [this]
    by_cases h1 : x = y <;> by_cases h2 : r = q <;> simp [h1, h2]
theorem shaped_tup (ys : List Str) (ok : ∀ y ∈ ys, PyData.strOk y = true) : SeqAt.shaped (.tuple (ys.map PyData.str)) = true := by
  unfold SeqAt.shaped
  have h1 : PyData.canLay0 (.tuple (ys.map PyData.str)) = true := by
    simpa [PyData.canLay0] using lay_strs ys ok
  have h2 : PyData.depth (.tuple (ys.map PyData.str)) = 1 := by simp [PyData.depth, depth_strs ys]
  rw [h1, h2]; rfl
theorem shaped_lst (ys : List Str) (ok : ∀ y ∈ ys, PyData.strOk y = true) : SeqAt.shaped (.list (ys.map PyData.str)) = true := by
  unfold SeqAt.shaped
  have h1 : PyData.canLay0 (.list (ys.map PyData.str)) = true := by
    simpa [PyData.canLay0] using lay_strs ys ok
  have h2 : PyData.depth (.list (ys.map PyData.str)) = 1 := by simp [PyData.depth, depth_strs ys]
  rw [h1, h2]; rfl
theorem i_eqTT {a b : Addr} {xs ys : List Str} (h1 : SqT K H a (xs.map V.str)) (h2 : SqT K H b (ys.map V.str)) (o1 : ∀ y ∈ xs, PyData.strOk y = true) (o2 : ∀ y ∈ ys, PyData.strOk y = true) (k : Q (.bl (decide (xs = ys))) H) : rEqD K (.ref a) (.ref b) H Q :=
  ⟨_, _, .tup h1 (dpAll_strs xs), .tup h2 (dpAll_strs ys), shaped_tup xs o1, shaped_tup ys o2, by rw [show PyData.eqv (.tuple (xs.map PyData.str)) (.tuple (ys.map PyData.str)) = decide (xs = ys) by rw [← eqv_strs]; simp [PyData.eqv]]; exact k⟩
theorem i_neLL {a b : Addr} {xs ys : List Str} (h1 : SqL K H a (xs.map V.str)) (h2 : SqL K H b (ys.map V.str)) (o1 : ∀ y ∈ xs, PyData.strOk y = true) (o2 : ∀ y ∈ ys, PyData.strOk y = true) (k : Q (.bl (!decide (xs = ys))) H) : rNeD K (.ref a) (.ref b) H Q :=
  ⟨_, _, .lst h1 (dpAll_strs xs), .lst h2 (dpAll_strs ys), shaped_lst xs o1, shaped_lst ys o2, by rw [show PyData.eqv (.list (xs.map PyData.str)) (.list (ys.map PyData.str)) = decide (xs = ys) by rw [← eqv_strs]; simp [PyData.eqv]]; exact k⟩
theorem i_eqLL {a b : Addr} {xs ys : List Str} (h1 : SqL K H a (xs.map V.str)) (h2 : SqL K H b (ys.map V.str)) (o1 : ∀ y ∈ xs, PyData.strOk y = true) (o2 : ∀ y ∈ ys, PyData.strOk y = true) (k : Q (.bl (decide (xs = ys))) H) : rEqD K (.ref a) (.ref b) H Q :=
  ⟨_, _, .lst h1 (dpAll_strs xs), .lst h2 (dpAll_strs ys), shaped_lst xs o1, shaped_lst ys o2, by rw [show PyData.eqv (.list (xs.map PyData.str)) (.list (ys.map PyData.str)) = decide (xs = ys) by rw [← eqv_strs]; simp [PyData.eqv]]; exact k⟩
end
end AR
namespace AR
open PySem PySem.Spec PyProof.Rows L2
theorem i_unl {K : PySem.W.Frag} {σ : L2.St} {H : Hp} {p : Addr} {n : Nat} {t : TGs} {xs : List V} {Q : L2.St → Hp → Prop} (h : SqL K H p xs) (hl : xs.length = n) (k : t xs σ H Q) : gUnl K n t (.ref p) σ H Q := ⟨p, xs, rfl, h, hl, k⟩
end AR
/-! a dict comprehension of two clauses whose keys are tuples -/
namespace AR
open PySem PySem.Spec PyProof.Rows L2
section turns
variable {pr : Program} {wo : World} {ar : Around} {R : Result → Shared → Prop} {st : Shared} {ek ev u0 j0 u1 j1 : Expr} {cs0 cs1 : List Expr} {sc : Scope} {po : Pos} {itr : Value} {dd : Addr} {en : Env}
abbrev dcx (ek ev u0 j0 u1 j1 : Expr) (cs0 cs1 : List Expr) (sc : Scope) (po : Pos) : Expr := .DictComp ek ev [⟨u0, j0, cs0, 0⟩, ⟨u1, j1, cs1, 0⟩] sc po
/-- one turn of the outer clause, of the inner one -/
theorem turn0 : compTurn (dcx ek ev u0 j0 u1 j1 cs0 cs1 sc po) 0 itr (.ref dd) en = (do
      standAt j0.pos
      match ← pyNext itr with
      | none => pure (.done .next)
      | some q =>
        letOwnedTupleGo u0 itr q
        assign u0 en q
        let mut good := true
        for c in cs0 do
          if good then good ← isTrue c en (eval c en)
        if good then
          let q1 ← eval j1 en
          standAt j1.pos
          let q1 ← foldedSetIterable j1 en q1
          let _ ← runOwn (.compStart (dcx ek ev u0 j0 u1 j1 cs0 cs1 sc po) 1 (← holding [q1] (pyIter q1)) (.ref dd) en) en
        again (.compLoop (dcx ek ev u0 j0 u1 j1 cs0 cs1 sc po) 0 itr (.ref dd) en)) := by rfl
theorem turn1 : compTurn (dcx ek ev u0 j0 u1 j1 cs0 cs1 sc po) 1 itr (.ref dd) en = (do
      standAt j1.pos
      match ← pyNext itr with
      | none => pure (.done .next)
      | some q =>
        letOwnedTupleGo u1 itr q
        assign u1 en q
        let mut good := true
        for c in cs1 do
          if good then good ← isTrue c en (eval c en)
        if good then
          (do
            let kq ← eval ek en
            let vq ← holding [kq] (eval ev en)
            standAt { ek.pos with endLine := ev.pos.endLine, endCol := ev.pos.endCol }
            holding [kq, vq] (dictSet dd kq vq))
        again (.compLoop (dcx ek ev u0 j0 u1 j1 cs0 cs1 sc po) 1 itr (.ref dd) en)) := by rfl
/-- what an error in a turn leads to -/
abbrev oops (pr : Program) (wo : World) (ar : Around) (en : Env) (R : Result → Shared → Prop) : Value → Shared → Prop := notedBy (model pr wo) ar en fun x z => R (.error x) z
theorem loop0 (hf : ∀ x, foldedSetIterable j1 en x = pure x) (Z : Nat → Shared → Prop)
    (go : ∀ n t, Z n t → wpAny (model pr wo) ar (pyNext itr) (fun r t1 => match r with
      | none => R (.ok .next) t1
      | some q => wpAny (model pr wo) ar (letOwnedTupleGo u0 itr q) (fun _ t2 => wpAny (model pr wo) ar (assign u0 en q) (fun _ t3 =>
          wpAny (model pr wo) ar (forIn cs0 true fun c r => if r = true then do let g ← isTrue c en (eval c en); pure (ForInStep.yield g) else pure (ForInStep.yield r)) (fun g t4 =>
            if g = true then wpAny (model pr wo) ar (eval j1 en) (fun x t5 => wpAny (model pr wo) ar (pyIter x) (fun i1 t6 =>
              codeAny (model pr wo) ar (.compStart (dcx ek ev u0 j0 u1 j1 cs0 cs1 sc po) 1 i1 (.ref dd) en) (fun r z => match r with
                | .ok _ => ∃ m, m < n ∧ Z m z
                | .error _ => False) t6) (oops pr wo ar en R) t5) (oops pr wo ar en R) t4
            else ∃ m, m < n ∧ Z m t4) (oops pr wo ar en R) t3) (oops pr wo ar en R) t2) (oops pr wo ar en R) t1) (oops pr wo ar en R) t)
    (n : Nat) (hz : Z n st) : codeAny (model pr wo) ar (.compLoop (dcx ek ev u0 j0 u1 j1 cs0 cs1 sc po) 0 itr (.ref dd) en) R st := by
  refine codeAny_loop rfl Z (fun n t ht => ?_) n hz
  show wpAny _ ar ((compTurn (dcx ek ev u0 j0 u1 j1 cs0 cs1 sc po) 0 itr (.ref dd) en).onRaise (fun x => do noteFrame x en; theTreesLotGoes x)) _ _ t
  refine wpAny_noted ?_
  rw [turn0]
  refine wpAny_bind (wpAny_standAt (wpAny_bind (thn (go n t ht) fun r t1 h1 => ?_)))
  cases r with
  | none => exact wpAny_pure h1
  | some q =>
    refine wpAny_bind (thn h1 fun _ t2 h2 => wpAny_bind (thn h2 fun _ t3 h3 => wpAny_bind (thn h3 fun g t4 h4 => ?_)))
    cases g with
    | false => exact wpAny_pure ⟨rfl, h4⟩
    | true =>
      refine wpAny_bind (thn h4 fun x t5 h5 => wpAny_bind (wpAny_standAt (wpAny_bind (wpAny_of_eq (hf x) (wpAny_bind (wpAny_holding (thn h5 fun i1 t6 h6 => ?_)))))))
      refine wpAny_bind (wpAny_runOwn ?_)
      rw [Around.mark_none]
      refine codeAny_mono h6 fun r z hr => ?_
      cases r with
      | error e => exact hr.elim
      | ok f => first | exact wpAny_pure ⟨rfl, hr⟩ | exact wpAny_bind (wpAny_pure (wpAny_pure ⟨rfl, hr⟩))
theorem loop1 (Z : Nat → Shared → Prop)
    (go : ∀ n t, Z n t → wpAny (model pr wo) ar (pyNext itr) (fun r t1 => match r with
      | none => R (.ok .next) t1
      | some q => wpAny (model pr wo) ar (letOwnedTupleGo u1 itr q) (fun _ t2 => wpAny (model pr wo) ar (assign u1 en q) (fun _ t3 =>
          wpAny (model pr wo) ar (forIn cs1 true fun c r => if r = true then do let g ← isTrue c en (eval c en); pure (ForInStep.yield g) else pure (ForInStep.yield r)) (fun g t4 =>
            if g = true then wpAny (model pr wo) ar (eval ek en) (fun kq t5 => wpAny (model pr wo) ar (eval ev en) (fun vq t6 =>
              wpAny (model pr wo) ar (dictSet dd kq vq) (fun _ t7 => ∃ m, m < n ∧ Z m t7) (oops pr wo ar en R) t6) (oops pr wo ar en R) t5) (oops pr wo ar en R) t4
            else ∃ m, m < n ∧ Z m t4) (oops pr wo ar en R) t3) (oops pr wo ar en R) t2) (oops pr wo ar en R) t1) (oops pr wo ar en R) t)
    (n : Nat) (hz : Z n st) : codeAny (model pr wo) ar (.compLoop (dcx ek ev u0 j0 u1 j1 cs0 cs1 sc po) 1 itr (.ref dd) en) R st := by
  refine codeAny_loop rfl Z (fun n t ht => ?_) n hz
  show wpAny _ ar ((compTurn (dcx ek ev u0 j0 u1 j1 cs0 cs1 sc po) 1 itr (.ref dd) en).onRaise (fun x => do noteFrame x en; theTreesLotGoes x)) _ _ t
  refine wpAny_noted ?_
  rw [turn1]
  refine wpAny_bind (wpAny_standAt (wpAny_bind (thn (go n t ht) fun r t1 h1 => ?_)))
  cases r with
  | none => exact wpAny_pure h1
  | some q =>
    refine wpAny_bind (thn h1 fun _ t2 h2 => wpAny_bind (thn h2 fun _ t3 h3 => wpAny_bind (thn h3 fun g t4 h4 => ?_)))
    cases g with
    | false => exact wpAny_pure ⟨rfl, h4⟩
    | true => exact wpAny_bind (wpAny_bind (thn h4 fun kq t5 h5 => wpAny_bind (wpAny_holding (thn h5 fun vq t6 h6 => wpAny_bind (wpAny_standAt (wpAny_holding (thn h6 fun _ t7 h7 => wpAny_pure ⟨rfl, h7⟩)))))))
theorem start1 (h0 : codeAny (model pr wo) ar (.compLoop (dcx ek ev u0 j0 u1 j1 cs0 cs1 sc po) 1 itr (.ref dd) en) R st)
    (h : wpAny (model pr wo) ar (pyIter itr) (fun i2 z => codeAny (model pr wo) ar (.compLoop (dcx ek ev u0 j0 u1 j1 cs0 cs1 sc po) 1 i2 (.ref dd) en) R z) (oops pr wo ar en R) st) :
    codeAny (model pr wo) ar (.compStart (dcx ek ev u0 j0 u1 j1 cs0 cs1 sc po) 1 itr (.ref dd) en) R st := by
  refine codeAny_of_tree ?_
  show wpAny _ _ ((compStart (dcx ek ev u0 j0 u1 j1 cs0 cs1 sc po) 1 itr (.ref dd) en).onRaise (fun x => do noteFrame x en; standAt theWindowsPlace)) _ _ st
  refine wpAny_notedAt ?_
  unfold compStart
  show wpAny _ _ (ask >>= _) _ _ st
  refine wpAny_bind (wpAny_askSetting (wpAny_ite ?_))
  split
  · first
      | exact wpAny_pure ⟨rfl, h0⟩
      | exact wpAny_bind (wpAny_pure (wpAny_pure ⟨rfl, h0⟩))
  · refine wpAny_bind (wpAny_rule ?_)
    first
      | exact wpAny_bind (wpAny_standAt (wpAny_bind (thn h fun i2 z hz => wpAny_pure ⟨rfl, hz⟩)))
      | (show wpAny _ _ (standAt j1.pos >>= _) _ _ st; exact wpAny_bind (wpAny_standAt (wpAny_bind (thn h fun i2 z hz => wpAny_pure ⟨rfl, hz⟩))))
end turns
end AR
namespace AR
open PySem PySem.Spec PyProof.Rows L2
section
variable {Y : Cx}
/-- d[k] = v within a comprehension, the key a tuple -/
theorem dsetT {ps : List (Addr × Obj)} {σ : L2.St} {H : Hp} {st : Shared} {E : Value → Shared → Prop} {D b : Addr} {kvs : List (List Key × V)} {k : List Key} {v : V} {r : Value} {Q : Unit → Shared → Prop} (hu : Y.A.units < cLine) (I : Inv Y ps σ H st)
    (hD : H D = some (.dT kvs)) (hb : H b = some (.tup (k.map kV))) (hz : kvs.length < sizeLine) (rv : RelV v r) (h : ∀ z, Inv Y ps σ (upd H D (.dT (putK kvs k v))) z → Q () z) : wpAny (model Y.prog Y.w) Y.A (dictSet D (.ref b) r) Q E st := by
  obtain ⟨z, hd, xs, rel, dd⟩ := dt_of I.hok hD
  have len : xs.length ≤ sizeLine := by rw [← Paired.length rel]; exact z
  have new : (putK kvs k v).length ≤ sizeLine := by have := length_putK kvs k v; omega
  refine wpAny_dictSet_heap (hsz := len) hu (key_of I.hok hb) dd fun h2 d2 same => h _ ?_
  obtain ⟨q, es, ep, g1, g2, g3, g4, _, g5⟩ := d2
  refine d_write I (by rw [hD]; exact True.intro) same ⟨q, g1⟩ ⟨new, hd, _, (rel.put k hb rv).keeps fun c ys ec => ?_, q, es, ep, g1, g2, g3, g4, g5⟩
  rw [upd_ne (ne_of ec hD (fun z => nomatch z))]
  exact ec
/-- {k: v for .. for ..}, the keys tuples of ints and texts: D the new dict -/
def tDc2 (wi : TI) (g : TG) (tt : TT) (wj : TI) (gj : TG) (tj : TT) (tk tv : TE) (vs us : List Nat) : TE := fun σ H Q => wi σ H fun J H1 => ∀ D, H1 D = none → ∃ W : Nat → Nat → Hp → Prop, (∃ m, W 0 m (upd H1 D (.dT []))) ∧ ∀ i m H, W i m H →
  (J.stop i H ∧ Q (.ref D) H) ∨ (J.go i H ∧ ∃ Nx : Hp → Prop, (∀ H', Nx H' → ∃ m', m' < m ∧ W (i + 1) m' H') ∧ ∀ x H', J.yld i H x H' → g x (wipe σ vs) H' fun σ2 H2 => wipe σ2 vs = wipe σ vs ∧ tt σ2 H2 fun b H3 =>
    if b = true then wj σ2 H3 fun L H4 => ∃ U : Nat → Nat → Hp → Prop, (∃ m, U 0 m H4) ∧ ∀ j n H, U j n H →
      (L.stop j H ∧ Nx H) ∨ (L.go j H ∧ ∃ Ny : Hp → Prop, (∀ H', Ny H' → ∃ n', n' < n ∧ U (j + 1) n' H') ∧ ∀ x H', L.yld j H x H' → gj x (wipe σ2 us) H' fun σ3 H5 => wipe σ3 us = wipe σ2 us ∧ tj σ3 H5 fun b H6 =>
        if b = true then tk σ3 H6 fun y H7 => tv σ3 H7 fun z H8 => ∃ kvs k a, y = .ref a ∧ H8 a = some (.tup (k.map kV)) ∧ H8 D = some (.dT kvs) ∧ kvs.length < sizeLine ∧ Ny (upd H8 D (.dT (putK kvs k z))) else Ny H6)
    else Nx H3)
theorem dc2_run {ps : List (Addr × Obj)} {st : Shared} {σ : L2.St} {H : Hp} {Q : VK} {ek ev u0 j0 u1 j1 : Expr} {cs0 cs1 : List Expr} {sc : Scope} {own : List (Str × Nat)} {us : List Nat} {po po' : Pos} {wi wj : TI} {g gj : TG} {tt tj : TT} {tk tv : TE} {use : Option (Value → Sem Unit)} {Qf : Value → Shared → Prop}
    (hc : Y.calm = true) (hu : Y.A.units < cLine) (hN : Y.N.Nodup) (I : Inv Y ps σ H st) (hi : PI Y u0 j0 wi) (ok : BlkOk Y.N Y.env.scope sc own) (hv : ∀ i ∈ us, i ∈ own.map (·.2))
    (hg : ∀ s H C cl fp, PG (Y.blk s H sc (compEnvC sc cl C Y.env) fp) u0 g) (ht : ∀ s H C cl fp, PTs (Y.blk s H sc (compEnvC sc cl C Y.env) fp) cs0 tt)
    (hj : ∀ s H C cl fp, PI (Y.blk s H sc (compEnvC sc cl C Y.env) fp) u1 j1 wj) (hgj : ∀ s H C cl fp, PG (Y.blk s H sc (compEnvC sc cl C Y.env) fp) u1 gj) (htj : ∀ s H C cl fp, PTs (Y.blk s H sc (compEnvC sc cl C Y.env) fp) cs1 tj)
    (hk : ∀ s H C cl fp, PE (Y.blk s H sc (compEnvC sc cl C Y.env) fp) ek tk) (he : ∀ s H C cl fp, PE (Y.blk s H sc (compEnvC sc cl C Y.env) fp) ev tv)
    (hs : ∀ x, foldedSetIterable j0 Y.env x = pure x) (hs1 : ∀ env x, foldedSetIterable j1 env x = pure x) (h : tDc2 wi g tt wj gj tj tk tv (own.map (·.2)) us σ H Q)
    (fin : ∀ D C z m H', Inv Y ps σ H' z → Q (.ref D) H' → z.heap.Ns C m → FpOk Y ps H' C → compPost (model Y.prog Y.w) Y.A Y.xe use Qf (.ref D) C (.ok .next) z) :
    wpAny (model Y.prog Y.w) Y.A (comprehension (dcx ek ev u0 j0 u1 j1 cs0 cs1 sc po) sc Y.env po' newDict false (eval j0 Y.env) use) Qf Y.xe st := by
  have frees : ∀ y ∈ sc.names, y.2 = .free → ∃ c, Y.env.cells.lookup y.1 = some c := fun y hy e => (ok.free y hy e).elim (fun k => I.ok.has _ (.inl k)) fun k => I.ok.has _ (.inr k)
  refine wpAny_comprehension_free (use := use) rfl hs (closure_ok frees) ok.kind (fun y hy e => by rw [ok.uniq y hy, e]) (thn (hi.run ps st σ H _ I h) fun xv t1 hx => thn hx fun iv t2 h2 => ?_)
  obtain ⟨it, fp, tn, J, H2, e, I2, T, a2, f2, q⟩ := h2
  subst e
  refine wpAny_newObj_type (newEnv_comp ?_)
  generalize eD : t2.heap.objs.size = D
  obtain ⟨W, ⟨m0, w0⟩, turn⟩ := q D (I2.hok.fresh (Nat.le_of_eq eD))
  generalize e3 : ({ t2 with heap := t2.heap.push { cls := .type "dict", data := .dict #[] } } : Shared) = t3
  have hp3 : t3.heap = t2.heap.push { cls := .type "dict", data := .dict #[] } := by rw [← e3]
  have I3 : Inv Y ps σ (upd H2 D (.dT [])) t3 := by
    rw [← e3]
    refine I2.laid (t' := t2.toks) (fun b o e => Heap.get?_push_of_some _ e) (Nat.le_of_eq eD) ?_
    rw [← eD]
    exact dt_empty t2.heap I2.big
  have f3 : ∀ b ∈ fp, FpOk Y ps (upd H2 D (.dT [])) b ∧ b < t3.heap.objs.size := fun b hb => by
    obtain ⟨o, e, _⟩ := T.obj _ _ a2 b hb
    have hlt := Heap.lt_size e
    exact ⟨⟨by rw [upd_ne (by rw [← eD]; exact Nat.ne_of_lt hlt)]; exact (f2 b hb).1, (f2 b hb).2⟩, by rw [hp3, Heap.size_push]; exact Nat.lt_succ_of_lt hlt⟩
  have a3 : tn 0 t3.heap := T.keep _ _ _ a2 fun b _ o e => by rw [hp3]; exact Heap.get?_push_of_some _ e
  have I4 := block_start I3 ok hN f3
  generalize eC : t3.heap.objs.size = C at I4
  generalize ecl : cellsFrom (C + 1) sc.names (cloFrom Y.env.cells sc.names []) = cl at I4
  have pg := hg t3 (upd H2 D (.dT [])) C cl fp
  have pt := ht t3 (upd H2 D (.dT [])) C cl fp
  have pj := hj t3 (upd H2 D (.dT [])) C cl fp
  have pgj := hgj t3 (upd H2 D (.dT [])) C cl fp
  have ptj := htj t3 (upd H2 D (.dT [])) C cl fp
  have pk := hk t3 (upd H2 D (.dT [])) C cl fp
  have pe := he t3 (upd H2 D (.dT [])) C cl fp
  show codeAny _ _ (.compStart (dcx ek ev u0 j0 u1 j1 cs0 cs1 sc po) 0 (.ref it) (.ref D) (compEnvC sc cl C Y.env)) (compPost (model Y.prog Y.w) Y.A Y.xe use Qf (.ref D) C) { t3 with heap := pushCells (t3.heap.push { cls := .type "dict", data := .dict #[] }) sc.names }
  have nfp : ∀ b ∈ fp, (upd H2 D (.dT [])) b = none := fun b hb => (f3 b hb).1.1
  generalize hce : compEnvC sc cl C Y.env = ce at I4 pg pt pj pgj ptj pk pe ⊢
  have cL : ce.locals = C := by subst hce; rfl
  generalize hH3 : upd H2 D (.dT []) = H3 at I3 I4 pg pt pj pgj ptj pk pe w0 nfp f3
  generalize hs4 : ({ t3 with heap := pushCells (t3.heap.push { cls := .type "dict", data := .dict #[] }) sc.names } : Shared) = t4 at I4 ⊢
  have a4 : tn 0 t4.heap := T.keep _ _ _ a3 fun b _ o e => by rw [← hs4]; exact pushCells_keeps _ _ _ _ (Heap.get?_push_of_some _ e)
  have nofp : ∀ {σ' : L2.St} {H' : Hp} {z : Shared}, Inv (Y.blk t3 H3 sc ce fp) [] σ' H' z → (∀ b ∈ fp, H' b = none) → ∀ b ∈ fp, FpOk (Y.blk t3 H3 sc ce fp) [] H' b := fun {σ' H' z} I' hn b hb =>
    ⟨hn b hb, (I'.ok.exf b hb).1, I'.ok.exfs b hb, .inl hb, fun x c e => (I'.ok.exf b hb).2 x c e, fun p hp => by cases hp⟩
  have outer : codeAny (model Y.prog Y.w) Y.A (.compLoop (dcx ek ev u0 j0 u1 j1 cs0 cs1 sc po) 0 (.ref it) (.ref D) ce) (compPost (model Y.prog Y.w) Y.A Y.xe use Qf (.ref D) C) t4 := by
    refine loop0 (hs1 ce) (fun n z => ∃ i H', Inv (Y.blk t3 H3 sc ce fp) [] (wipe σ (own.map (·.2))) H' z ∧ tn i z.heap ∧ (∀ b ∈ fp, H' b = none) ∧ W i n H') ?_ m0 ⟨0, H3, I4, a4, nfp, w0⟩
    rintro n t5 ⟨i, H5, I5, a5, n5, w5⟩
    rcases turn i n H5 w5 with ⟨stop, qq⟩ | ⟨go, Nx, hNx, step⟩
    · refine thnF (T.done (Y.blk t3 H3 sc ce fp) rfl rfl rfl hc i [] t5 _ H5 (fun _ _ => False) I5 (nofp I5 n5) a5 stop) fun r t6 ⟨hr, I6⟩ => ?_
      subst hr
      have I7 : Inv Y ps σ H5 t6 := I3.call' (ch := fp) I6.os I6.base I6.hok I6.bare fun b hb => by
        obtain ⟨_, g1, _, g3, g4, g5⟩ := (f3 b hb).1
        exact ⟨g3, g1, g4, g5⟩
      have nC : H5 C = none := by
        have zz : H5 ce.locals = none := I6.free
        rwa [cL] at zz
      obtain ⟨m, hn, _⟩ := I6.loc
      replace hn : t6.heap.Ns ce.locals m := hn
      rw [cL] at hn
      exact fin D C t6 m H5 I7 qq hn (I3.fpOk (Nat.le_of_eq eC) nC)
    · refine thnF (T.item (Y.blk t3 H3 sc ce fp) rfl rfl rfl hc i [] t5 _ H5 (fun _ _ => False) I5 (nofp I5 n5) a5 go) fun r t6 ⟨u, hr, h6⟩ => ?_
      subst hr
      refine thnF h6 fun _ t7 ⟨x, H7, I7, r7, y7, a7, n7⟩ => ?_
      refine thnF (pg.run _ t7 _ H7 x u _ (I7.pinned (nofp I7 n7) (T.obj _ _ a7)) r7 (step x H7 y7)) fun _ t8 ⟨σ8, H8, I8, hw8, q8⟩ => ?_
      refine thnF (pt.run _ t8 σ8 H8 _ I8 q8) fun b t9 ⟨H9, I9, q9⟩ => ?_
      have back : ∀ {σ9 : L2.St} {z : Shared} {H' : Hp}, Inv (Y.blk t3 H3 sc ce fp) ([] ++ pinsAt fp t7.heap) σ9 H' z → (wipe σ (own.map (·.2))).length = σ9.length → (∀ (j : Nat) v, (wipe σ (own.map (·.2)))[j]? = some (some v) → σ9[j]? = some (some v)) → Nx H' →
          ∃ m, m < n ∧ ∃ i H', Inv (Y.blk t3 H3 sc ce fp) [] (wipe σ (own.map (·.2))) H' z ∧ tn i z.heap ∧ (∀ b ∈ fp, H' b = none) ∧ W i m H' := fun {σ9 z H'} I' hl hkk nx => by
        obtain ⟨m', hm, w'⟩ := hNx H' nx
        have pinned : ∀ b ∈ fp, ∀ o, t7.heap.get? b = some o → z.heap.get? b = some o ∧ H' b = none := fun b hb o e => by
          have y := I'.pin (b, o) (List.mem_append_right _ (List.mem_append_right _ (mem_pinsAt hb e)))
          exact ⟨y.1, y.2.1⟩
        refine ⟨m', hm, i + 1, H', (I'.unpinned (pins := [])).weak hl hkk, T.keep _ _ _ a7 fun b hb o e => (pinned b hb o e).1, fun b hb => ?_, w'⟩
        obtain ⟨o, e, _⟩ := T.obj _ _ a7 b hb
        exact (pinned b hb o e).2
      have l8 : (wipe σ (own.map (·.2))).length = σ8.length := by rw [← hw8, wipe_length]
      cases b with
      | false => exact back I9 l8 (fun j v e => by rw [← hw8] at e; exact (wipe_some e).1) q9
      | true =>
        refine thnF (pj.run _ t9 σ8 H9 _ I9 q9) fun xv t10 hx => thnF hx fun iv t11 h11 => ?_
        obtain ⟨ij, fj, nj, L, H11, e1, I11, S, b11, f11, U, ⟨m1, w1⟩, turnj⟩ := h11
        subst e1
        have nofj : ∀ {H' : Hp}, (∀ b ∈ fj, H' b = none) → ∀ b ∈ fj, FpOk (Y.blk t3 H3 sc ce fp) ([] ++ pinsAt fp t7.heap) H' b := fun hn b hb => ⟨hn b hb, (f11 b hb).2⟩
        have inner : codeAny (model Y.prog Y.w) Y.A (.compLoop (dcx ek ev u0 j0 u1 j1 cs0 cs1 sc po) 1 (.ref ij) (.ref D) ce) (fun r z => match r with
              | .ok _ => ∃ m, m < n ∧ ∃ i H', Inv (Y.blk t3 H3 sc ce fp) [] (wipe σ (own.map (·.2))) H' z ∧ tn i z.heap ∧ (∀ b ∈ fp, H' b = none) ∧ W i m H'
              | .error _ => False) t11 := by
          refine loop1 (fun n1 z => ∃ j H', Inv (Y.blk t3 H3 sc ce fp) ([] ++ pinsAt fp t7.heap) (wipe σ8 us) H' z ∧ nj j z.heap ∧ (∀ b ∈ fj, H' b = none) ∧ U j n1 H') ?_ m1 ⟨0, H11, I11.weak (wipe_length _ _) (fun j v e => (wipe_some e).1), b11, fun b hb => (f11 b hb).1, w1⟩
          rintro n1 t12 ⟨j, H12, I12, b12, n12, w12⟩
          rcases turnj j n1 H12 w12 with ⟨stopj, nx1⟩ | ⟨goj, Ny, hNy, stepj⟩
          · refine thnF (S.done (Y.blk t3 H3 sc ce fp) rfl rfl rfl hc j _ t12 (wipe σ8 us) H12 (fun _ _ => False) I12 (nofj n12) b12 stopj) fun r t13 ⟨hr, I13⟩ => ?_
            subst hr
            refine back I13 (l8.trans (wipe_length σ8 us).symm) (fun j v e => ?_) nx1
            rw [← hw8] at e
            obtain ⟨g1, g2⟩ := wipe_some e
            rw [wipe_out fun zz => g2 (hv j zz)]
            exact g1
          · refine thnF (S.item (Y.blk t3 H3 sc ce fp) rfl rfl rfl hc j _ t12 (wipe σ8 us) H12 (fun _ _ => False) I12 (nofj n12) b12 goj) fun r t13 ⟨v1, hr, h13⟩ => ?_
            subst hr
            refine thnF h13 fun _ t14 ⟨x1, H14, I14, r14, y14, b14, n14⟩ => ?_
            refine thnF (pgj.run _ t14 (wipe σ8 us) H14 x1 v1 _ (I14.pinned (nofj n14) (S.obj _ _ b14)) r14 (stepj x1 H14 y14)) fun _ t15 ⟨σ15, H15, I15, hw15, q15⟩ => ?_
            refine thnF (ptj.run _ t15 σ15 H15 _ I15 q15) fun b1 t16 ⟨H16, I16, q16⟩ => ?_
            have backj : ∀ {z : Shared} {H' : Hp}, Inv (Y.blk t3 H3 sc ce fp) (([] ++ pinsAt fp t7.heap) ++ pinsAt fj t14.heap) σ15 H' z → Ny H' → ∃ m, m < n1 ∧ ∃ j H', Inv (Y.blk t3 H3 sc ce fp) ([] ++ pinsAt fp t7.heap) (wipe σ8 us) H' z ∧ nj j z.heap ∧ (∀ b ∈ fj, H' b = none) ∧ U j m H' := fun {z H'} I' nx => by
              obtain ⟨m', hm, w'⟩ := hNy H' nx
              have pinned : ∀ b ∈ fj, ∀ o, t14.heap.get? b = some o → z.heap.get? b = some o ∧ H' b = none := fun b hb o e => by
                have y := I'.pin (b, o) (List.mem_append_right _ (List.mem_append_right _ (mem_pinsAt hb e)))
                exact ⟨y.1, y.2.1⟩
              refine ⟨m', hm, j + 1, H', I'.unpinned.weak (by rw [← hw15, wipe_length]) (fun j v e => by rw [← hw15] at e; exact (wipe_some e).1), S.keep _ _ _ b14 fun b hb o e => (pinned b hb o e).1, fun b hb => ?_, w'⟩
              obtain ⟨o, e, _⟩ := S.obj _ _ b14 b hb
              exact (pinned b hb o e).2
            cases b1 with
            | false => exact backj I16 q16
            | true =>
              refine thnF (pk.run _ t16 σ15 H16 _ I16 q16) fun kq t17 ⟨yk, H17, I17, r17, q17⟩ => ?_
              refine thnF (pe.run _ t17 σ15 H17 _ I17 q17) fun vq t18 ⟨yv, H18, I18, r18, kvs, k, ka, ek', hka, hD18, hz18, nx⟩ => ?_
              subst ek'
              cases (show kq = Value.ref ka from r17)
              exact dsetT (Y := Y.blk t3 H3 sc ce fp) hu I18 hD18 hka hz18 r18 fun t19 I19 => backj I19 nx
        exact start1 inner (S.self Y.A 0 _ _ _ b11 inner)
  exact codeAny_compStart_dict outer (T.self Y.A 0 _ _ _ a4 outer)
theorem pe_dc2 {ek ev u0 j0 u1 j1 : Expr} {cs0 cs1 : List Expr} {sc : Scope} {own : List (Str × Nat)} {us : List Nat} {po : Pos} {wi wj : TI} {g gj : TG} {tt tj : TT} {tk tv : TE} (hc : Y.calm = true) (hu : Y.A.units < cLine) (hN : Y.N.Nodup) (hi : PI Y u0 j0 wi) (ok : BlkOk Y.N Y.env.scope sc own) (hv : ∀ i ∈ us, i ∈ own.map (·.2))
    (hg : ∀ s H C cl fp, PG (Y.blk s H sc (compEnvC sc cl C Y.env) fp) u0 g) (ht : ∀ s H C cl fp, PTs (Y.blk s H sc (compEnvC sc cl C Y.env) fp) cs0 tt)
    (hj : ∀ s H C cl fp, PI (Y.blk s H sc (compEnvC sc cl C Y.env) fp) u1 j1 wj) (hgj : ∀ s H C cl fp, PG (Y.blk s H sc (compEnvC sc cl C Y.env) fp) u1 gj) (htj : ∀ s H C cl fp, PTs (Y.blk s H sc (compEnvC sc cl C Y.env) fp) cs1 tj)
    (hk : ∀ s H C cl fp, PE (Y.blk s H sc (compEnvC sc cl C Y.env) fp) ek tk) (he : ∀ s H C cl fp, PE (Y.blk s H sc (compEnvC sc cl C Y.env) fp) ev tv)
    (hs : ∀ x, foldedSetIterable j0 Y.env x = pure x := by intro _; rfl) (hs1 : ∀ env x, foldedSetIterable j1 env x = pure x := by intro _ _; rfl) :
    PE Y (.DictComp ek ev [⟨u0, j0, cs0, 0⟩, ⟨u1, j1, cs1, 0⟩] sc po) (tDc2 wi g tt wj gj tj tk tv (own.map (·.2)) us) := by
  refine ⟨fun ps st σ H Q I h => ?_⟩
  rw [arm_eval_DictComp]
  refine dc2_run hc hu hN I hi ok hv hg ht hj hgj htj hk he hs hs1 h fun D C z m H' I' q hn f => ⟨m, hn, fun h'' sb => ?_⟩
  obtain ⟨g0, g1, g2, g3, g4, g5⟩ := f
  exact ⟨.ref D, H', I'.turned (t' := z.toks) (fun b o hb e => (sb.2 b hb).trans e) g0 g1 g3 g4 g5, rfl, q⟩
end
end AR
namespace AR
open PySem PySem.Spec PyProof.Rows L2
/-- the pairs put one behind another -/
def buildK (kf : Nat → Key) (vf : Nat → V) : Nat → List (Key × V)
  | 0 => []
  | i + 1 => putK (buildK kf vf i) (kf i) (vf i)
theorem buildK_len (kf : Nat → Key) (vf : Nat → V) : ∀ i, (buildK kf vf i).length ≤ i
  | 0 => Nat.le_refl _
  | i + 1 => Nat.le_trans (length_putK _ _ _) (Nat.succ_le_succ (buildK_len kf vf i))
section
variable {J : It} {n : Nat} {G : Hp → Prop} {Y : Nat → Hp → V → Hp → Prop} {g : TG} {tt : TT} {tk tv : TE} {vs : List Nat} {σ : L2.St} {H1 : Hp} {Qd : Addr → Hp → Prop}
def DcAsk (J : It) (g : TG) (tt : TT) (tk tv : TE) (vs : List Nat) (σ : L2.St) (H1 : Hp) (Qd : Addr → Hp → Prop) : Prop :=
  ∀ D, H1 D = none → ∃ W : Nat → Nat → Hp → Prop, (∃ m, W 0 m (upd H1 D (.dK []))) ∧ ∀ i m H, W i m H →
    (J.stop i H ∧ Qd D H) ∨ (J.go i H ∧ ∃ Nx : Hp → Prop, (∀ H', Nx H' → ∃ m', m' < m ∧ W (i + 1) m' H') ∧ ∀ x H', J.yld i H x H' → g x (wipe σ vs) H' fun σ2 H2 => wipe σ2 vs = wipe σ vs ∧ tt σ2 H2 fun b H3 =>
      if b = true then tk σ2 H3 fun y H4 => tv σ2 H4 fun z H5 => ∃ kvs k, y = kV k ∧ H5 D = some (.dK kvs) ∧ kvs.length < sizeLine ∧ Nx (upd H5 D (.dK (putK kvs k z))) else Nx H3)
theorem i_dc {wi : TI} {H : Hp} {Q : VK} (k : wi σ H fun J H1 => DcAsk J g tt tk tv vs σ H1 fun D H' => Q (.ref D) H') : tDc wi g tt tk tv vs σ H Q := k
/-- a dict comprehension that leaves all as it was, its pairs told by their places -/
theorem dcS (w : Walk J n G Y) (kf : Nat → Key) (vf : Nat → V) (hn : n ≤ sizeLine) (hG : ∀ H, Same H1 H → G H)
    (hs : ∀ i x H H' (C : V → V → Hp → Prop) (N : Hp → Prop), i < n → Same H1 H → Y i H x H' → (∀ H5, Same H H5 → C (kV (kf i)) (vf i) H5) →
      g x (wipe σ vs) H' fun σ2 H2 => wipe σ2 vs = wipe σ vs ∧ tt σ2 H2 fun b H3 => if b = true then tk σ2 H3 fun y H4 => tv σ2 H4 fun z H5 => C y z H5 else N H3)
    (hd : ∀ D H', H1 D = none → Same H1 H' → H' D = some (.dK (buildK kf vf n)) → Qd D H') : DcAsk J g tt tk tv vs σ H1 Qd := by
  intro D hD
  refine ⟨fun i m H => m = n - i ∧ i ≤ n ∧ Same H1 H ∧ H D = some (.dK (buildK kf vf i)), ⟨n, by simp, Nat.zero_le _, same_new hD, upd_same⟩, ?_⟩
  rintro i m H ⟨rfl, hi, sm, hB⟩
  have q := hG H sm
  by_cases hlt : i < n
  · refine .inr ⟨w.goes i H hlt q, fun H' => Same H1 H' ∧ H' D = some (.dK (buildK kf vf (i + 1))), fun H' h => ⟨n - (i + 1), by omega, rfl, by omega, h.1, h.2⟩, fun x H' y => ?_⟩
    refine hs i x H H' _ _ hlt sm (w.yields i H x H' hlt q y) fun H5 s5 => ?_
    refine ⟨buildK kf vf i, kf i, rfl, s5 _ _ hB, ?_, same_mut (sm.trans s5) hD, by rw [upd_same]; rfl⟩
    have := buildK_len kf vf i
    omega
  · have e : i = n := by omega
    subst e
    exact .inl ⟨w.stops H q, hd D H hD sm hB⟩
end
/-- keys that differ: the pairs stand as they come -/
theorem buildK_nodup {kf : Nat → Key} {vf : Nat → V} : ∀ n, (∀ i j, i < j → j < n → kf i ≠ kf j) → buildK kf vf n = (List.range n).map fun i => (kf i, vf i)
  | 0, _ => rfl
  | n + 1, h => by
    have ih := buildK_nodup (kf := kf) (vf := vf) n fun i j a b => h i j a (by omega)
    show putK (buildK kf vf n) (kf n) (vf n) = _
    rw [ih, putK_new]
    · rw [List.range_succ, List.map_append]; rfl
    · cases e : valV ((List.range n).map fun i => (kf i, vf i)) (kf n) with
      | none => rfl
      | some v =>
        unfold valV at e
        obtain ⟨p, hp, _⟩ := Option.map_eq_some_iff.mp e
        have hm := List.mem_of_find?_eq_some hp
        obtain ⟨i, hi, rfl⟩ := List.mem_map.mp hm
        have := List.find?_some hp
        exact absurd (of_decide_eq_true this) (h i n (List.mem_range.mp hi) (by omega))
end AR
namespace AR
open PySem PySem.Spec PyProof.Rows L2
/-- the pairs of the rows below i, and of row i below j -/
def upTo (kf : Nat → Nat → List Key) (vf : Nat → Nat → V) (m : Nat → Nat) (i j : Nat) : List (List Key × V) :=
  ((List.range i).flatMap fun a => (List.range (m a)).map fun c => (kf a c, vf a c)) ++ (List.range j).map fun c => (kf i c, vf i c)
theorem upTo_next (kf : Nat → Nat → List Key) (vf : Nat → Nat → V) (m : Nat → Nat) (i j : Nat) : upTo kf vf m i (j + 1) = upTo kf vf m i j ++ [(kf i j, vf i j)] := by
  unfold upTo
  rw [List.range_succ, List.map_append, ← List.append_assoc]
  rfl
theorem upTo_row (kf : Nat → Nat → List Key) (vf : Nat → Nat → V) (m : Nat → Nat) (i : Nat) : upTo kf vf m (i + 1) 0 = upTo kf vf m i (m i) := by
  unfold upTo
  rw [List.range_succ, List.flatMap_append]
  simp
def mergeT (ps : List (List Key × V)) : List (List Key × V) := ps.foldl (fun acc p => putK acc p.1 p.2) []
theorem mergeT_snoc (ps : List (List Key × V)) (k : List Key) (v : V) : mergeT (ps ++ [(k, v)]) = putK (mergeT ps) k v := by
  unfold mergeT
  rw [List.foldl_append]
  rfl
theorem mergeT_len : ∀ ps : List (List Key × V), (mergeT ps).length ≤ ps.length := by
  have key : ∀ (ps acc : List (List Key × V)), (ps.foldl (fun acc p => putK acc p.1 p.2) acc).length ≤ acc.length + ps.length := by
    intro ps
    induction ps with
    | nil => intro acc; exact Nat.le_refl _
    | cons p r ih =>
      intro acc
      have h1 := ih (putK acc p.1 p.2)
      have h2 := length_putK acc p.1 p.2
      show (r.foldl (fun acc p => putK acc p.1 p.2) (putK acc p.1 p.2)).length ≤ _
      rw [List.length_cons]
      omega
  intro ps
  have := key ps []
  rw [List.length_nil] at this
  unfold mergeT
  omega
section
variable {J : It} {n : Nat} {G : Hp → Prop} {Y : Nat → Hp → V → Hp → Prop} {wj : TI} {g gj : TG} {tt tj : TT} {tk tv : TE} {vs us : List Nat} {σ : L2.St} {H1 : Hp} {Qd : Addr → Hp → Prop}
/-- the inner clause's loop -/
def InAsk (L : It) (gj : TG) (tj : TT) (tk tv : TE) (us : List Nat) (σ2 : L2.St) (H4 : Hp) (D : Addr) (Nx : Hp → Prop) : Prop := ∃ U : Nat → Nat → Hp → Prop, (∃ m, U 0 m H4) ∧ ∀ j n H, U j n H →
      (L.stop j H ∧ Nx H) ∨ (L.go j H ∧ ∃ Ny : Hp → Prop, (∀ H', Ny H' → ∃ n', n' < n ∧ U (j + 1) n' H') ∧ ∀ x H', L.yld j H x H' → gj x (wipe σ2 us) H' fun σ3 H5 => wipe σ3 us = wipe σ2 us ∧ tj σ3 H5 fun b H6 =>
        if b = true then tk σ3 H6 fun y H7 => tv σ3 H7 fun z H8 => ∃ kvs k a, y = .ref a ∧ H8 a = some (.tup (k.map kV)) ∧ H8 D = some (.dT kvs) ∧ kvs.length < sizeLine ∧ Ny (upd H8 D (.dT (putK kvs k z))) else Ny H6)
def Dc2Ask (J : It) (g : TG) (tt : TT) (wj : TI) (gj : TG) (tj : TT) (tk tv : TE) (vs us : List Nat) (σ : L2.St) (H1 : Hp) (Qd : Addr → Hp → Prop) : Prop :=
  ∀ D, H1 D = none → ∃ W : Nat → Nat → Hp → Prop, (∃ m, W 0 m (upd H1 D (.dT []))) ∧ ∀ i m H, W i m H →
  (J.stop i H ∧ Qd D H) ∨ (J.go i H ∧ ∃ Nx : Hp → Prop, (∀ H', Nx H' → ∃ m', m' < m ∧ W (i + 1) m' H') ∧ ∀ x H', J.yld i H x H' → g x (wipe σ vs) H' fun σ2 H2 => wipe σ2 vs = wipe σ vs ∧ tt σ2 H2 fun b H3 =>
    if b = true then wj σ2 H3 fun L H4 => InAsk L gj tj tk tv us σ2 H4 D Nx else Nx H3)
theorem i_dc2 {wi : TI} {H : Hp} {Q : VK} (k : wi σ H fun J H1 => Dc2Ask J g tt wj gj tj tk tv vs us σ H1 fun D H' => Q (.ref D) H') : tDc2 wi g tt wj gj tj tk tv vs us σ H Q := k
/-- all stays but the new dict -/
def SameD (D : Addr) (H H' : Hp) : Prop := ∀ a o, H a = some o → a ≠ D → H' a = some o
theorem dc2S (w : Walk J n G Y) (kf : Nat → Nat → List Key) (vf : Nat → Nat → V) (m : Nat → Nat) (hn : (upTo kf vf m n 0).length ≤ sizeLine) (hm : ∀ i, i < n → ∀ j, j < m i → (upTo kf vf m i j).length < sizeLine) (hG : ∀ H, Same H1 H → G H)
    (hs : ∀ D i x H H' (R : L2.St → It → Hp → Prop) (N : Hp → Prop), i < n → Same H1 H → Y i H x H' → (∀ σ2 L H4 Gj Yj, Walk L (m i) Gj Yj → Same H H4 → (∀ H5, SameD D H4 H5 → Gj H5) →
        (∀ j x H5 H6 (C : V → V → Hp → Prop) (N : Hp → Prop), j < m i → SameD D H4 H5 → Yj j H5 x H6 → (∀ a H8, Same H5 H8 → H8 a = some (.tup ((kf i j).map kV)) → C (.ref a) (vf i j) H8) →
          gj x (wipe σ2 us) H6 fun σ3 H7 => wipe σ3 us = wipe σ2 us ∧ tj σ3 H7 fun b H9 => if b = true then tk σ3 H9 fun y H10 => tv σ3 H10 fun z H11 => C y z H11 else N H9) → R σ2 L H4) →
      g x (wipe σ vs) H' fun σ2 H2 => wipe σ2 vs = wipe σ vs ∧ tt σ2 H2 fun b H3 => if b = true then wj σ2 H3 fun L H4 => R σ2 L H4 else N H3)
    (hd : ∀ D H', H1 D = none → Same H1 H' → H' D = some (.dT (mergeT (upTo kf vf m n 0))) → Qd D H') : Dc2Ask J g tt wj gj tj tk tv vs us σ H1 Qd := by
  intro D hD
  refine ⟨fun i q H => q = n - i ∧ i ≤ n ∧ Same H1 H ∧ H D = some (.dT (mergeT (upTo kf vf m i 0))), ⟨n, by simp, Nat.zero_le _, same_new hD, upd_same⟩, ?_⟩
  rintro i q H ⟨rfl, hi, sm, hB⟩
  have gq := hG H sm
  by_cases hlt : i < n
  · refine .inr ⟨w.goes i H hlt gq, fun H' => Same H1 H' ∧ H' D = some (.dT (mergeT (upTo kf vf m (i + 1) 0))), fun H' h => ⟨n - (i + 1), by omega, rfl, by omega, h.1, h.2⟩, fun x H' y => ?_⟩
    refine hs D i x H H' _ _ hlt sm (w.yields i H x H' hlt gq y) fun σ2 L H4 Gj Yj wL s4 hGj step => ?_
    have sm4 := sm.trans s4
    refine ⟨fun j q H5 => q = m i - j ∧ j ≤ m i ∧ Same H1 H5 ∧ SameD D H4 H5 ∧ H5 D = some (.dT (mergeT (upTo kf vf m i j))), ⟨m i, by simp, Nat.zero_le _, sm4, fun _ _ h _ => h, s4 _ _ hB⟩, ?_⟩
    rintro j q H5 ⟨rfl, hj, sm5, sd, hB5⟩
    have gj5 := hGj H5 sd
    by_cases hjl : j < m i
    · refine .inr ⟨wL.goes j H5 hjl gj5, fun H' => Same H1 H' ∧ SameD D H4 H' ∧ H' D = some (.dT (mergeT (upTo kf vf m i (j + 1)))), fun H' h => ⟨m i - (j + 1), by omega, rfl, by omega, h.1, h.2.1, h.2.2⟩, fun x H6 y6 => ?_⟩
      refine step j x H5 H6 _ _ hjl sd (wL.yields j H5 x H6 hjl gj5 y6) fun a H8 s8 ha => ?_
      refine ⟨_, kf i j, a, rfl, ha, s8 _ _ hB5, Nat.lt_of_le_of_lt (mergeT_len _) (hm i hlt j hjl), same_mut (sm5.trans s8) hD, fun c o hc nc => ?_, ?_⟩
      · rw [upd_ne nc]
        exact s8 _ _ (sd c o hc nc)
      · rw [upd_same, upTo_next, mergeT_snoc]
    · have e : j = m i := by omega
      subst e
      refine .inl ⟨wL.stops H5 gj5, sm5, ?_⟩
      rw [upTo_row]
      exact hB5
  · have e : i = n := by omega
    subst e
    exact .inl ⟨w.stops H gq, hd D H hD sm hB⟩
end
end AR
namespace AR
open PySem PySem.Spec PyProof.Rows L2
/-! ### enumerate over a text, a list -/
def ItE (K : PySem.W.Frag) (s1 : Src) (xs : List V) : It :=
  ⟨fun i H => s1.has K H xs ∧ i < xs.length, fun i H v H' => ∃ T x, v = .ref T ∧ H T = none ∧ H' = upd H T (.tup [.int (i : Nat), x]) ∧ xs[i]? = some x, fun i H => s1.has K H xs ∧ i = xs.length⟩
def YEnum (xs : List V) : Nat → Hp → V → Hp → Prop := fun i H v H' => ∃ T x, v = .ref T ∧ H T = none ∧ H' = upd H T (.tup [.int (i : Nat), x]) ∧ xs[i]? = some x
theorem walk_E {K : PySem.W.Frag} {s1 : Src} {xs : List V} : Walk (ItE K s1 xs) xs.length (fun H => s1.has K H xs) (YEnum xs) :=
  ⟨fun i H hi q => ⟨q, hi⟩, fun H q => ⟨q, rfl⟩, fun i H v H' _ _ y => y⟩
theorem turn_E {P : Program} {w : World} {K : PySem.W.Frag} {elts : List Expr} {kk : Nat} {tpos : Pos} {e it : Addr} {s1 : Src} {t1 : Tok} {xs : List V} (ne : e ≠ it) (nf : e ∉ it :: s1.fp) (n1 : ∀ b ∈ s1.fp, b ≠ it) :
    Turn P w K (.Tuple elts kk tpos) (ItE K s1 xs) [e, it] e (fun i h => (∃ old, IsEnum h e it (0 + ((i : Nat) : Int)) old) ∧ s1.at t1 it i h) where
  mem := by simp
  obj := fun i h st c hc => by
    obtain ⟨⟨old, he⟩, h1⟩ := st
    have e' : c = e ∨ c = it := by simpa using hc
    rcases e' with q | q
    · rw [q]; exact ⟨_, he, fun v q => nomatch q⟩
    · rw [q]; exact s1.at_live h1
  keep := fun i h h' st k => by
    obtain ⟨⟨old, he⟩, h1⟩ := st
    exact ⟨⟨old, k e (by simp) _ he⟩, s1.at_keep h1 fun o q => k it (by simp) o q⟩
  item := by
    intro X hP hw hK hc i pins s σ H E I hf st hg
    subst hP hw hK
    obtain ⟨⟨old, he⟩, h1⟩ := st
    obtain ⟨g1, hi⟩ := hg
    obtain ⟨it1, o1, r1, _, _⟩ := Src.given I s1 g1
    have D1 := Src.draws (P := X.prog) (w := X.w) (A := X.A.in1) (I.ok.hd hc) s1 t1 it it1 xs r1 n1
    have G := GoesN.enumFrom (elts := elts) (x1 := kk) (pos := tpos) 0 D1 e ne nf (by simp)
    refine G.goes i s (fun u s2' => ∃ x H', Inv X pins σ H' s2' ∧ RelV x u ∧ (ItE X.K s1 xs).yld i H x H' ∧ ((∃ old, IsEnum s2'.heap e it (0 + ((i + 1 : Nat) : Int)) old) ∧ s1.at t1 it (i + 1) s2'.heap) ∧ ∀ b ∈ [e, it], H' b = none) E hi ⟨⟨old, he⟩, ⟨h1, o1⟩⟩ ?_
    rintro v h' tk ⟨T, t, u, rfl, hT, ⟨x, hx, rx⟩, isT⟩ ⟨en, ⟨a1, _⟩⟩ kept _
    have new : ObjOk X.prog X.w (upd H T (.tup [.int (i : Nat), x])) h' T (.tup [.int (i : Nat), x]) := ⟨by show 2 ≤ sizeLine; decide, [.int (0 + (i : Int)) t, u], .cons ⟨t, by rw [Int.zero_add]⟩ (.cons rx .nil), isT⟩
    have I1 : Inv X pins σ (upd H T (.tup [.int (i : Nat), x])) { s with heap := h', toks := tk } := I.turnedNew (t' := tk) (ch := [e, it]) (fun c o hb q => kept c o hb q) hf hT new
    refine ⟨.ref T, _, I1, rfl, ⟨T, x, rfl, I.hok.fresh hT, rfl, hx⟩, ⟨en, a1⟩, fun c hcm => ?_⟩
    have hlt : c ≠ T := by
      intro e2
      have e' : c = e ∨ c = it := by simpa using hcm
      have hl : c < s.heap.objs.size := by
        rcases e' with q | q
        · rw [q]; exact Heap.lt_size he
        · rw [q]; obtain ⟨_, e1, _⟩ := s1.at_live h1; exact Heap.lt_size e1
      rw [e2] at hl
      exact absurd (Nat.lt_of_lt_of_le hl hT) (Nat.lt_irrefl _)
    rw [upd_ne hlt]
    exact (hf c hcm).1
  done := by
    intro X hP hw hK hc i pins s σ H E I hf st hg
    subst hP hw hK
    obtain ⟨⟨old, he⟩, h1⟩ := st
    obtain ⟨g1, hi⟩ := hg
    obtain ⟨it1, o1, r1, _, _⟩ := Src.given I s1 g1
    have D1 := Src.draws (P := X.prog) (w := X.w) (A := X.A.in1) (I.ok.hd hc) s1 t1 it it1 xs r1 n1
    have G := GoesN.enumFrom (elts := elts) (x1 := kk) (pos := tpos) 0 D1 e ne nf (by simp)
    refine G.stops s (fun s' => Inv X pins σ H s') E (by rw [← hi]; exact ⟨⟨old, he⟩, ⟨h1, o1⟩⟩) fun h' tk kept _ => I.turnedL (t' := tk) (ch := [e, it]) (fun c o hb q => kept c o hb q) hf
  self := fun A i s Q E st h => let ⟨⟨_, he⟩, _⟩ := st; wpAny_pyIter_enum he h
def iEnumT (K : PySem.W.Frag) (ta : TA) : TI := fun σ H R => ta σ H fun vs H1 => ∃ z : Str, vs = [.str z] ∧ R (ItE K (.txt z) (chV z)) H1
theorem pi_enumT {X : Cx} (K : PySem.W.Frag) {e : Expr} {ta : TA} {p pos tpos : Pos} {elts : List Expr} {kk : Nat} (hg : Gl X "enumerate") (hm : X.mg "enumerate" = none) (ha : PA X [e] ta) (hK : X.K = K := by rfl) (hs : starEach [e] X.env = [(false, eval e X.env)] := by rfl) :
    PI X (.Tuple elts kk tpos) (.Call (.Name "enumerate" p) [e] [] pos) (iEnumT K ta) := by
  subst hK
  refine ⟨fun pins s σ H R I h => ?_⟩
  refine Call_ (ld_blt I hg hm boot_enumerate (PyProof.Rows.callWith_type1 (thn (ha.run pos pins s σ H _ I h) fun us s1 ⟨vs, H1, I1, r1, q1⟩ => ?_) hs rfl))
  obtain ⟨z, rfl, q⟩ := q1
  cases r1 with
  | cons r rr =>
    cases rr
    obtain ⟨t, rfl⟩ := r
    refine call_enumerate_str fun h' he hit hsz hk => wpAny_pyIter_enum he ?_
    have I2 : Inv X pins σ H1 { s1 with heap := h' } := I1.kept (t' := s1.toks) hk
    refine ⟨s1.heap.objs.size + 1, [s1.heap.objs.size + 1, s1.heap.objs.size], _, _, H1, rfl, I2, turn_E (t1 := t) (s1 := .txt z) (e := s1.heap.objs.size + 1) (it := s1.heap.objs.size) (Nat.succ_ne_self _) (fun hm => Nat.succ_ne_self _ (List.mem_singleton.mp hm)) (fun b hb => nomatch hb), ⟨⟨.none, he⟩, hit⟩, fun b hb => ?_, q⟩
    have e' : b = s1.heap.objs.size + 1 ∨ b = s1.heap.objs.size := by simpa using hb
    have hle : s1.heap.objs.size ≤ b := by
      rcases e' with z | z
      · rw [z]; exact Nat.le_add_right _ _
      · rw [z]; exact Nat.le_refl _
    exact I1.fpOk hle (I1.hok.fresh hle)
theorem i_enumT {K : PySem.W.Frag} {σ : L2.St} {H : Hp} {ta : TA} {R : It → Hp → Prop} (k : ta σ H fun vs H1 => ∃ z : Str, vs = [.str z] ∧ R (ItE K (.txt z) (chV z)) H1) : iEnumT K ta σ H R := k
end AR
/-! dict(zip(a, b)) of texts, lists, tuples -/
namespace AR
open PySem PySem.Spec PyProof.Rows L2
section
variable {prog : Program} {w : World} {A : Around} {z TI TO i1 i2 d : Addr} {fp1 fp2 : List Addr} {n1 n2 : Nat} {P1 P2 : Nat → Value → Prop} {St1 St2 : Nat → Heap → Prop}
theorem zip_pairSrc (hd : ∀ b, b = z ∨ b = TI ∨ b = TO ∨ b ∈ fp1 ∨ b ∈ fp2 → b ≠ d) (SP : ZipSep2 z TI TO i1 i2 fp1 fp2) (D1 : Draws prog w A.in1 i1 fp1 n1 P1 St1) (D2 : Draws prog w A.in1 i2 fp2 n2 P2 St2)
    (L1 : ∀ i h, St1 i h → ∃ o, h.get? i1 = some o) (L2' : ∀ i h, St2 i h → ∃ o, h.get? i2 = some o) :
    PairSrc prog w A z d [z, TO, i1, i2] (min n1 n2) (fun i x y => P1 i x ∧ P2 i y) (ZSt z TI TO i1 i2 d St1 St2) where
  off := fun hb => by
    have e' : d = z ∨ d = TO ∨ d = i1 ∨ d = i2 := by simpa using hb
    rcases e' with q | q | q | q
    · exact hd z (by simp) q.symm
    · exact hd TO (by simp) q.symm
    · exact hd i1 (by simp [SP.mem1]) q.symm
    · exact hd i2 (by simp [SP.mem2]) q.symm
  frame := fun i h h' st k => by
    obtain ⟨hz, hTI, st1, st2⟩ := st
    have kk : ∀ b o, (b = z ∨ b = TI ∨ b = TO ∨ b ∈ fp1 ∨ b ∈ fp2) → h.get? b = some o → h'.get? b = some o := fun b o hb e => k b o (hd b hb) e
    refine ⟨?_, kk TI _ (by simp) hTI, D1.frame _ _ _ st1 fun b hb o e => kk b o (by simp [hb]) e, D2.frame _ _ _ st2 fun b hb o e => kk b o (by simp [hb]) e⟩
    rcases hz with ⟨hz, a1, a2, hTO⟩ | ⟨T, f, oT, hz, hT, t1, t2, t3, t4⟩
    · exact .inl ⟨kk z _ (by simp) hz, a1, a2, kk TO _ (by simp) hTO⟩
    · exact .inr ⟨T, f, oT, kk z _ (by simp) hz, k T oT t4 hT, t1, t2, t3, t4⟩
  item := fun i s Q E hi st hdl hQ => by
    obtain ⟨hz, hTI, st1, st2⟩ := st
    have ni : ∀ c o, s.heap.get? c = some o → s.heap.objs.size ≠ c := fun c o e => Nat.ne_of_gt (Heap.lt_size e)
    obtain ⟨oi1, ei1⟩ := L1 _ _ st1
    obtain ⟨oi2, ei2⟩ := L2' _ _ st2
    rcases hz with ⟨hz, a1, a2, hTO⟩ | ⟨T, f, oT, hz, hT, t1, t2, t3, t4⟩
    · have hTy : s.TypeIs (.ref z) "zip" := ⟨_, hz, rfl⟩
      unfold pyNext
      refine wpAny_bind (wpAny_attempt (wpAny_callSpecial?_slot (name := Str.ofString "__next__") hTy F.slot_zip_next
        (wpAny_call_entry F.slot_zip_next hTy F.entry_zip_next
          (zipD2_next_item SP D1 D2 hz hTI hTO st1 st2 (by omega) (by omega) fun x y h' tk hx hy hz' hTO' sn1 sn2 ht hsz hk => wpAny_pure ?_) (F.args_zip_next_1 _))))
      refine hQ s.heap.objs.size x y h' tk ⟨hx, hy⟩ (.inl ⟨_, ht, rfl, _, rfl⟩) ⟨.inr ⟨_, false, _, hz', ht, ni z _ hz, ni i1 _ ei1, ni i2 _ ei2, Nat.ne_of_gt hdl⟩, hk TI _ SP.TIz SP.TITO SP.TIi1 SP.TIi2 hTI, sn1, sn2⟩ fun b o hb e => ?_
      simp only [List.mem_cons, List.not_mem_nil, or_false, not_or] at hb
      exact hk b o hb.1 hb.2.1 hb.2.2.1 hb.2.2.2 e
    · have hTy : s.TypeIs (.ref z) "zip" := ⟨_, hz, rfl⟩
      unfold pyNext
      refine wpAny_bind (wpAny_attempt (wpAny_callSpecial?_slot (name := Str.ofString "__next__") hTy F.slot_zip_next
        (wpAny_call_entry F.slot_zip_next hTy F.entry_zip_next
          (zipD_item_held SP D1 D2 hz hT hTI st1 st2 (by omega) (by omega) fun x y h' tk hx hy hz' sn1 sn2 ht hk => wpAny_pure ?_) (F.args_zip_next_1 _))))
      refine hQ s.heap.objs.size x y h' tk ⟨hx, hy⟩ (.inl ⟨_, ht, rfl, _, rfl⟩) ⟨.inr ⟨T, true, oT, hz', hk T oT t1 t2 t3 hT, t1, t2, t3, t4⟩, hk TI _ SP.TIz SP.TIi1 SP.TIi2 hTI, sn1, sn2⟩ fun b o hb e => ?_
      simp only [List.mem_cons, List.not_mem_nil, or_false, not_or] at hb
      exact hk b o hb.1 hb.2.2.1 hb.2.2.2 e
  done := fun s Q E st hQ => by
    obtain ⟨hz, hTI, st1, st2⟩ := st
    have hen : min n1 n2 = n1 ∨ min n1 n2 = n2 := by omega
    rcases hz with ⟨hz, a1, a2, hTO⟩ | ⟨T, f, oT, hz, hT, t1, t2, t3, t4⟩
    · have hTy : s.TypeIs (.ref z) "zip" := ⟨_, hz, rfl⟩
      unfold pyNext
      refine wpAny_bind (wpAny_attempt (wpAny_callSpecial?_slot (name := Str.ofString "__next__") hTy F.slot_zip_next
        (wpAny_call_entry F.slot_zip_next hTy F.entry_zip_next (zipD2_next_end SP D1 D2 hz hTI hTO st1 st2 (Nat.min_le_left _ _) (Nat.min_le_right _ _) hen fun h' tk e hk he => ?_) (F.args_zip_next_1 _))))
      obtain ⟨o, ho, hc⟩ := he
      refine wpAny_bind (wpAny_isInstance (T := "StopIteration") (b := true) ⟨o, ho, hc⟩ isSubtype_stop ?_)
      refine wpAny_pure (hQ h' tk fun b o hb e => ?_)
      simp only [List.mem_cons, List.not_mem_nil, or_false, not_or] at hb
      exact hk b o hb.1 hb.2.1 hb.2.2.1 hb.2.2.2 e
    · have hTy : s.TypeIs (.ref z) "zip" := ⟨_, hz, rfl⟩
      unfold pyNext
      refine wpAny_bind (wpAny_attempt (wpAny_callSpecial?_slot (name := Str.ofString "__next__") hTy F.slot_zip_next
        (wpAny_call_entry F.slot_zip_next hTy F.entry_zip_next (zipD_end_held SP D1 D2 hz hT hTI st1 st2 (Nat.min_le_left _ _) (Nat.min_le_right _ _) hen fun h' tk e hk he => ?_) (F.args_zip_next_1 _))))
      obtain ⟨o, ho, hc⟩ := he
      refine wpAny_bind (wpAny_isInstance (T := "StopIteration") (b := true) ⟨o, ho, hc⟩ isSubtype_stop ?_)
      refine wpAny_pure (hQ h' tk fun b o hb e => ?_)
      simp only [List.mem_cons, List.not_mem_nil, or_false, not_or] at hb
      exact hk b o hb.1 hb.2.2.1 hb.2.2.2 e
end
theorem Src.ok_there (c : Src) {items : Array Value} {h : Heap} (ok : c.ok items h) : ∀ b ∈ c.fp, ∃ o, h.get? b = some o := by
  cases c with
  | txt x => intro b hb; cases hb
  | lst a => intro b hb; obtain ⟨o, e, _⟩ := ok; rw [List.mem_singleton.mp hb]; exact ⟨o, e⟩
  | tup a => intro b hb; obtain ⟨o, e, _⟩ := ok; rw [List.mem_singleton.mp hb]; exact ⟨o, e⟩
section
variable {X : Cx}
/-- dict(zip(a, b)), b a tuple, the keys ints or texts -/
def tDictZ (K : PySem.W.Frag) (ta : TA) : TE := fun σ H Q => ta σ H fun vs H1 => ∃ (s1 : Src) (b : Addr) (xs ys : List V) (kvs : List (Key × V)), vs = [s1.v, .ref b] ∧ s1.has K H1 xs ∧ SqT K H1 b ys ∧ min xs.length ys.length ≤ sizeLine ∧
  kvs.length = min xs.length ys.length ∧ (∀ (j : Nat) k v, kvs[j]? = some (k, v) → xs[j]? = some (kV k) ∧ ys[j]? = some v) ∧ ∀ p, H1 p = none → Q (.ref p) (upd H1 p (.dK (mergeK [] kvs)))
theorem pe_dictZ {e e2 : Expr} {ta : TA} {p p2 pos pos2 : Pos} (hc : X.calm = true) (hg : Gl X "dict") (hm : X.mg "dict" = none) (hg2 : Gl X "zip") (hm2 : X.mg "zip" = none) (ha : PA X [e, e2] ta)
    (hs : starEach [.Call (.Name "zip" p2) [e, e2] [] pos2] X.env = (false, eval (.Call (.Name "zip" p2) [e, e2] [] pos2) X.env) :: starEach [] X.env := by rfl)
    (hs2 : starEach [e, e2] X.env = (false, eval e X.env) :: starEach [e2] X.env := by rfl) (hpl : (backTo pos2 (starEach [e2] X.env)).any (·.1) = false := by rfl) :
    PE X (.Call (.Name "dict" p) [.Call (.Name "zip" p2) [e, e2] [] pos2] [] pos) (tDictZ X.K ta) := by
  refine ⟨fun pins s σ H Q I h => ?_⟩
  refine wpAny_Call_Name_kw (ld_blt I hg hm (show bootBuiltins "dict" = some (.type "dict") by decide +kernel) ?_)
  refine PyProof.Rows.callWith_type1 ?_ hs rfl
  rw [hs]
  show wpAny _ _ (spliced ((false, eval (.Call (.Name "zip" p2) [e, e2] [] pos2) X.env) :: backTo pos (starEach [] X.env))) _ _ s
  refine Calls.spliced_cons ?_
  refine Call_ (ld_blt I hg2 hm2 PyProof.Rows.boot_zip (PyProof.Rows.callWith_type1 (thn (ha.run pos2 pins s σ H _ I h) fun us s1 ⟨vs, H1, I1, r1, q1⟩ => ?_) hs2 hpl))
  obtain ⟨c1, b, xs, ys, kvs, rfl, g1, g2, hn, kl, kk, q⟩ := q1
  cases r1 with
  | cons r rr =>
    cases rr with
    | cons r' rr =>
      cases rr
      obtain ⟨t1, e1⟩ := c1.is_of r
      obtain ⟨t2, e2⟩ := (Src.tup b).is_of r'
      obtain ⟨it1, o1, rl1, l1, _⟩ := Src.given I1 c1 g1
      obtain ⟨it2, o2, rl2, l2, _⟩ := Src.given I1 (.tup b) g2
      refine zip_begins2 (c1.begins t1 it1 e1) ((Src.tup b).begins t2 it2 e2) o1 o2 fun h' hz hTI hTO h1 h2 hsz hk => ?_
      refine Calls.spliced_nil ?_
      have hv2 : Vals ys it2.toList := rl2
      have ok1 : c1.ok it1 h' := (c1.begins t1 it1 e1).keeps _ _ o1 hk
      have ok2 : h'.IsTuple b it2 := ((Src.tup b).begins t2 it2 e2).keeps _ _ o2 hk
      have sep := zip_sep2 l1 l2
      have hl2 : it2.size = ys.length := by rw [hv2.length]; simp
      let OK : Heap → Prop := fun h => IsZip h (s1.heap.objs.size + 4) (s1.heap.objs.size + 2) (s1.heap.objs.size + 3) .none ∧ (∃ a1 a2, IsTupOf2 h (s1.heap.objs.size + 3) a1 a2) ∧ IsTupOf2 h (s1.heap.objs.size + 2) (.ref s1.heap.objs.size) (.ref (s1.heap.objs.size + 1)) ∧
        (c1.at t1 s1.heap.objs.size 0 h ∧ c1.ok it1 h) ∧ (h.IsTupleIter (s1.heap.objs.size + 1) b 0 ∧ h.IsTuple b it2)
      have PA : PairArg X.prog X.w "zip" (s1.heap.objs.size + 4) ((s1.heap.objs.size + 4) :: (s1.heap.objs.size + 2) :: (s1.heap.objs.size + 3) :: s1.heap.objs.size :: (c1.fp ++ [s1.heap.objs.size + 1, b])) [s1.heap.objs.size + 4, s1.heap.objs.size + 3, s1.heap.objs.size, s1.heap.objs.size + 1] (min xs.length it2.size)
          (fun i u v => (∃ x, xs[i]? = some x ∧ RelV x u) ∧ it2[i]? = some v) OK := {
        type := fun s ok => ⟨_, ok.1, rfl⟩
        notDict := by decide
        keep := fun h h' ok kp => by
          obtain ⟨g1, ⟨a1, a2, g2⟩, g3, ⟨g4, g5⟩, ⟨g6, g7⟩⟩ := ok
          exact ⟨kp _ _ g1, ⟨a1, a2, kp _ _ g2⟩, kp _ _ g3, ⟨c1.at_keep g4 fun o e => kp _ o e, (c1.begins t1 it1 e1).keeps _ _ g5 kp⟩, (Src.tup b).at_keep (t := t2) g6 fun o e => kp _ o e, ((Src.tup b).begins t2 it2 e2).keeps _ _ g7 kp⟩
        there := fun h ok c hc => by
          obtain ⟨g1, ⟨a1, a2, g2⟩, g3, ⟨g4, g5⟩, ⟨g6, g7⟩⟩ := ok
          simp only [List.mem_cons, List.mem_append, List.not_mem_nil, or_false] at hc
          rcases hc with q | q | q | q | q | q | q
          · rw [q]; exact ⟨_, g1⟩
          · rw [q]; exact ⟨_, g3⟩
          · rw [q]; exact ⟨_, g2⟩
          · rw [q]; obtain ⟨o, e, _⟩ := c1.at_live g4; exact ⟨o, e⟩
          · exact c1.ok_there g5 c q
          · rw [q]; obtain ⟨o, e, _⟩ := (Src.tup b).at_live (t := t2) g6; exact ⟨o, e⟩
          · rw [q]; obtain ⟨o, e, _⟩ := g7; exact ⟨o, e⟩
        sub := fun c hc => by
          simp only [List.mem_cons, List.not_mem_nil, or_false] at hc
          simp only [List.mem_cons, List.mem_append, List.not_mem_nil, or_false]
          rcases hc with q | q | q | q
          · exact .inl q
          · exact .inr (.inr (.inl q))
          · exact .inr (.inr (.inr (.inl q)))
          · exact .inr (.inr (.inr (.inr (.inr (.inl q)))))
        noKeys := fun A s Q E hA ok h => getAttrOr_miss_zip ok.1 rfl rfl rfl zip_no_keys (by decide +kernel) hA h
        iter := fun A s d Q E hA ok hd hdf h => by
          obtain ⟨g1, ⟨a1, a2, g2⟩, g3, ⟨g4, g5⟩, ⟨g6, g7⟩⟩ := ok
          have D1 := Src.draws (P := X.prog) (w := X.w) (A := A.in1) hA c1 t1 s1.heap.objs.size it1 xs rl1 (fun b hb => Nat.ne_of_lt (l1 b hb))
          have D2 := Draws.tuple (prog := X.prog) (w := X.w) (A := A.in1) hA (s1.heap.objs.size + 1) b (Nat.ne_of_lt (Nat.lt_succ_of_lt (l2 b (by simp [Src.fp])))) it2
          have S := zip_pairSrc (prog := X.prog) (w := X.w) (A := A) (d := d) (z := s1.heap.objs.size + 4) (TI := s1.heap.objs.size + 2) (TO := s1.heap.objs.size + 3) (fun c hc e => hdf (by
            rw [← e]
            simp only [List.mem_cons, List.mem_append, List.not_mem_nil, or_false] at hc ⊢
            rcases hc with q | q | q | (q | q) | q | q
            · exact .inl q
            · exact .inr (.inl q)
            · exact .inr (.inr (.inl q))
            · exact .inr (.inr (.inr (.inl q)))
            · exact .inr (.inr (.inr (.inr (.inl q))))
            · exact .inr (.inr (.inr (.inr (.inr (.inl q)))))
            · exact .inr (.inr (.inr (.inr (.inr (.inr (List.mem_singleton.mp q))))))) ) sep D1 D2 D1.live D2.live
          exact wpAny_pyIter_zip g1 (h _ _ _ s.heap s.toks S ⟨.inl ⟨g1, a1, a2, g2⟩, g3, ⟨g4, g5⟩, ⟨g6, g7⟩⟩ (fun _ _ e => e) fun c hc => .inl hc) }
      have okNow : OK h' := ⟨hz, ⟨_, _, hTO⟩, hTI, ⟨c1.at_obj t1 h1, ok1⟩, ((Src.tup b).at_obj t2 h2), ok2⟩
      have klen : (List.zipWith (fun kv u => (kv.1, u)) kvs it2.toList).length = kvs.length := by
        rw [List.length_zipWith]
        have e : it2.toList.length = ys.length := by rw [← hl2]; simp
        rw [e, kl]
        omega
      have rel : KV kvs (List.zipWith (fun (kv : Key × V) u => (kv.1, u)) kvs it2.toList) := by
        refine paired_of_get klen.symm fun j a b ha hb => ?_
        rw [List.getElem?_zipWith, ha] at hb
        cases eu : it2.toList[j]? with
        | none => rw [eu] at hb; cases hb
        | some u =>
          rw [eu] at hb
          cases hb
          obtain ⟨u2, hu2, rv⟩ := hv2.get (kk j a.1 a.2 ha).2
          rw [eu] at hu2
          cases hu2
          exact ⟨rfl, rv⟩
      refine call_dict_pairs (s := { s1 with heap := h' }) (knd := mixKind X.prog X.w) (kvs := List.zipWith (fun (kv : Key × V) u => (kv.1, u)) kvs it2.toList) PA (I1.ok.hd hc) okNow ⟨by rw [klen, kl, hl2], ?_⟩ (by rw [hl2]; exact hn) fun h'' tk dd hk2 => ?_
      · rintro i key v ⟨⟨x, hx, rx⟩, hv⟩
        have i1 := (List.getElem?_eq_some_iff.mp hx).1
        have i2 : i < it2.size := (Array.getElem?_eq_some_iff.mp hv).1
        have ik : i < kvs.length := by rw [kl]; omega
        have hkv := List.getElem?_eq_getElem ik
        have hxk := (kk i kvs[i].1 kvs[i].2 hkv).1
        rw [hx] at hxk
        cases hxk
        refine ⟨kvs[i].1, ?_, kV_is rx⟩
        rw [List.getElem?_zipWith, hkv, Array.getElem?_toList, hv]
      · have keep : ∀ c o, s1.heap.get? c = some o → h''.get? c = some o := fun c o ec => hk2 c o (fun hb => by
          have lt := Heap.lt_size ec
          simp only [List.mem_cons, List.not_mem_nil, or_false] at hb
          rcases hb with q | q | q | q <;> (rw [q] at lt; exact absurd lt (by first | exact Nat.lt_irrefl _ | exact Nat.not_lt.mpr (Nat.le_add_right _ _)))) (hk c o ec)
        have big : s1.heap.objs.size ≤ h'.objs.size := by rw [hsz]; exact Nat.le_add_right _ _
        have hz : (mergeK [] kvs).length ≤ sizeLine := by
          have h1 := length_mergeK kvs []
          rw [List.length_nil] at h1
          omega
        have hd : (h'.objs.size == sysModules) = false := beq_eq_false_iff_ne.mpr (Nat.ne_of_gt (Nat.lt_of_lt_of_le I1.big big))
        exact ⟨.ref h'.objs.size, _, I1.laid (t' := tk) keep big (dk_new hz hd (rel.merge .nil) dd), rfl, q _ (I1.hok.fresh big)⟩
end
end AR
namespace AR
open PySem PySem.Spec PyProof.Rows L2
section
variable {J : It} {n : Nat} {G : Hp → Prop} {Y : Nat → Hp → V → Hp → Prop} {g : TG} {tt : TT} {te tk tv : TE} {vs : List Nat} {σ : L2.St} {H1 : Hp} {Qd : Addr → Hp → Prop}
/-- a comprehension whose elements are new objects: Pe tells of each, in the heap; all else stays -/
theorem lcP (w : Walk J n G Y) (Pe : Nat → Hp → V → Prop) (hn : n ≤ sizeLine) (hk : ∀ i H H' y, Same H H' → Pe i H y → Pe i H' y) (hm : ∀ D i H o xs y, H D = some (.lst xs) → Pe i H y → Pe i (upd H D o) y)
    (hG : ∀ H, Same H1 H → G H)
    (hs : ∀ D i x H H' (C : VK) (N : Hp → Prop), i < n → Same H1 H → H1 D = none → Y i H x H' → (∀ y H4, Same H H4 → Pe i H4 y → C y H4) →
      g x (wipe σ vs) H' fun σ2 H2 => wipe σ2 vs = wipe σ vs ∧ tt σ2 H2 fun b H3 => if b = true then te σ2 H3 C else N H3)
    (hd : ∀ D H' (ys : List V), H1 D = none → Same H1 H' → H' D = some (.lst ys) → ys.length = n → (∀ (j : Nat) y, ys[j]? = some y → Pe j H' y) → Qd D H') : LcAsk J g tt te vs σ H1 Qd := by
  intro D hD
  refine lc_it w (Qd := Qd D) (fun i H => Same H1 H ∧ ∃ ys : List V, H D = some (.lst ys) ∧ ys.length = i ∧ ∀ (j : Nat) y, ys[j]? = some y → Pe j H y) ⟨same_new hD, [], upd_same, rfl, fun j y h => by simp at h⟩ (fun i H _ p => hG H p.1) (fun i x H H' hi p y => ?_) fun H p => ?_
  · obtain ⟨kp, ys, hys, hl, hp⟩ := p
    refine hs D i x H H' _ _ hi kp hD y fun y' H4 k4 pe => ?_
    refine ⟨ys, k4 _ _ hys, by omega, same_mut (kp.trans k4) hD, ys ++ [y'], upd_same, by rw [List.length_append, hl]; rfl, fun j v hv => ?_⟩
    rcases Nat.lt_trichotomy j ys.length with h1 | h1 | h1
    · rw [List.getElem?_append_left h1] at hv; exact hm _ _ _ _ _ _ (k4 _ _ hys) (hk _ _ _ _ k4 (hp j v hv))
    · subst h1
      have e : y' = v := by simpa using hv
      subst e; rw [hl]; exact hm _ _ _ _ _ _ (k4 _ _ hys) pe
    · have hnone : (ys ++ [y'])[j]? = none := List.getElem?_eq_none (by rw [List.length_append, List.length_singleton]; omega)
      rw [hnone] at hv; cases hv
  · obtain ⟨kp, ys, hys, hl, hp⟩ := p
    exact hd D H ys hD kp hys hl hp
theorem buildK_congr {kf : Nat → Key} {vf vf' : Nat → V} : ∀ n, (∀ i, i < n → vf i = vf' i) → buildK kf vf n = buildK kf vf' n
  | 0, _ => rfl
  | n + 1, h => by
    show putK (buildK kf vf n) (kf n) (vf n) = putK (buildK kf vf' n) (kf n) (vf' n)
    rw [buildK_congr n fun i hi => h i (by omega), h n (by omega)]
/-- a dict comprehension whose values are new objects -/
theorem dcP (w : Walk J n G Y) (kf : Nat → Key) (Pe : Nat → Hp → V → Prop) (hn : n ≤ sizeLine) (hk : ∀ i H H' y, Same H H' → Pe i H y → Pe i H' y) (hm : ∀ D i H o xs y, H D = some (.dK xs) → Pe i H y → Pe i (upd H D o) y) (hG : ∀ H, Same H1 H → G H)
    (hs : ∀ i x H H' (C : V → V → Hp → Prop) (N : Hp → Prop), i < n → Same H1 H → Y i H x H' → (∀ v H5, Same H H5 → Pe i H5 v → C (kV (kf i)) v H5) →
      g x (wipe σ vs) H' fun σ2 H2 => wipe σ2 vs = wipe σ vs ∧ tt σ2 H2 fun b H3 => if b = true then tk σ2 H3 fun y H4 => tv σ2 H4 fun z H5 => C y z H5 else N H3)
    (hd : ∀ D H' vf, H1 D = none → Same H1 H' → H' D = some (.dK (buildK kf vf n)) → (∀ i, i < n → Pe i H' (vf i)) → Qd D H') : DcAsk J g tt tk tv vs σ H1 Qd := by
  intro D hD
  refine ⟨fun i m H => m = n - i ∧ i ≤ n ∧ Same H1 H ∧ ∃ vf, H D = some (.dK (buildK kf vf i)) ∧ ∀ j, j < i → Pe j H (vf j), ⟨n, by simp, Nat.zero_le _, same_new hD, fun _ => .non, upd_same, fun j hj => absurd hj (Nat.not_lt_zero _)⟩, ?_⟩
  rintro i m H ⟨rfl, hi, sm, vf, hB, hp⟩
  have q := hG H sm
  by_cases hlt : i < n
  · refine .inr ⟨w.goes i H hlt q, fun H' => Same H1 H' ∧ ∃ vf, H' D = some (.dK (buildK kf vf (i + 1))) ∧ ∀ j, j < i + 1 → Pe j H' (vf j), fun H' h => ⟨n - (i + 1), by omega, rfl, by omega, h.1, h.2⟩, fun x H' y => ?_⟩
    refine hs i x H H' _ _ hlt sm (w.yields i H x H' hlt q y) fun v H5 s5 pe => ?_
    refine ⟨buildK kf vf i, kf i, rfl, s5 _ _ hB, ?_, same_mut (sm.trans s5) hD, fun j => if j = i then v else vf j, ?_, fun j hj => ?_⟩
    · have := buildK_len kf vf i
      omega
    · rw [upd_same]
      show some (HO.dK (putK (buildK kf vf i) (kf i) v)) = some (HO.dK (putK (buildK kf _ i) (kf i) (if i = i then v else vf i)))
      rw [if_pos rfl, buildK_congr (vf := vf) (vf' := fun j => if j = i then v else vf j) i fun j hj => by simp only [if_neg (Nat.ne_of_lt hj)]]
    · by_cases e : j = i
      · simp only [e, if_true]
        exact hm _ _ _ _ _ _ (s5 _ _ hB) pe
      · simp only [if_neg e]
        exact hm _ _ _ _ _ _ (s5 _ _ hB) (hk _ _ _ _ s5 (hp j (by omega)))
  · have e : i = n := by omega
    subst e
    exact .inl ⟨w.stops H q, hd D H vf hD sm hB hp⟩
end
/-- items that are refs -/
theorem refs_of {F : Nat → Addr → Prop} : ∀ {ys : List V}, (∀ (j : Nat) y, ys[j]? = some y → ∃ r, y = .ref r ∧ F j r) → ∃ rs : List Addr, ys = rs.map V.ref ∧ ∀ (j : Nat) r, rs[j]? = some r → F j r := by
  intro ys
  induction ys generalizing F with
  | nil => intro _; exact ⟨[], rfl, fun j r h => by simp at h⟩
  | cons y ys ih =>
    intro h
    obtain ⟨r, rfl, hr⟩ := h 0 y rfl
    obtain ⟨rs, e, hrs⟩ := ih (F := fun j r => F (j + 1) r) fun j y hj => h (j + 1) y (by simpa using hj)
    refine ⟨r :: rs, by rw [e]; rfl, fun j q hq => ?_⟩
    cases j with
    | zero => have : r = q := by simpa using hq
              rw [← this]; exact hr
    | succ j => exact hrs j q (by simpa using hq)
section
variable {κ : Type} [DecidableEq κ]
theorem valF_out {k : κ} : ∀ (more acc : List (κ × V)), (∀ p ∈ more, p.1 ≠ k) → valV (more.foldl (fun acc p => putK acc p.1 p.2) acc) k = valV acc k
  | [], acc, _ => rfl
  | p :: r, acc, h => by
    show valV (r.foldl (fun acc p => putK acc p.1 p.2) (putK acc p.1 p.2)) k = _
    rw [valF_out r _ fun q hq => h q (List.mem_cons_of_mem _ hq), valV_put, if_neg fun e => h p (by simp) e.symm]
theorem valF {k : κ} {v : V} : ∀ (more acc : List (κ × V)), (more.map (·.1)).Nodup → (k, v) ∈ more → valV (more.foldl (fun acc p => putK acc p.1 p.2) acc) k = some v
  | [], _, _, h => nomatch h
  | p :: r, acc, nd, h => by
    rw [List.map_cons, List.nodup_cons] at nd
    show valV (r.foldl (fun acc p => putK acc p.1 p.2) (putK acc p.1 p.2)) k = _
    rcases List.mem_cons.mp h with e | e
    · subst e
      rw [valF_out r _ (fun q hq e => nd.1 (List.mem_map.mpr ⟨q, hq, e⟩)), valV_put, if_pos rfl]
    · exact valF r _ nd.2 e
/-- the values agree with f wherever keys come again -/
theorem valF_fun {k : κ} {f : κ → V} : ∀ (more acc : List (κ × V)), (∀ p ∈ more, p.2 = f p.1) → k ∈ more.map (·.1) → valV (more.foldl (fun acc p => putK acc p.1 p.2) acc) k = some (f k)
  | [], _, _, h => nomatch h
  | p :: r, acc, hf, h => by
    show valV (r.foldl (fun acc p => putK acc p.1 p.2) (putK acc p.1 p.2)) k = _
    by_cases hr : k ∈ r.map (·.1)
    · exact valF_fun r _ (fun q hq => hf q (List.mem_cons_of_mem _ hq)) hr
    · have e : k = p.1 := by
        rcases List.mem_cons.mp h with e | e
        · exact e
        · exact absurd e hr
      rw [valF_out r _ (fun q hq e => hr (List.mem_map.mpr ⟨q, hq, e⟩)), valV_put, if_pos e, hf p (by simp), e]
end
theorem pe_dictZK {X : Cx} (K : PySem.W.Frag) {e e2 : Expr} {ta : TA} {p p2 pos pos2 : Pos} (hc : X.calm = true) (hg : Gl X "dict") (hm : X.mg "dict" = none) (hg2 : Gl X "zip") (hm2 : X.mg "zip" = none) (ha : PA X [e, e2] ta) (hK : X.K = K := by rfl)
    (hs : starEach [.Call (.Name "zip" p2) [e, e2] [] pos2] X.env = (false, eval (.Call (.Name "zip" p2) [e, e2] [] pos2) X.env) :: starEach [] X.env := by rfl)
    (hs2 : starEach [e, e2] X.env = (false, eval e X.env) :: starEach [e2] X.env := by rfl) (hpl : (backTo pos2 (starEach [e2] X.env)).any (·.1) = false := by rfl) :
    PE X (.Call (.Name "dict" p) [.Call (.Name "zip" p2) [e, e2] [] pos2] [] pos) (tDictZ K ta) := by subst hK; exact pe_dictZ hc hg hm hg2 hm2 ha hs hs2 hpl
theorem i_dictZ {K : PySem.W.Frag} {σ : L2.St} {H : Hp} {Q : VK} {ta : TA} (k : ta σ H fun vs H1 => ∃ (s1 : Src) (b : Addr) (xs ys : List V) (kvs : List (Key × V)), vs = [s1.v, .ref b] ∧ s1.has K H1 xs ∧ SqT K H1 b ys ∧ min xs.length ys.length ≤ sizeLine ∧
  kvs.length = min xs.length ys.length ∧ (∀ (j : Nat) k v, kvs[j]? = some (k, v) → xs[j]? = some (kV k) ∧ ys[j]? = some v) ∧ ∀ p, H1 p = none → Q (.ref p) (upd H1 p (.dK (mergeK [] kvs)))) : tDictZ K ta σ H Q := k
end AR
namespace L2
open PySem PySem.Spec PyProof.Rows
theorem Room.low {k : Nat} {A : Around} (r : Room k A) : A.units < cLine := by have := r.un; omega
theorem Room.repr {k : Nat} {A : Around} (r : Room k A) : A.units + 66 < cLine := by have := r.un; omega
end L2
set_option autoImplicit false
/-! VS: values as plain data over the hand layer -/
namespace VS
open PySem PySem.Spec PyProof.Rows L2 AR
/-- a box that is drawn from -/
inductive BoxC where
  | flow (ns : List Int) (s c : Int) | nums (xs : List Int)
  deriving DecidableEq
/-- plain data -/
inductive D where
  | non | bl (b : Bool) | int (i : Int) | str (x : Str)
  | lst (xs : List D) | tup (xs : List D) | dct (t : Nat) (ks vs : List D)
  | ins (C : Str) (fs : List Str) (vs : List D)
  /-- a box; true: a parameter's -/
  | box (p : Bool) (c : BoxC)
  /-- a tuple of the module's own -/
  | ktp (xs : List D)
mutual
def D.beq : D → D → Bool
  | .non, .non => true
  | .bl a, .bl b => a == b
  | .int a, .int b => decide (a = b)
  | .str a, .str b => decide (a = b)
  | .lst a, .lst b => D.beqL a b
  | .tup a, .tup b => D.beqL a b
  | .dct t a c, .dct u b d => decide (t = u) && D.beqL a b && D.beqL c d
  | .ins a f c, .ins b g d => decide (a = b) && decide (f = g) && D.beqL c d
  | .box p a, .box q b => decide (p = q) && decide (a = b)
  | .ktp a, .ktp b => D.beqL a b
  | _, _ => false
def D.beqL : List D → List D → Bool
  | [], [] => true
  | x :: xs, y :: ys => D.beq x y && D.beqL xs ys
  | _, _ => false
end
mutual
theorem D.beq_iff : ∀ (a b : D), D.beq a b = true ↔ a = b
  | .non, b => by cases b <;> simp [D.beq]
  | .bl x, b => by cases b <;> simp [D.beq]
  | .int x, b => by cases b <;> simp [D.beq]
  | .str x, b => by cases b <;> simp [D.beq]
  | .lst x, b => by
    cases b <;> simp [D.beq]
    exact D.beqL_iff x _
  | .tup x, b => by
    cases b <;> simp [D.beq]
    exact D.beqL_iff x _
  | .dct t x y, b => by
    cases b <;> simp [D.beq]
    rw [D.beqL_iff x _, D.beqL_iff y _]
    simp [and_assoc]
  | .ins x f y, b => by
    cases b <;> simp [D.beq]
    rw [D.beqL_iff y _]
    simp [and_assoc]
  | .box p c, b => by cases b <;> simp [D.beq]
  | .ktp x, b => by
    cases b <;> simp [D.beq]
    exact D.beqL_iff x _
theorem D.beqL_iff : ∀ (a b : List D), D.beqL a b = true ↔ a = b
  | [], b => by cases b <;> simp [D.beqL]
  | x :: xs, b => by
    cases b with
    | nil => simp [D.beqL]
    | cons y ys =>
      simp only [D.beqL, Bool.and_eq_true, List.cons.injEq]
      rw [D.beq_iff x y, D.beqL_iff xs ys]
end
instance : DecidableEq D := fun a b => if h : D.beq a b = true then isTrue ((D.beq_iff a b).mp h) else isFalse (fun e => h ((D.beq_iff a b).mpr e))
/-- a good text: not too long, of code points -/
def SG (x : Str) : Prop := x.length ≤ sizeLine ∧ PyData.strOk x = true
/-- keys of dicts as data -/
def keyD : Key → D
  | .inl i => .int i
  | .inr x => .str x
def keyT (ks : List Key) : D := .tup (ks.map keyD)
/-- a slot: nothing, a shared thing, a thing of one's own -/
inductive Sl where
  | u | s (d : D) | o (d : D)
abbrev En := List Sl
structure Wd where
  hs : Hp
  own : Addr → Option Nat
  /-- self, within an __init__; the parameter's box -/
  me : Addr
  me2 : Addr
mutual
inductive Rep (K : PySem.W.Frag) (H : Hp) : V → D → Prop
  | non : Rep K H .non .non
  | bl (b : Bool) : Rep K H (.bl b) (.bl b)
  | int (i : Int) : Rep K H (.int i) (.int i)
  | str {x : Str} : SG x → Rep K H (.str x) (.str x)
  | lst {a : Addr} {xs : List V} {ds : List D} : SqL K H a xs → xs.length ≤ sizeLine → RepAll K H xs ds → Rep K H (.ref a) (.lst ds)
  | tup {a : Addr} {xs : List V} {ds : List D} : H a = some (.tup xs) → xs.length ≤ sizeLine → RepAll K H xs ds → Rep K H (.ref a) (.tup ds)
  | ktp {a : Addr} {xs : List V} {ds : List D} : SqT K H a xs → xs.length ≤ sizeLine → RepAll K H xs ds → Rep K H (.ref a) (.ktp ds)
  | dK {a : Addr} {kvs : List (Key × V)} {ks vs : List D} : Rd H a (.dK kvs) → ks = (kvs.map fun p => keyD p.1) → RepAll K H (kvs.map (·.2)) vs → Rep K H (.ref a) (.dct 0 ks vs)
  | dT {a : Addr} {kvs : List (List Key × V)} {ks vs : List D} : Rd H a (.dT kvs) → ks = (kvs.map fun p => keyT p.1) → RepAll K H (kvs.map (·.2)) vs → Rep K H (.ref a) (.dct 1 ks vs)
  | ins {a C dx : Addr} {c : Str} {fs : List (Str × V)} {ns : List Str} {vs : List D} : H a = some (.ins C dx fs) → C = He.ga K c → ns = fs.map (·.1) → RepAll K H (fs.map (·.2)) vs → Rep K H (.ref a) (.ins c ns vs)
inductive RepAll (K : PySem.W.Frag) (H : Hp) : List V → List D → Prop
  | nil : RepAll K H [] []
  | cons {v : V} {vs : List V} {d : D} {ds : List D} : Rep K H v d → RepAll K H vs ds → RepAll K H (v :: vs) (d :: ds)
end
def IsDct : HO → Prop
  | .dK _ => True
  | .dT _ => True
  | _ => False
/-- the part h stands in H, dicts may be locked -/
def Sub (h H : Hp) : Prop := ∀ a o, h a = some o → H a = some o ∨ (IsDct o ∧ ∃ ob, H a = some (.frz ob o))
theorem Sub.refl (h : Hp) : Sub h h := fun _ _ e => .inl e
theorem Sub.of {h H : Hp} (e : Same h H) : Sub h H := fun a o q => .inl (e a o q)
theorem Sub.rd {h H : Hp} {a : Addr} {u : HO} (e : Sub h H) (r : Rd h a u) : Rd H a u := by
  rcases r with r | ⟨o, r⟩
  · rcases e a _ r with q | ⟨_, ob, q⟩
    · exact .inl q
    · exact .inr ⟨ob, q⟩
  · rcases e a _ r with q | ⟨n, _⟩
    · exact .inr ⟨o, q⟩
    · exact n.elim
theorem Sub.sqL {K : PySem.W.Frag} {h H : Hp} {a : Addr} {xs : List V} (e : Sub h H) (r : SqL K h a xs) : SqL K H a xs := by
  rcases r with r | r
  · exact .inl (e.rd r)
  · exact .inr r
theorem Sub.sqT {K : PySem.W.Frag} {h H : Hp} {a : Addr} {xs : List V} (e : Sub h H) (r : SqT K h a xs) : SqT K H a xs := by
  rcases r with r | r
  · exact .inl (e.rd r)
  · exact .inr r
theorem Sub.ins {h H : Hp} {a C dx : Addr} {fs : List (Str × V)} (e : Sub h H) (r : h a = some (.ins C dx fs)) : H a = some (.ins C dx fs) := by
  rcases e a _ r with q | ⟨n, _⟩
  · exact q
  · exact n.elim
theorem Sub.tup {h H : Hp} {a : Addr} {xs : List V} (e : Sub h H) (r : h a = some (.tup xs)) : H a = some (.tup xs) := by
  rcases e a _ r with q | ⟨n, _⟩
  · exact q
  · exact n.elim
mutual
theorem Rep.mono {K : PySem.W.Frag} {h H : Hp} (e : Sub h H) : ∀ {v : V} {d : D}, Rep K h v d → Rep K H v d
  | _, _, .non => .non
  | _, _, .bl b => .bl b
  | _, _, .int i => .int i
  | _, _, .str g => .str g
  | _, _, .lst q l r => .lst (e.sqL q) l (RepAll.mono e r)
  | _, _, .tup q l r => .tup (e.tup q) l (RepAll.mono e r)
  | _, _, .ktp q l r => .ktp (e.sqT q) l (RepAll.mono e r)
  | _, _, .dK q k r => .dK (e.rd q) k (RepAll.mono e r)
  | _, _, .dT q k r => .dT (e.rd q) k (RepAll.mono e r)
  | _, _, .ins q c n r => .ins (e.ins q) c n (RepAll.mono e r)
theorem RepAll.mono {K : PySem.W.Frag} {h H : Hp} (e : Sub h H) : ∀ {vs : List V} {ds : List D}, RepAll K h vs ds → RepAll K H vs ds
  | _, _, .nil => .nil
  | _, _, .cons r t => .cons (Rep.mono e r) (RepAll.mono e t)
end
section
variable {K : PySem.W.Frag} {H : Hp}
theorem RepAll.length : ∀ {vs : List V} {ds : List D}, RepAll K H vs ds → vs.length = ds.length
  | _, _, .nil => rfl
  | _, _, .cons _ t => congrArg (· + 1) (RepAll.length t)
theorem RepAll.append : ∀ {vs vs' : List V} {ds ds' : List D}, RepAll K H vs ds → RepAll K H vs' ds' → RepAll K H (vs ++ vs') (ds ++ ds')
  | _, _, _, _, .nil, q => q
  | _, _, _, _, .cons r t, q => .cons r (RepAll.append t q)
theorem RepAll.get : ∀ {vs : List V} {ds : List D} (i : Nat) {v : V}, RepAll K H vs ds → vs[i]? = some v → ∃ d, ds[i]? = some d ∧ Rep K H v d
  | _, _, _, _, .nil, e => by simp at e
  | _, _, 0, _, .cons r _, e => by simp at e; subst e; exact ⟨_, rfl, r⟩
  | _, _, i + 1, v, .cons _ t, e => by
    obtain ⟨d, h1, h2⟩ := RepAll.get i (v := v) t (by simpa using e)
    exact ⟨d, by simpa using h1, h2⟩
theorem RepAll.get' : ∀ {vs : List V} {ds : List D} (i : Nat) {d : D}, RepAll K H vs ds → ds[i]? = some d → ∃ v, vs[i]? = some v ∧ Rep K H v d
  | _, _, _, _, .nil, e => by simp at e
  | _, _, 0, _, .cons r _, e => by simp at e; subst e; exact ⟨_, rfl, r⟩
  | _, _, i + 1, d, .cons _ t, e => by
    obtain ⟨v, h1, h2⟩ := RepAll.get' i (d := d) t (by simpa using e)
    exact ⟨v, by simpa using h1, h2⟩
theorem RepAll.set {v : V} {d : D} (r : Rep K H v d) : ∀ {vs : List V} {ds : List D} (i : Nat), RepAll K H vs ds → RepAll K H (vs.set i v) (ds.set i d)
  | _, _, _, .nil => .nil
  | _, _, 0, .cons _ t => .cons r t
  | _, _, i + 1, .cons q t => .cons q (RepAll.set r i t)
theorem RepAll.take : ∀ {vs : List V} {ds : List D} (n : Nat), RepAll K H vs ds → RepAll K H (vs.take n) (ds.take n)
  | _, _, 0, _ => .nil
  | _, _, _ + 1, .nil => .nil
  | _, _, n + 1, .cons r t => .cons r (RepAll.take n t)
theorem RepAll.drop : ∀ {vs : List V} {ds : List D} (n : Nat), RepAll K H vs ds → RepAll K H (vs.drop n) (ds.drop n)
  | _, _, 0, r => r
  | _, _, _ + 1, .nil => .nil
  | _, _, n + 1, .cons _ t => RepAll.drop n t
theorem RepAll.one {v : V} {d : D} (r : Rep K H v d) : RepAll K H [v] [d] := .cons r .nil
theorem RepAll.rev {vs : List V} {ds : List D} (r : RepAll K H vs ds) : RepAll K H vs.reverse ds.reverse := by
  induction vs generalizing ds with
  | nil => cases r; exact .nil
  | cons v vs ih =>
    cases r with
    | cons q t => rw [List.reverse_cons, List.reverse_cons]; exact (ih t).append (.one q)
end
/-- owned by slot i -/
inductive RepO (K : PySem.W.Frag) (w : Wd) (H : Hp) (i : Nat) : V → D → Prop
  | lst {a : Addr} {xs : List V} {ds : List D} : w.own a = some i → H a = some (.lst xs) → xs.length ≤ sizeLine → RepAll K w.hs xs ds → RepO K w H i (.ref a) (.lst ds)
  | dK {a : Addr} {kvs : List (Key × V)} {ks vs : List D} : w.own a = some i → H a = some (.dK kvs) → ks = (kvs.map fun p => keyD p.1) → RepAll K w.hs (kvs.map (·.2)) vs → RepO K w H i (.ref a) (.dct 0 ks vs)
  | dT {a : Addr} {kvs : List (List Key × V)} {ks vs : List D} : w.own a = some i → H a = some (.dT kvs) → ks = (kvs.map fun p => keyT p.1) → RepAll K w.hs (kvs.map (·.2)) vs → RepO K w H i (.ref a) (.dct 1 ks vs)
  | ins {a C dx : Addr} {c : Str} {fs : List (Str × V)} {ns : List Str} {vs : List D} : a = w.me → w.own a = some i → H a = some (.ins C dx fs) → C = He.ga K c → ns = fs.map (·.1) → RepAll K w.hs (fs.map (·.2)) vs → RepO K w H i (.ref a) (.ins c ns vs)
  | flow {b l : Addr} {ns : List Int} {s c : Int} {p : Bool} : (p = true → b = w.me ∧ l = w.me2) → w.own b = some i → w.own l = some i → b ≠ l → H b = some (.lst [.ref l, .int s, .int c]) → H l = some (.lst (ns.map V.int)) → ns.length ≤ 1000 → RepO K w H i (.ref b) (.box p (.flow ns s c))
  | nums {b : Addr} {xs : List Int} {p : Bool} : (p = true → b = w.me) → w.own b = some i → H b = some (.lst (xs.map V.int)) → RepO K w H i (.ref b) (.box p (.nums xs))
/-- new, and nobody's yet; H0: the heap ahead of it -/
inductive Fresh (K : PySem.W.Frag) (w : Wd) (H0 H : Hp) : V → D → Prop
  | lst {a : Addr} {xs : List V} {ds : List D} : H0 a = none → w.own a = none → w.hs a = none → H a = some (.lst xs) → xs.length ≤ sizeLine → RepAll K w.hs xs ds → Fresh K w H0 H (.ref a) (.lst ds)
  | dK {a : Addr} {kvs : List (Key × V)} {ks vs : List D} : H0 a = none → w.own a = none → w.hs a = none → H a = some (.dK kvs) → ks = (kvs.map fun p => keyD p.1) → RepAll K w.hs (kvs.map (·.2)) vs → Fresh K w H0 H (.ref a) (.dct 0 ks vs)
  | dT {a : Addr} {kvs : List (List Key × V)} {ks vs : List D} : H0 a = none → w.own a = none → w.hs a = none → H a = some (.dT kvs) → ks = (kvs.map fun p => keyT p.1) → RepAll K w.hs (kvs.map (·.2)) vs → Fresh K w H0 H (.ref a) (.dct 1 ks vs)
  | flow {b l : Addr} {ns : List Int} {s c : Int} : H0 b = none → H0 l = none → w.own b = none → w.own l = none → w.hs b = none → w.hs l = none → b ≠ l → H b = some (.lst [.ref l, .int s, .int c]) → H l = some (.lst (ns.map V.int)) → ns.length ≤ 1000 → Fresh K w H0 H (.ref b) (.box false (.flow ns s c))
  | nums {b : Addr} {xs : List Int} : H0 b = none → w.own b = none → w.hs b = none → H b = some (.lst (xs.map V.int)) → Fresh K w H0 H (.ref b) (.box false (.nums xs))
structure Fr (w : Wd) (H : Hp) (w' : Wd) (H' : Hp) : Prop where
  sh : Same w.hs w'.hs
  kp : ∀ a o, H a = some o → w.own a = none → H' a = some o ∧ w'.own a = none ∧ (w.hs a = none → w'.hs a = none)
  lv : ∀ a o, H a = some o → ∃ o', H' a = some o'
  me : w'.me = w.me ∧ w'.me2 = w.me2
theorem Fr.refl (w : Wd) (H : Hp) : Fr w H w H := ⟨Same.refl _, fun _ _ h o => ⟨h, o, fun z => z⟩, fun _ o h => ⟨o, h⟩, rfl, rfl⟩
theorem Fr.trans {w w1 w2 : Wd} {H H1 H2 : Hp} (a : Fr w H w1 H1) (b : Fr w1 H1 w2 H2) : Fr w H w2 H2 :=
  ⟨a.sh.trans b.sh, fun c o h n => by
    obtain ⟨h1, n1, z1⟩ := a.kp c o h n
    obtain ⟨h2, n2, z2⟩ := b.kp c o h1 n1
    exact ⟨h2, n2, fun z => z2 (z1 z)⟩, fun c o h => by
    obtain ⟨o1, h1⟩ := a.lv c o h
    exact b.lv c o1 h1, b.me.1.trans a.me.1, b.me.2.trans a.me.2⟩
theorem Fr.free {w w1 : Wd} {H H1 : Hp} (f : Fr w H w1 H1) {a : Addr} (h : H1 a = none) : H a = none := by
  cases q : H a with
  | none => rfl
  | some o =>
    obtain ⟨o', z⟩ := f.lv a o q
    rw [h] at z; cases z
structure EnvOk (K : PySem.W.Frag) (w : Wd) (ρ : En) (σ : L2.St) (H : Hp) : Prop where
  sub : Sub w.hs H
  disj : ∀ a i, w.own a = some i → w.hs a = none
  live : ∀ a i, w.own a = some i → ∃ o, H a = some o
  len : ρ.length = σ.length
  sh : ∀ (i : Nat) (d : D), ρ[i]? = some (Sl.s d) → ∃ v, σ[i]? = some (some v) ∧ Rep K w.hs v d
  ow : ∀ (i : Nat) (d : D), ρ[i]? = some (Sl.o d) → ∃ v, σ[i]? = some (some v) ∧ RepO K w H i v d
  /-- every tuple is shared -/
  tups : ∀ a xs, H a = some (.tup xs) → w.hs a = some (.tup xs)
/-- no tuple -/
def NT (o : HO) : Prop := ∀ xs, o ≠ .tup xs
section
variable {K : PySem.W.Frag} {w w' : Wd} {ρ : En} {σ : L2.St} {H H' : Hp} {p : Addr} {o : HO}
theorem RepO.keep {i : Nat} {v : V} {d : D} (r : RepO K w H i v d) (me : w'.me = w.me ∧ w'.me2 = w.me2) (hs : Same w.hs w'.hs) (k : ∀ a, w.own a = some i → w'.own a = some i ∧ H' a = H a) : RepO K w' H' i v d := by
  cases r with
  | lst h1 h2 hl h3 => exact .lst (k _ h1).1 ((k _ h1).2.trans h2) hl (h3.mono (.of hs))
  | dK h1 h2 h3 h4 => exact .dK (k _ h1).1 ((k _ h1).2.trans h2) h3 (h4.mono (.of hs))
  | dT h1 h2 h3 h4 => exact .dT (k _ h1).1 ((k _ h1).2.trans h2) h3 (h4.mono (.of hs))
  | ins h0 h1 h2 h3 h4 h5 => exact .ins (h0.trans me.1.symm) (k _ h1).1 ((k _ h1).2.trans h2) h3 h4 (h5.mono (.of hs))
  | flow hp h1 h2 h3 h4 h5 h6 => exact .flow (fun z => ⟨(hp z).1.trans me.1.symm, (hp z).2.trans me.2.symm⟩) (k _ h1).1 (k _ h2).1 h3 ((k _ h1).2.trans h4) ((k _ h2).2.trans h5) h6
  | nums hp h1 h2 => exact .nums (fun z => (hp z).trans me.1.symm) (k _ h1).1 ((k _ h1).2.trans h2)
/-- what is owned stays as it is -/
theorem EnvOk.keep (e : EnvOk K w ρ σ H) (hs : Same w.hs w'.hs) (sub : Sub w'.hs H') (ow : w'.own = w.own) (me : w'.me = w.me ∧ w'.me2 = w.me2) (dj : ∀ a i, w.own a = some i → w'.hs a = none) (k : ∀ a i, w.own a = some i → H' a = H a) (tp : ∀ a xs, H' a = some (.tup xs) → w'.hs a = some (.tup xs)) : EnvOk K w' ρ σ H' where
  tups := tp
  sub := sub
  disj := fun a i q => dj a i (by rw [← ow]; exact q)
  live := fun a i q => by rw [ow] at q; rw [k a i q]; exact e.live a i q
  len := e.len
  sh := fun i d q => by
    obtain ⟨v, h1, h2⟩ := e.sh i d q
    exact ⟨v, h1, h2.mono (.of hs)⟩
  ow := fun i d q => by
    obtain ⟨v, h1, h2⟩ := e.ow i d q
    exact ⟨v, h1, h2.keep me hs fun a z => ⟨by rw [ow]; exact z, k a i z⟩⟩
theorem EnvOk.free (e : EnvOk K w ρ σ H) (h : H p = none) : w.hs p = none ∧ w.own p = none := by
  constructor
  · cases q : w.hs p with
    | none => rfl
    | some u =>
      rcases e.sub p u q with z | ⟨_, _, z⟩
      · rw [h] at z; cases z
      · rw [h] at z; cases z
  · cases q : w.own p with
    | none => rfl
    | some i =>
      obtain ⟨u, z⟩ := e.live p i q
      rw [h] at z; cases z
/-- a new object that is nobody's -/
theorem EnvOk.tmp (e : EnvOk K w ρ σ H) (h : H p = none) (nt : NT o) : Fr w H w (upd H p o) ∧ EnvOk K w ρ σ (upd H p o) := by
  obtain ⟨h1, h2⟩ := e.free h
  refine ⟨⟨Same.refl _, fun a u q n => ⟨by rw [upd_ne (ne_of_none q h)]; exact q, n, fun z => z⟩, fun a u q => ⟨u, by rw [upd_ne (ne_of_none q h)]; exact q⟩, rfl, rfl⟩, e.keep (Same.refl _) (fun a u q => ?_) rfl ⟨rfl, rfl⟩ e.disj (fun a i q => ?_) fun a xs q => ?_⟩
  · have ne : a ≠ p := fun z => by subst z; rw [h1] at q; cases q
    rw [upd_ne ne]
    exact e.sub a u q
  · have ne : a ≠ p := fun z => by subst z; rw [h2] at q; cases q
    exact upd_ne ne
  · by_cases z : a = p
    · subst z; rw [upd_same] at q; cases q; exact absurd rfl (nt xs)
    · rw [upd_ne z] at q; exact e.tups a xs q
/-- a thing that is nobody's is shared from now on; H0: where it was not yet -/
theorem EnvOk.share {H0 : Hp} {w0 : Wd} (e : EnvOk K w ρ σ H) (f : Fr w0 H0 w H) (h0 : H0 p = none) (hn : w.own p = none) (hs : w.hs p = none) (h : H p = some o) :
    Fr w0 H0 { w with hs := upd w.hs p o } H ∧ EnvOk K { w with hs := upd w.hs p o } ρ σ H ∧ Same w.hs (upd w.hs p o) := by
  have sm : Same w.hs (upd w.hs p o) := AR.same_new hs
  refine ⟨⟨f.sh.trans sm, fun a u q n => ?_, f.lv, f.me⟩, e.keep sm (fun a u q => ?_) rfl ⟨rfl, rfl⟩ (fun a i q => ?_) (fun a i q => rfl) fun a xs q => ?_, sm⟩
  · obtain ⟨k1, k2, k3⟩ := f.kp a u q n
    exact ⟨k1, k2, fun z => by
      show upd w.hs p o a = none
      rw [upd_ne (ne_of_none q h0)]; exact k3 z⟩
  · by_cases ne : a = p
    · subst ne
      have q' : upd w.hs a o a = some u := q
      rw [upd_same] at q'
      cases q'
      exact .inl h
    · have q' : upd w.hs p o a = some u := q
      rw [upd_ne ne] at q'
      exact e.sub a u q'
  · have ne : a ≠ p := fun z => by subst z; rw [hn] at q; cases q
    show upd w.hs p o a = none
    rw [upd_ne ne]
    exact e.disj a i q
  · have z := e.tups a xs q
    exact sm a _ z
/-- a new shared object -/
theorem EnvOk.new (e : EnvOk K w ρ σ H) (h : H p = none) : Fr w H { w with hs := upd w.hs p o } (upd H p o) ∧ EnvOk K { w with hs := upd w.hs p o } ρ σ (upd H p o) ∧ Same w.hs (upd w.hs p o) := by
  obtain ⟨h1, h2⟩ := e.free h
  have sm : Same w.hs (upd w.hs p o) := AR.same_new h1
  refine ⟨⟨sm, fun a u q n => ⟨by rw [upd_ne (ne_of_none q h)]; exact q, n, fun z => by show upd w.hs p o a = none; rw [upd_ne (ne_of_none q h)]; exact z⟩, fun a u q => ⟨u, by rw [upd_ne (ne_of_none q h)]; exact q⟩, rfl, rfl⟩, e.keep sm (fun a u q => ?_) rfl ⟨rfl, rfl⟩ (fun a i q => ?_) (fun a i q => ?_) fun a xs q => ?_, sm⟩
  · have q' : upd w.hs p o a = some u := q
    by_cases z : a = p
    · subst z; rw [upd_same] at q'; cases q'; exact .inl upd_same
    · rw [upd_ne z] at q'; rw [upd_ne z]; exact e.sub a u q'
  · have ne : a ≠ p := fun z => by subst z; rw [h2] at q; cases q
    show upd w.hs p o a = none
    rw [upd_ne ne]; exact e.disj a i q
  · have ne : a ≠ p := fun z => by subst z; rw [h2] at q; cases q
    exact upd_ne ne
  · show upd w.hs p o a = some (.tup xs)
    by_cases z : a = p
    · subst z; rw [upd_same] at q ⊢; exact q
    · rw [upd_ne z] at q ⊢; exact e.tups a xs q
/-- the slot is stored: a shared thing -/
theorem EnvOk.setS {v : V} {d : D} {i : Nat} (e : EnvOk K w ρ σ H) (r : Rep K w.hs v d) : EnvOk K w (ρ.set i (Sl.s d)) (σ.set i (some v)) H where
  tups := e.tups
  sub := e.sub
  disj := e.disj
  live := e.live
  len := by rw [List.length_set, List.length_set]; exact e.len
  sh := fun j d' q => by
    by_cases z : i = j
    · subst z
      by_cases hl : i < ρ.length
      · rw [List.getElem?_set_self hl] at q
        injection q with q; injection q with q; subst q
        exact ⟨v, by rw [List.getElem?_set_self (by rw [← e.len]; exact hl)], r⟩
      · rw [List.getElem?_eq_none (by rw [List.length_set]; omega)] at q; cases q
    · rw [List.getElem?_set_ne z] at q
      obtain ⟨v', h1, h2⟩ := e.sh j d' q
      exact ⟨v', by rw [List.getElem?_set_ne z]; exact h1, h2⟩
  ow := fun j d' q => by
    by_cases z : i = j
    · subst z
      by_cases hl : i < ρ.length
      · rw [List.getElem?_set_self hl] at q
        injection q with q; cases q
      · rw [List.getElem?_eq_none (by rw [List.length_set]; omega)] at q; cases q
    · rw [List.getElem?_set_ne z] at q
      obtain ⟨v', h1, h2⟩ := e.ow j d' q
      exact ⟨v', by rw [List.getElem?_set_ne z]; exact h1, h2⟩
/-- the slot of a thing of its own has other data -/
theorem EnvOk.setO' {v : V} {d : D} {i : Nat} (e : EnvOk K w ρ σ H) (hv : σ[i]? = some (some v)) (sub : Sub w.hs H') (lv : ∀ a i, w.own a = some i → ∃ o, H' a = some o) (k : ∀ a j, j ≠ i → w.own a = some j → H' a = H a) (r : RepO K w H' i v d) (tp : ∀ a xs, H' a = some (.tup xs) → w.hs a = some (.tup xs)) : EnvOk K w (ρ.set i (Sl.o d)) σ H' where
  tups := tp
  sub := sub
  disj := e.disj
  live := lv
  len := by rw [List.length_set]; exact e.len
  sh := fun j d' q => by
    by_cases z : i = j
    · subst z
      by_cases hl : i < ρ.length
      · rw [List.getElem?_set_self hl] at q
        injection q with q; cases q
      · rw [List.getElem?_eq_none (by rw [List.length_set]; omega)] at q; cases q
    · rw [List.getElem?_set_ne z] at q
      exact e.sh j d' q
  ow := fun j d' q => by
    by_cases z : i = j
    · subst z
      by_cases hl : i < ρ.length
      · rw [List.getElem?_set_self hl] at q
        injection q with q; injection q with q; subst q
        exact ⟨v, hv, r⟩
      · rw [List.getElem?_eq_none (by rw [List.length_set]; omega)] at q; cases q
    · rw [List.getElem?_set_ne z] at q
      obtain ⟨v', h1, h2⟩ := e.ow j d' q
      exact ⟨v', h1, h2.keep ⟨rfl, rfl⟩ (Same.refl _) fun a ha => ⟨ha, k a j (Ne.symm z) ha⟩⟩
/-- an owned object is changed at a -/
theorem EnvOk.mut {i : Nat} {a : Addr} {v : V} {d : D} (e : EnvOk K w ρ σ H) (ha : w.own a = some i) (hv : σ[i]? = some (some v)) (r : RepO K w (upd H a o) i v d) (nt : NT o) : Fr w H w (upd H a o) ∧ EnvOk K w (ρ.set i (Sl.o d)) σ (upd H a o) := by
  refine ⟨⟨Same.refl _, fun b u q n => ?_, fun b u q => by
    by_cases z : b = a
    · subst z; exact ⟨_, upd_same⟩
    · exact ⟨u, by rw [upd_ne z]; exact q⟩, rfl, rfl⟩, e.setO' hv (fun b u q => ?_) (fun b j q => ?_) (fun b j ne q => ?_) r fun b xs q => ?_⟩
  · have ne : b ≠ a := fun z => by subst z; rw [ha] at n; cases n
    exact ⟨by rw [upd_ne ne]; exact q, n, fun z => z⟩
  · have ne : b ≠ a := fun z => by subst z; rw [e.disj b i ha] at q; cases q
    rw [upd_ne ne]
    exact e.sub b u q
  · by_cases ne : b = a
    · subst ne; exact ⟨_, upd_same⟩
    · rw [upd_ne ne]; exact e.live b j q
  · have hne : b ≠ a := fun z => by subst z; rw [ha] at q; injection q with q; exact ne q.symm
    exact upd_ne hne
  · by_cases z : b = a
    · subst z; rw [upd_same] at q; cases q; exact absurd rfl (nt xs)
    · rw [upd_ne z] at q; exact e.tups b xs q
/-- ownership of addresses is taken by slot i -/
def Wd.take (w : Wd) (i : Nat) (as : List Addr) : Wd := { w with own := fun a => if a ∈ as then some i else w.own a }
theorem Wd.take_in {i : Nat} {as : List Addr} {a : Addr} (h : a ∈ as) : (w.take i as).own a = some i := by show (if a ∈ as then some i else w.own a) = _; rw [if_pos h]
theorem Wd.take_out {i : Nat} {as : List Addr} {a : Addr} (h : a ∉ as) : (w.take i as).own a = w.own a := by show (if a ∈ as then some i else w.own a) = _; rw [if_neg h]
theorem EnvOk.taken {H0 : Hp} {w0 : Wd} {v : V} {d : D} {i : Nat} {as : List Addr} (e : EnvOk K w ρ σ H) (f : Fr w0 H0 w H) (h0 : ∀ a ∈ as, H0 a = none) (hn : ∀ a ∈ as, w.own a = none) (hs : ∀ a ∈ as, w.hs a = none) (hl : ∀ a ∈ as, ∃ o, H a = some o) (r : RepO K (w.take i as) H i v d) :
    Fr w0 H0 (w.take i as) H ∧ EnvOk K (w.take i as) (ρ.set i (Sl.o d)) (σ.set i (some v)) H := by
  refine ⟨⟨f.sh, fun a u q n => ?_, f.lv, f.me⟩, ?_⟩
  · obtain ⟨k1, k2, k3⟩ := f.kp a u q n
    have no : a ∉ as := fun z => by rw [h0 a z] at q; cases q
    exact ⟨k1, by rw [Wd.take_out no]; exact k2, k3⟩
  · have dj : ∀ a j, (w.take i as).own a = some j → w.hs a = none := fun a j q => by
      by_cases z : a ∈ as
      · exact hs a z
      · rw [Wd.take_out z] at q; exact e.disj a j q
    refine ⟨e.sub, dj, fun a j q => ?_, by rw [List.length_set, List.length_set]; exact e.len, fun j d' q => ?_, fun j d' q => ?_, e.tups⟩
    · by_cases z : a ∈ as
      · exact hl a z
      · rw [Wd.take_out z] at q; exact e.live a j q
    · by_cases z : i = j
      · subst z
        by_cases hl : i < ρ.length
        · rw [List.getElem?_set_self hl] at q
          injection q with q; cases q
        · rw [List.getElem?_eq_none (by rw [List.length_set]; omega)] at q; cases q
      · rw [List.getElem?_set_ne z] at q
        obtain ⟨v', h1, h2⟩ := e.sh j d' q
        exact ⟨v', by rw [List.getElem?_set_ne z]; exact h1, h2⟩
    · by_cases z : i = j
      · subst z
        by_cases hl : i < ρ.length
        · rw [List.getElem?_set_self hl] at q
          injection q with q; injection q with q; subst q
          exact ⟨v, by rw [List.getElem?_set_self (by rw [← e.len]; exact hl)], r⟩
        · rw [List.getElem?_eq_none (by rw [List.length_set]; omega)] at q; cases q
      · rw [List.getElem?_set_ne z] at q
        obtain ⟨v', h1, h2⟩ := e.ow j d' q
        refine ⟨v', by rw [List.getElem?_set_ne z]; exact h1, h2.keep (w' := w.take i as) ⟨rfl, rfl⟩ (Same.refl _) fun a ha => ⟨?_, rfl⟩⟩
        have no : a ∉ as := fun m => by rw [hn a m] at ha; cases ha
        rw [Wd.take_out no]; exact ha
/-- the new thing goes to slot i -/
theorem Fresh.store {H0 : Hp} {w0 : Wd} {v : V} {d : D} (r : Fresh K w H0 H v d) (i : Nat) (e : EnvOk K w ρ σ H) (f : Fr w0 H0 w H) : ∃ w', Fr w0 H0 w' H ∧ EnvOk K w' (ρ.set i (Sl.o d)) (σ.set i (some v)) H := by
  have one : ∀ {a : Addr} {P : Addr → Prop}, P a → ∀ b ∈ [a], P b := fun {a P} h b hb => by rw [List.mem_singleton.mp hb]; exact h
  cases r with
  | @lst a xs ds h0 hn hs h hl r => exact ⟨w.take i [a], e.taken f (one h0) (one hn) (one hs) (one ⟨_, h⟩) (.lst (Wd.take_in (List.mem_singleton_self a)) h hl r)⟩
  | @dK a kvs ks vs h0 hn hs h hk r => exact ⟨w.take i [a], e.taken f (one h0) (one hn) (one hs) (one ⟨_, h⟩) (.dK (Wd.take_in (List.mem_singleton_self a)) h hk r)⟩
  | @dT a kvs ks vs h0 hn hs h hk r => exact ⟨w.take i [a], e.taken f (one h0) (one hn) (one hs) (one ⟨_, h⟩) (.dT (Wd.take_in (List.mem_singleton_self a)) h hk r)⟩
  | @nums a xs h0 hn hs h => exact ⟨w.take i [a], e.taken f (one h0) (one hn) (one hs) (one ⟨_, h⟩) (.nums (fun z => nomatch z) (Wd.take_in (List.mem_singleton_self a)) h)⟩
  | @flow b l ns s c b0 l0 bn ln bs ls ne hb hl hz =>
    have two : ∀ {P : Addr → Prop}, P b → P l → ∀ a ∈ [b, l], P a := fun {P} h1 h2 a ha => by
      rcases List.mem_cons.mp ha with q | q
      · rw [q]; exact h1
      · rw [List.mem_singleton.mp q]; exact h2
    exact ⟨w.take i [b, l], e.taken f (two b0 l0) (two bn ln) (two bs ls) (two ⟨_, hb⟩ ⟨_, hl⟩) (.flow (fun z => nomatch z) (Wd.take_in (by simp)) (Wd.take_in (by simp)) ne hb hl hz)⟩
/-- the new thing is shared -/
theorem Fresh.share {H0 : Hp} {w0 : Wd} {v : V} {d : D} (r : Fresh K w H0 H v d) (nb : ∀ p c, d ≠ .box p c) (e : EnvOk K w ρ σ H) (f : Fr w0 H0 w H) : ∃ w', Fr w0 H0 w' H ∧ EnvOk K w' ρ σ H ∧ Rep K w'.hs v d := by
  cases r with
  | @lst a xs ds h0 hn hs h hl r =>
    obtain ⟨f1, e1, sm⟩ := e.share f h0 hn hs h
    exact ⟨_, f1, e1, .lst (.of upd_same) hl (r.mono (.of sm))⟩
  | @dK a kvs ks vs h0 hn hs h hk r =>
    obtain ⟨f1, e1, sm⟩ := e.share f h0 hn hs h
    exact ⟨_, f1, e1, .dK (.inl upd_same) hk (r.mono (.of sm))⟩
  | @dT a kvs ks vs h0 hn hs h hk r =>
    obtain ⟨f1, e1, sm⟩ := e.share f h0 hn hs h
    exact ⟨_, f1, e1, .dT (.inl upd_same) hk (r.mono (.of sm))⟩
  | nums => exact absurd rfl (nb _ _)
  | flow => exact absurd rfl (nb _ _)
/-- a slot's own thing is shared from now on -/
theorem EnvOk.give {i : Nat} {v : V} {d : D} (e : EnvOk K w ρ σ H) (hv : σ[i]? = some (some v)) (r : RepO K w H i v d) (nb : ∀ p c, d ≠ .box p c) : ∃ w', Fr w H w' H ∧ EnvOk K w' (ρ.set i (Sl.s d)) σ H ∧ Rep K w'.hs v d := by
  have core : ∀ (a : Addr) (o : HO), w.own a = some i → H a = some o → (∀ hs, Same w.hs hs → hs a = some o → Rep K hs v d) → ∃ w', Fr w H w' H ∧ EnvOk K w' (ρ.set i (Sl.s d)) σ H ∧ Rep K w'.hs v d := fun a o ha ho mk => by
    have hs0 := e.disj a i ha
    have sm : Same w.hs (upd w.hs a o) := AR.same_new hs0
    have rp : Rep K (upd w.hs a o) v d := mk _ sm upd_same
    have hne : ∀ b, (if b = a then none else w.own b) = none ∨ b ≠ a := fun b => by
      by_cases z : b = a
      · left; rw [if_pos z]
      · exact .inr z
    refine ⟨⟨upd w.hs a o, fun b => if b = a then none else w.own b, w.me, w.me2⟩, ⟨sm, fun b u q n => ⟨q, ?_, fun z => ?_⟩, (fun b u q => ⟨u, q⟩), rfl, rfl⟩, ⟨fun b u q => ?_, fun b j q => ?_, fun b j q => ?_, by rw [List.length_set]; exact e.len, fun j d' q => ?_, fun j d' q => ?_, fun b xs q => sm b _ (e.tups b xs q)⟩, rp⟩
    · show (if b = a then none else w.own b) = none
      split
      · rfl
      · exact n
    · have ne : b ≠ a := fun z => by subst z; rw [ha] at n; cases n
      show upd w.hs a o b = none
      rw [upd_ne ne]; exact z
    · have q' : upd w.hs a o b = some u := q
      by_cases z : b = a
      · subst z; rw [upd_same] at q'; cases q'; exact .inl ho
      · rw [upd_ne z] at q'; exact e.sub b u q'
    · have q' : (if b = a then none else w.own b) = some j := q
      show upd w.hs a o b = none
      by_cases z : b = a
      · rw [if_pos z] at q'; cases q'
      · rw [if_neg z] at q'; rw [upd_ne z]; exact e.disj b j q'
    · have q' : (if b = a then none else w.own b) = some j := q
      by_cases z : b = a
      · rw [if_pos z] at q'; cases q'
      · rw [if_neg z] at q'; exact e.live b j q'
    · by_cases z : i = j
      · subst z
        by_cases hl : i < ρ.length
        · rw [List.getElem?_set_self hl] at q
          injection q with q; injection q with q; subst q
          exact ⟨v, hv, rp⟩
        · rw [List.getElem?_eq_none (by rw [List.length_set]; omega)] at q; cases q
      · rw [List.getElem?_set_ne z] at q
        obtain ⟨v', h1, h2⟩ := e.sh j d' q
        exact ⟨v', h1, h2.mono (.of sm)⟩
    · by_cases z : i = j
      · subst z
        by_cases hl : i < ρ.length
        · rw [List.getElem?_set_self hl] at q
          injection q with q; cases q
        · rw [List.getElem?_eq_none (by rw [List.length_set]; omega)] at q; cases q
      · rw [List.getElem?_set_ne z] at q
        obtain ⟨v', h1, h2⟩ := e.ow j d' q
        refine ⟨v', h1, h2.keep (w' := ⟨upd w.hs a o, fun b => if b = a then none else w.own b, w.me, w.me2⟩) ⟨rfl, rfl⟩ sm fun b hb => ⟨?_, rfl⟩⟩
        have ne : b ≠ a := fun q => by subst q; rw [ha] at hb; injection hb with hb; exact z hb
        show (if b = a then none else w.own b) = some j
        rw [if_neg ne]; exact hb
  cases r with
  | lst h1 h2 hl h3 => exact core _ _ h1 h2 fun hs sm q => .lst (.of q) hl (h3.mono (.of sm))
  | dK h1 h2 h3 h4 => exact core _ _ h1 h2 fun hs sm q => .dK (.inl q) h3 (h4.mono (.of sm))
  | dT h1 h2 h3 h4 => exact core _ _ h1 h2 fun hs sm q => .dT (.inl q) h3 (h4.mono (.of sm))
  | ins h0 h1 h2 h3 h4 h5 => exact core _ _ h1 h2 fun hs sm q => .ins q h3 h4 (h5.mono (.of sm))
  | flow => exact absurd rfl (nb _ _)
  | nums => exact absurd rfl (nb _ _)
end
end VS
set_option autoImplicit false
namespace VS
open PySem PySem.Spec PyProof.Rows L2 AR
abbrev FE := En → Option (D × En)
abbrev FT := En → Option (Bool × En)
abbrev FA := En → Option (List D × En)
inductive Out where
  | nx (ρ : En) | rt (d : D) (ρ : En) | bk (ρ : En) | ct (ρ : En)
abbrev FS := En → Option Out
/-- a thing as it is read: itself in H, its parts in hs -/
inductive View (K : PySem.W.Frag) (hs H : Hp) : V → D → Prop
  | non : View K hs H .non .non
  | bl (b : Bool) : View K hs H (.bl b) (.bl b)
  | int (i : Int) : View K hs H (.int i) (.int i)
  | str {x : Str} : SG x → View K hs H (.str x) (.str x)
  | lst {a : Addr} {xs : List V} {ds : List D} : SqL K H a xs → xs.length ≤ sizeLine → RepAll K hs xs ds → View K hs H (.ref a) (.lst ds)
  | tup {a : Addr} {xs : List V} {ds : List D} : H a = some (.tup xs) → xs.length ≤ sizeLine → RepAll K hs xs ds → View K hs H (.ref a) (.tup ds)
  | ktp {a : Addr} {xs : List V} {ds : List D} : SqT K H a xs → xs.length ≤ sizeLine → RepAll K hs xs ds → View K hs H (.ref a) (.ktp ds)
  | dK {a : Addr} {kvs : List (Key × V)} {ks vs : List D} : Rd H a (.dK kvs) → ks = (kvs.map fun p => keyD p.1) → RepAll K hs (kvs.map (·.2)) vs → View K hs H (.ref a) (.dct 0 ks vs)
  | dT {a : Addr} {kvs : List (List Key × V)} {ks vs : List D} : Rd H a (.dT kvs) → ks = (kvs.map fun p => keyT p.1) → RepAll K hs (kvs.map (·.2)) vs → View K hs H (.ref a) (.dct 1 ks vs)
  | ins {a C dx : Addr} {c : Str} {fs : List (Str × V)} {ns : List Str} {vs : List D} : H a = some (.ins C dx fs) → C = He.ga K c → ns = fs.map (·.1) → RepAll K hs (fs.map (·.2)) vs → View K hs H (.ref a) (.ins c ns vs)
theorem Rep.view {K : PySem.W.Frag} {hs H : Hp} {v : V} {d : D} (r : Rep K hs v d) (e : Sub hs H) : View K hs H v d := by
  cases r with
  | non => exact .non
  | bl b => exact .bl b
  | int i => exact .int i
  | str g => exact .str g
  | lst q l t => exact .lst (e.sqL q) l t
  | tup q l t => exact .tup (e.tup q) l t
  | ktp q l t => exact .ktp (e.sqT q) l t
  | dK q k t => exact .dK (e.rd q) k t
  | dT q k t => exact .dT (e.rd q) k t
  | ins q c n t => exact .ins (e.ins q) c n t
section
variable (K : PySem.W.Frag)
def tV (f : FE) : TE := fun σ H Q => ∃ w ρ d ρ', EnvOk K w ρ σ H ∧ f ρ = some (d, ρ') ∧ ∀ v w' H', Fr w H w' H' → EnvOk K w' ρ' σ H' → Rep K w'.hs v d → Q v H'
def tN (f : FE) : TE := fun σ H Q => ∃ w ρ d ρ', EnvOk K w ρ σ H ∧ f ρ = some (d, ρ') ∧ ∀ v w' H', Fr w H w' H' → EnvOk K w' ρ' σ H' → Fresh K w' H H' v d → Q v H'
def tP (f : FE) : TE := fun σ H Q => ∃ w ρ d ρ', EnvOk K w ρ σ H ∧ f ρ = some (d, ρ') ∧ ∀ v w' H', Fr w H w' H' → EnvOk K w' ρ' σ H' → View K w'.hs H' v d → Q v H'
def tTb (f : FT) : TT := fun σ H Q => ∃ w ρ b ρ', EnvOk K w ρ σ H ∧ f ρ = some (b, ρ') ∧ ∀ w' H', Fr w H w' H' → EnvOk K w' ρ' σ H' → Q b H'
def tAs (f : FA) : TA := fun σ H Q => ∃ w ρ ds ρ', EnvOk K w ρ σ H ∧ f ρ = some (ds, ρ') ∧ ∀ vs w' H', Fr w H w' H' → EnvOk K w' ρ' σ H' → RepAll K w'.hs vs ds → Q vs H'
def OutOk (w : Wd) (H : Hp) (E : Ends) : Out → Prop
  | .nx ρ' => ∀ σ' w' H', Fr w H w' H' → EnvOk K w' ρ' σ' H' → E.nx σ' H'
  | .rt d ρ' => ∀ v σ' w' H', Fr w H w' H' → EnvOk K w' ρ' σ' H' → Rep K w'.hs v d → E.rt v H'
  | .bk ρ' => ∀ σ' w' H', Fr w H w' H' → EnvOk K w' ρ' σ' H' → E.bk σ' H'
  | .ct ρ' => ∀ σ' w' H', Fr w H w' H' → EnvOk K w' ρ' σ' H' → E.ct σ' H'
def tSt (f : FS) : TS := fun E σ H => ∃ w ρ o, EnvOk K w ρ σ H ∧ f ρ = some o ∧ OutOk K w H E o
end
abbrev VE (X : Cx) (e : Expr) (f : FE) : Prop := PE X e (tV X.K f)
abbrev VN (X : Cx) (e : Expr) (f : FE) : Prop := PE X e (tN X.K f)
abbrev VP (X : Cx) (e : Expr) (f : FE) : Prop := PE X e (tP X.K f)
abbrev VT (X : Cx) (e : Expr) (f : FT) : Prop := PT X e (tTb X.K f)
abbrev VA (X : Cx) (es : List Expr) (f : FA) : Prop := PA X es (tAs X.K f)
abbrev VS1 (X : Cx) (st : Stmt) (f : FS) : Prop := PS X st (tSt X.K f)
abbrev VSs (X : Cx) (st : List Stmt) (f : FS) : Prop := PSs X st (tSt X.K f)
theorem OutOk.fr {K : PySem.W.Frag} {w w1 : Wd} {H H1 : Hp} {E : Ends} {o : Out} (f : Fr w H w1 H1) (h : OutOk K w H E o) : OutOk K w1 H1 E o := by
  cases o with
  | nx ρ => exact fun σ' w' H' f' e => h σ' w' H' (f.trans f') e
  | rt d ρ => exact fun v σ' w' H' f' e r => h v σ' w' H' (f.trans f') e r
  | bk ρ => exact fun σ' w' H' f' e => h σ' w' H' (f.trans f') e
  | ct ρ => exact fun σ' w' H' f' e => h σ' w' H' (f.trans f') e
section
variable {X : Cx} {e : Expr} {t t' : TE}
theorem weakE (h : PE X e t) (k : ∀ σ H Q, t' σ H Q → t σ H Q) : PE X e t' := ⟨fun pins s σ H Q I q => h.run pins s σ H Q I (k σ H Q q)⟩
theorem weakT {t t' : TT} (h : PT X e t) (k : ∀ σ H Q, t' σ H Q → t σ H Q) : PT X e t' := ⟨fun pins s σ H Q I q => h.run pins s σ H Q I (k σ H Q q)⟩
theorem weakA {es : List Expr} {t t' : TA} (h : PA X es t) (k : ∀ σ H Q, t' σ H Q → t σ H Q) : PA X es t' := ⟨fun pos pins s σ H Q I q => h.run pos pins s σ H Q I (k σ H Q q)⟩
theorem weakS {st : Stmt} {t t' : TS} (h : PS X st t) (k : ∀ E σ H, t' E σ H → t E σ H) : PS X st t' := ⟨fun pins s σ H E I q => h.run pins s σ H E I (k E σ H q)⟩
theorem weakSs {st : List Stmt} {t t' : TS} (h : PSs X st t) (k : ∀ E σ H, t' E σ H → t E σ H) : PSs X st t' := ⟨fun pins s σ H E I q => h.run pins s σ H E I (k E σ H q)⟩
/-- cases by what is asked -/
theorem orE {ι : Type} {t : ι → TE} (h : ∀ i, PE X e (t i)) (k : ∀ σ H Q, t' σ H Q → ∃ i, t i σ H Q) : PE X e t' := ⟨fun pins s σ H Q I q => by
  obtain ⟨i, q'⟩ := k σ H Q q
  exact (h i).run pins s σ H Q I q'⟩
end
theorem Fresh.old {K : PySem.W.Frag} {w0 w1 w : Wd} {H0 H1 H : Hp} {v : V} {d : D} (r : Fresh K w H1 H v d) (f : Fr w0 H0 w1 H1) : Fresh K w H0 H v d := by
  cases r with
  | lst h0 => exact .lst (f.free h0) ‹_› ‹_› ‹_› ‹_› ‹_›
  | dK h0 => exact .dK (f.free h0) ‹_› ‹_› ‹_› ‹_› ‹_›
  | dT h0 => exact .dT (f.free h0) ‹_› ‹_› ‹_› ‹_› ‹_›
  | flow h0 h1 => exact .flow (f.free h0) (f.free h1) ‹_› ‹_› ‹_› ‹_› ‹_› ‹_› ‹_› ‹_›
  | nums h0 => exact .nums (f.free h0) ‹_› ‹_› ‹_›
/-! ### combinators -/
def fC (d : D) : FE := fun ρ => some (d, ρ)
def D.isBox : D → Bool
  | .box _ _ => true
  | _ => false
def fN (i : Nat) : FE := fun ρ => match ρ[i]? with
  | some (.s d) => some (d, ρ)
  | some (.o d) => if d.isBox then none else some (d, ρ.set i (.s d))
  | _ => none
/-- a look at a slot -/
def pN (i : Nat) : FE := fun ρ => match ρ[i]? with
  | some (.s d) => some (d, ρ)
  | some (.o d) => if d.isBox then none else some (d, ρ)
  | _ => none
def fU (op : D → Option D) (f : FE) : FE := fun ρ => (f ρ).bind fun p => (op p.1).map fun d => (d, p.2)
def fB (op : D → D → Option D) (f g : FE) : FE := fun ρ => (f ρ).bind fun p => (g p.2).bind fun q => (op p.1 q.1).map fun d => (d, q.2)
def aN : FA := fun ρ => some ([], ρ)
def aC (f : FE) (g : FA) : FA := fun ρ => (f ρ).bind fun p => (g p.2).map fun q => (p.1 :: q.1, q.2)
def fAp (op : List D → Option D) (a : FA) : FE := fun ρ => (a ρ).bind fun p => (op p.1).map fun d => (d, p.2)
def fIf (c : FT) (f g : FE) : FE := fun ρ => (c ρ).bind fun p => if p.1 then f p.2 else g p.2
def tF (op : D → Option Bool) (f : FE) : FT := fun ρ => (f ρ).bind fun p => (op p.1).map fun b => (b, p.2)
def cAnd (a b : FT) : FT := fun ρ => (a ρ).bind fun p => if p.1 then b p.2 else some (false, p.2)
def cOr (a b : FT) : FT := fun ρ => (a ρ).bind fun p => if p.1 then some (true, p.2) else b p.2
def cNot (a : FT) : FT := fun ρ => (a ρ).map fun p => (!p.1, p.2)
def sNx : FS := fun ρ => some (.nx ρ)
def sBk : FS := fun ρ => some (.bk ρ)
def sCt : FS := fun ρ => some (.ct ρ)
def sNo : FS := fun _ => none
def sSeq (a b : FS) : FS := fun ρ => match a ρ with
  | some (.nx ρ1) => b ρ1
  | r => r
def sEx (f : FE) : FS := fun ρ => (f ρ).map fun p => .nx p.2
def sRt (f : FE) : FS := fun ρ => (f ρ).map fun p => .rt p.1 p.2
def sRtN : FS := fun ρ => some (.rt .non ρ)
def sIf (c : FT) (a b : FS) : FS := fun ρ => (c ρ).bind fun p => if p.1 then a p.2 else b p.2
/-- a slot is stored: shared, owned -/
def sSet (i : Nat) (f : FE) : FS := fun ρ => (f ρ).map fun p => .nx (p.2.set i (.s p.1))
def sSetO (i : Nat) (f : FE) : FS := fun ρ => (f ρ).map fun p => .nx (p.2.set i (.o p.1))
section
variable {X : Cx} {a b c e : Expr} {f g : FE} {pos : Pos}
/-! ### names, constants -/
theorem ve_name {i : Nat} {x : Str} (h : PE X (.Name x pos) (tVar i)) : VE X (.Name x pos) (fN i) := by
  refine weakE h fun σ H Q q => ?_
  obtain ⟨w, ρ, d, ρ', ok, ef, k⟩ := q
  unfold fN at ef
  split at ef
  · rename_i d' e
    cases ef
    obtain ⟨v, hv, r⟩ := ok.sh i d e
    exact ⟨v, hv, k v w H (.refl _ _) ok r⟩
  · rename_i d' e
    split at ef
    · cases ef
    · rename_i nb
      cases ef
      obtain ⟨v, hv, r⟩ := ok.ow i d e
      obtain ⟨w', f', ok', r'⟩ := ok.give hv r (fun p c z => nb (by rw [z]; rfl))
      exact ⟨v, hv, k v w' H f' ok' r'⟩
  · cases ef
theorem RepO.view {K : PySem.W.Frag} {w : Wd} {H : Hp} {i : Nat} {v : V} {d : D} (r : RepO K w H i v d) (nb : d.isBox = false) : View K w.hs H v d := by
  cases r with
  | lst h1 h2 hl h3 => exact .lst (.of h2) hl h3
  | dK h1 h2 h3 h4 => exact .dK (.inl h2) h3 h4
  | dT h1 h2 h3 h4 => exact .dT (.inl h2) h3 h4
  | ins h0 h1 h2 h3 h4 h5 => exact .ins h2 h3 h4 h5
  | flow => cases nb
  | nums => cases nb
theorem vp_name {i : Nat} {x : Str} (h : PE X (.Name x pos) (tVar i)) : VP X (.Name x pos) (pN i) := by
  refine weakE h fun σ H Q q => ?_
  obtain ⟨w, ρ, d, ρ', ok, ef, k⟩ := q
  unfold pN at ef
  split at ef
  · rename_i d' e
    cases ef
    obtain ⟨v, hv, r⟩ := ok.sh i d e
    exact ⟨v, hv, k v w H (.refl _ _) ok (r.view ok.sub)⟩
  · rename_i d' e
    split at ef
    · cases ef
    · rename_i nb
      cases ef
      obtain ⟨v, hv, r⟩ := ok.ow i d e
      exact ⟨v, hv, k v w H (.refl _ _) ok (r.view (by simpa using nb))⟩
  · cases ef
theorem VE.vp (h : VE X e f) : VP X e f := weakE h fun σ H Q q => by
  obtain ⟨w, ρ, d, ρ', ok, ef, k⟩ := q
  exact ⟨w, ρ, d, ρ', ok, ef, fun v w' H' fr ok' r => k v w' H' fr ok' (r.view ok'.sub)⟩
theorem VN.ve (h : VN X e f) (nb : ∀ ρ d ρ', f ρ = some (d, ρ') → d.isBox = false) : VE X e f := weakE h fun σ H Q q => by
  obtain ⟨w, ρ, d, ρ', ok, ef, k⟩ := q
  refine ⟨w, ρ, d, ρ', ok, ef, fun v w' H' fr ok' r => ?_⟩
  have nb' := nb ρ d ρ' ef
  obtain ⟨w2, f2, ok2, r2⟩ := r.share (fun p c z => by rw [z] at nb'; cases nb') ok' fr
  exact k v w2 H' f2 ok2 r2
theorem ve_c {v : V} {d : D} (h : PE X e (tC v)) (r : ∀ H, Rep X.K H v d) : VE X e (fC d) := weakE h fun σ H Q q => by
  obtain ⟨w, ρ, d', ρ', ok, ef, k⟩ := q
  cases ef
  exact k v w H (.refl _ _) ok (r _)
/-! ### operators by values -/
theorem ve_un {r : V → Hp → VK → Prop} {op : D → Option D} (h : PE X e (fun σ H Q => tV X.K f σ H fun x H1 => r x H1 Q))
    (k : ∀ (w : Wd) (ρ : En) (σ : L2.St) (H : Hp) (v : V) (d d' : D) (Q : VK), EnvOk X.K w ρ σ H → Rep X.K w.hs v d → op d = some d' → (∀ v' w' H', Fr w H w' H' → EnvOk X.K w' ρ σ H' → Rep X.K w'.hs v' d' → Q v' H') → r v H Q) : VE X e (fU op f) := by
  refine weakE h fun σ H Q q => ?_
  obtain ⟨w, ρ, d', ρ', ok, ef, kk⟩ := q
  unfold fU at ef
  obtain ⟨⟨d, ρ1⟩, e1, e2⟩ := Option.bind_eq_some_iff.mp ef
  obtain ⟨d2, e3, e4⟩ := Option.map_eq_some_iff.mp e2
  cases e4
  refine ⟨w, ρ, d, ρ1, ok, e1, fun v w1 H1 f1 ok1 r1 => ?_⟩
  exact k w1 ρ1 σ H1 v d d' Q ok1 r1 e3 fun v' w' H' f' ok' r' => kk v' w' H' (f1.trans f') ok' r'
/-- .. of a look -/
theorem ve_unP {ι : Type} {r : ι → V → Hp → VK → Prop} {op : D → Option D} (h : ∀ i, PE X e (fun σ H Q => tP X.K f σ H fun x H1 => r i x H1 Q))
    (k : ∀ (d d' : D), op d = some d' → ∃ i, ∀ (w : Wd) (ρ : En) (σ : L2.St) (H : Hp) (v : V) (Q : VK), EnvOk X.K w ρ σ H → View X.K w.hs H v d → (∀ v' w' H', Fr w H w' H' → EnvOk X.K w' ρ σ H' → Rep X.K w'.hs v' d' → Q v' H') → r i v H Q) : VE X e (fU op f) := by
  refine orE h fun σ H Q q => ?_
  obtain ⟨w, ρ, d', ρ', ok, ef, kk⟩ := q
  unfold fU at ef
  obtain ⟨⟨d, ρ1⟩, e1, e2⟩ := Option.bind_eq_some_iff.mp ef
  obtain ⟨d2, e3, e4⟩ := Option.map_eq_some_iff.mp e2
  cases e4
  obtain ⟨i, ki⟩ := k d d' e3
  refine ⟨i, w, ρ, d, ρ1, ok, e1, fun v w1 H1 f1 ok1 r1 => ?_⟩
  exact ki w1 ρ1 σ H1 v Q ok1 r1 fun v' w' H' f' ok' r' => kk v' w' H' (f1.trans f') ok' r'
/-- two operands; the rules are by cases ι -/
theorem ve_bin {ι : Type} {r : ι → R2} {op : D → D → Option D} (h : ∀ i, PE X e (tOp (r i) (tV X.K f) (tV X.K g)))
    (k : ∀ (x y z : D), op x y = some z → ∃ i, ∀ (w : Wd) (ρ : En) (σ : L2.St) (H : Hp) (v u : V) (Q : VK), EnvOk X.K w ρ σ H → Rep X.K w.hs v x → Rep X.K w.hs u y → (∀ v' w' H', Fr w H w' H' → EnvOk X.K w' ρ σ H' → Rep X.K w'.hs v' z → Q v' H') → r i v u H Q) : VE X e (fB op f g) := by
  refine orE h fun σ H Q q => ?_
  obtain ⟨w, ρ, z, ρ', ok, ef, kk⟩ := q
  unfold fB at ef
  obtain ⟨⟨x, ρ1⟩, e1, e2⟩ := Option.bind_eq_some_iff.mp ef
  obtain ⟨⟨y, ρ2⟩, e3, e4⟩ := Option.bind_eq_some_iff.mp e2
  obtain ⟨z2, e5, e6⟩ := Option.map_eq_some_iff.mp e4
  cases e6
  obtain ⟨i, ki⟩ := k x y z e5
  refine ⟨i, w, ρ, x, ρ1, ok, e1, fun v w1 H1 f1 ok1 r1 => ⟨w1, ρ1, y, ρ2, ok1, e3, fun u w2 H2 f2 ok2 r2 => ?_⟩⟩
  exact ki w2 ρ2 σ H2 v u Q ok2 (r1.mono (.of f2.sh)) r2 fun v' w' H' f' ok' r' => kk v' w' H' (f1.trans (f2.trans f')) ok' r'
/-- .. the right one a look -/
theorem ve_binP {ι : Type} {r : ι → R2} {op : D → D → Option D} (h : ∀ i, PE X e (tOp (r i) (tV X.K f) (tP X.K g)))
    (k : ∀ (x y z : D), op x y = some z → ∃ i, ∀ (w : Wd) (ρ : En) (σ : L2.St) (H : Hp) (v u : V) (Q : VK), EnvOk X.K w ρ σ H → Rep X.K w.hs v x → View X.K w.hs H u y → (∀ v' w' H', Fr w H w' H' → EnvOk X.K w' ρ σ H' → Rep X.K w'.hs v' z → Q v' H') → r i v u H Q) : VE X e (fB op f g) := by
  refine orE h fun σ H Q q => ?_
  obtain ⟨w, ρ, z, ρ', ok, ef, kk⟩ := q
  unfold fB at ef
  obtain ⟨⟨x, ρ1⟩, e1, e2⟩ := Option.bind_eq_some_iff.mp ef
  obtain ⟨⟨y, ρ2⟩, e3, e4⟩ := Option.bind_eq_some_iff.mp e2
  obtain ⟨z2, e5, e6⟩ := Option.map_eq_some_iff.mp e4
  cases e6
  obtain ⟨i, ki⟩ := k x y z e5
  refine ⟨i, w, ρ, x, ρ1, ok, e1, fun v w1 H1 f1 ok1 r1 => ⟨w1, ρ1, y, ρ2, ok1, e3, fun u w2 H2 f2 ok2 r2 => ?_⟩⟩
  exact ki w2 ρ2 σ H2 v u Q ok2 (r1.mono (.of f2.sh)) r2 fun v' w' H' f' ok' r' => kk v' w' H' (f1.trans (f2.trans f')) ok' r'
/-! ### arguments -/
theorem va_nil : VA X [] aN := weakA pa_nil fun σ H Q q => by
  obtain ⟨w, ρ, ds, ρ', ok, ef, k⟩ := q
  cases ef
  exact k [] w H (.refl _ _) ok .nil
theorem va_cons {es : List Expr} {ga : FA} (ha : VE X e f) (hr : VA X es ga) (hs : starEach (e :: es) X.env = (false, eval e X.env) :: starEach es X.env := by rfl) : VA X (e :: es) (aC f ga) := by
  refine weakA (pa_cons ha hr hs) fun σ H Q q => ?_
  obtain ⟨w, ρ, ds, ρ', ok, ef, k⟩ := q
  unfold aC at ef
  obtain ⟨⟨x, ρ1⟩, e1, e2⟩ := Option.bind_eq_some_iff.mp ef
  obtain ⟨⟨xs, ρ2⟩, e3, e4⟩ := Option.map_eq_some_iff.mp e2
  cases e4
  refine ⟨w, ρ, x, ρ1, ok, e1, fun v w1 H1 f1 ok1 r1 => ⟨w1, ρ1, xs, _, ok1, e3, fun vs w2 H2 f2 ok2 r2 => ?_⟩⟩
  exact k (v :: vs) w2 H2 (f1.trans f2) ok2 (.cons (r1.mono (.of f2.sh)) r2)
/-- a call by values; the rules are by cases ι -/
theorem ve_ap {ι : Type} {es : List Expr} {ga : FA} {r : ι → List V → Hp → VK → Prop} {op : List D → Option D} (h : ∀ i, PE X e (tCB (r i) (tAs X.K ga)))
    (k : ∀ (ds : List D) (d : D), op ds = some d → ∃ i, ∀ (w : Wd) (ρ : En) (σ : L2.St) (H : Hp) (vs : List V) (Q : VK), EnvOk X.K w ρ σ H → RepAll X.K w.hs vs ds → (∀ v' w' H', Fr w H w' H' → EnvOk X.K w' ρ σ H' → Rep X.K w'.hs v' d → Q v' H') → r i vs H Q) : VE X e (fAp op ga) := by
  refine orE h fun σ H Q q => ?_
  obtain ⟨w, ρ, z, ρ', ok, ef, kk⟩ := q
  unfold fAp at ef
  obtain ⟨⟨ds, ρ1⟩, e1, e2⟩ := Option.bind_eq_some_iff.mp ef
  obtain ⟨d2, e3, e4⟩ := Option.map_eq_some_iff.mp e2
  cases e4
  obtain ⟨i, ki⟩ := k ds z e3
  exact ⟨i, w, ρ, ds, ρ1, ok, e1, fun vs w1 H1 f1 ok1 r1 => ki w1 ρ1 σ H1 vs Q ok1 r1 fun v' w' H' f' ok' r' => kk v' w' H' (f1.trans f') ok' r'⟩
/-- .. that gives a new thing -/
theorem vn_ap {ι : Type} {es : List Expr} {ga : FA} {r : ι → List V → Hp → VK → Prop} {op : List D → Option D} (h : ∀ i, PE X e (tCB (r i) (tAs X.K ga)))
    (k : ∀ (ds : List D) (d : D), op ds = some d → ∃ i, ∀ (w : Wd) (ρ : En) (σ : L2.St) (H : Hp) (vs : List V) (Q : VK), EnvOk X.K w ρ σ H → RepAll X.K w.hs vs ds → (∀ v' w' H', Fr w H w' H' → EnvOk X.K w' ρ σ H' → Fresh X.K w' H H' v' d → Q v' H') → r i vs H Q) : VN X e (fAp op ga) := by
  refine orE h fun σ H Q q => ?_
  obtain ⟨w, ρ, z, ρ', ok, ef, kk⟩ := q
  unfold fAp at ef
  obtain ⟨⟨ds, ρ1⟩, e1, e2⟩ := Option.bind_eq_some_iff.mp ef
  obtain ⟨d2, e3, e4⟩ := Option.map_eq_some_iff.mp e2
  cases e4
  obtain ⟨i, ki⟩ := k ds z e3
  exact ⟨i, w, ρ, ds, ρ1, ok, e1, fun vs w1 H1 f1 ok1 r1 => ki w1 ρ1 σ H1 vs Q ok1 r1 fun v' w' H' f' ok' r' => kk v' w' H' (f1.trans f') ok' (r'.old f1)⟩
end
end VS
set_option autoImplicit false
namespace VS
open PySem PySem.Spec PyProof.Rows L2 AR
section
variable {X : Cx} {a b c e : Expr} {f g : FE} {pos : Pos}
/-! ### displays -/
def mkL (ds : List D) : Option D := if ds.length ≤ sizeLine then some (.lst ds) else none
def mkT (ds : List D) : Option D := if ds.length ≤ sizeLine then some (.tup ds) else none
theorem new_lst {K : PySem.W.Frag} {w : Wd} {ρ : En} {σ : L2.St} {H : Hp} {vs : List V} {ds : List D} {Q : VK} (ok : EnvOk K w ρ σ H) (r : RepAll K w.hs vs ds) (hl : vs.length ≤ sizeLine)
    (k : ∀ v' w' H', Fr w H w' H' → EnvOk K w' ρ σ H' → Fresh K w' H H' v' (.lst ds) → Q v' H') : ∀ p, H p = none → Q (.ref p) (upd H p (.lst vs)) := fun p hp => by
  obtain ⟨h1, h2⟩ := ok.free hp
  obtain ⟨f1, ok1⟩ := ok.tmp (o := .lst vs) hp (fun _ z => nomatch z)
  exact k _ w _ f1 ok1 (.lst hp h2 h1 upd_same hl r)
theorem new_tup {K : PySem.W.Frag} {w : Wd} {ρ : En} {σ : L2.St} {H : Hp} {vs : List V} {ds : List D} {Q : VK} (ok : EnvOk K w ρ σ H) (r : RepAll K w.hs vs ds) (hl : vs.length ≤ sizeLine)
    (k : ∀ v' w' H', Fr w H w' H' → EnvOk K w' ρ σ H' → Rep K w'.hs v' (.tup ds) → Q v' H') : ∀ p, H p = none → Q (.ref p) (upd H p (.tup vs)) := fun p hp => by
  obtain ⟨f1, ok1, sm⟩ := ok.new (o := .tup vs) hp
  exact k _ _ _ f1 ok1 (.tup upd_same hl (r.mono (.of sm)))
theorem vn_list {es : List Expr} {ga : FA} (h : VA X es ga) : VN X (.List es pos) (fAp mkL ga) := by
  refine vn_ap (es := es) (ι := Unit) (r := fun _ vs H Q => vs.length ≤ sizeLine ∧ ∀ p, H p = none → Q (.ref p) (upd H p (.lst vs))) (fun _ => pe_lst h) fun ds d ed => ⟨(), fun w ρ σ H vs Q ok r k => ?_⟩
  unfold mkL at ed
  split at ed
  · rename_i hl
    cases ed
    exact ⟨by rw [r.length]; exact hl, new_lst ok r (by rw [r.length]; exact hl) k⟩
  · cases ed
theorem mkL_nb {ga : FA} : ∀ ρ d ρ', fAp mkL ga ρ = some (d, ρ') → d.isBox = false := fun ρ d ρ' h => by
  unfold fAp at h
  obtain ⟨⟨ds, ρ1⟩, e1, e2⟩ := Option.bind_eq_some_iff.mp h
  obtain ⟨d2, e3, e4⟩ := Option.map_eq_some_iff.mp e2
  cases e4
  unfold mkL at e3
  split at e3
  · cases e3; rfl
  · cases e3
theorem ve_list {es : List Expr} {ga : FA} (h : VA X es ga) : VE X (.List es pos) (fAp mkL ga) := VN.ve (vn_list h) mkL_nb
theorem ve_tup {es : List Expr} {ga : FA} {x1} (h : VA X es ga) : VE X (.Tuple es x1 pos) (fAp mkT ga) := by
  refine ve_ap (es := es) (ι := Unit) (r := fun _ vs H Q => vs.length ≤ sizeLine ∧ ∀ p, H p = none → Q (.ref p) (upd H p (.tup vs))) (fun _ => pe_tup h) fun ds d ed => ⟨(), fun w ρ σ H vs Q ok r k => ?_⟩
  unfold mkT at ed
  split at ed
  · rename_i hl
    cases ed
    exact ⟨by rw [r.length]; exact hl, new_tup ok r (by rw [r.length]; exact hl) k⟩
  · cases ed
/-! ### tests -/
def truD : D → Option Bool
  | .non => some false
  | .bl b => some b
  | .int i => some (i != 0)
  | .str x => some ((x.length : Int) != 0)
  | .lst xs => some (!xs.isEmpty)
  | .tup xs => some (!xs.isEmpty)
  | _ => none
def blD : D → Option Bool
  | .bl b => some b
  | _ => none
theorem isEmpty_rep {K : PySem.W.Frag} {H : Hp} {vs : List V} {ds : List D} (r : RepAll K H vs ds) : vs.isEmpty = ds.isEmpty := by cases r <;> rfl
theorem tru_of {K : PySem.W.Frag} {hs H : Hp} {v : V} {d : D} {b : Bool} (r : View K hs H v d) (h : truD d = some b) : TruV K v H b := by
  cases r with
  | non => cases h; rfl
  | bl b => cases h; rfl
  | int i => cases h; rfl
  | str g => cases h; exact ⟨g.1, rfl⟩
  | lst q l t => cases h; exact .inl ⟨_, q, by rw [isEmpty_rep t]⟩
  | tup q l t => cases h; exact .inr (.inl ⟨_, .of q, by rw [isEmpty_rep t]⟩)
  | ktp q l t => cases h
  | dK q e t => cases h
  | dT q e t => cases h
  | ins => cases h
theorem vt_tru (h : VP X e f) (he : ∀ whole, isTrue e X.env whole = (do let v ← whole; standAt e.pos; holding [v] (truthy v)) := by intro _; rfl) : VT X e (tF truD f) := by
  refine weakT (pt_truth h he) fun σ H Q q => ?_
  obtain ⟨w, ρ, b, ρ', ok, ef, k⟩ := q
  unfold tF at ef
  obtain ⟨⟨d, ρ1⟩, e1, e2⟩ := Option.bind_eq_some_iff.mp ef
  obtain ⟨b2, e3, e4⟩ := Option.map_eq_some_iff.mp e2
  cases e4
  exact ⟨w, ρ, d, _, ok, e1, fun v w1 H1 f1 ok1 r1 => ⟨b, tru_of r1 e3, k w1 H1 f1 ok1⟩⟩
theorem vt_bl (h : VE X e f) (he : ∀ whole, isTrue e X.env whole = (do let v ← whole; standAt e.pos; holding [v] (truthy v)) := by intro _; rfl) : VT X e (tF blD f) := by
  refine weakT (pt_val h he) fun σ H Q q => ?_
  obtain ⟨w, ρ, b, ρ', ok, ef, k⟩ := q
  unfold tF at ef
  obtain ⟨⟨d, ρ1⟩, e1, e2⟩ := Option.bind_eq_some_iff.mp ef
  obtain ⟨b2, e3, e4⟩ := Option.map_eq_some_iff.mp e2
  cases e4
  refine ⟨w, ρ, d, _, ok, e1, fun v w1 H1 f1 ok1 r1 => ?_⟩
  cases d <;> cases e3
  cases r1
  exact ⟨b, rfl, k w1 H1 f1 ok1⟩
/-- the answers of a two-place rule -/
def KB (K : PySem.W.Frag) {ι : Type} (r : ι → R2) (op : D → D → Option D) : Prop :=
  ∀ (x y z : D), op x y = some z → ∃ i, ∀ (w : Wd) (ρ : En) (σ : L2.St) (H : Hp) (v u : V) (Q : VK), EnvOk K w ρ σ H → Rep K w.hs v x → Rep K w.hs u y → (∀ v' w' H', Fr w H w' H' → EnvOk K w' ρ σ H' → Rep K w'.hs v' z → Q v' H') → r i v u H Q
def KBP (K : PySem.W.Frag) {ι : Type} (r : ι → R2) (op : D → D → Option D) : Prop :=
  ∀ (x y z : D), op x y = some z → ∃ i, ∀ (w : Wd) (ρ : En) (σ : L2.St) (H : Hp) (v u : V) (Q : VK), EnvOk K w ρ σ H → Rep K w.hs v x → View K w.hs H u y → (∀ v' w' H', Fr w H w' H' → EnvOk K w' ρ σ H' → Rep K w'.hs v' z → Q v' H') → r i v u H Q
theorem vt_bin {ι : Type} {r : ι → R2} {op : D → D → Option D} (h : ∀ i, PT X e (tTest (tOp (r i) (tV X.K f) (tV X.K g)))) (k : KB X.K r op) : VT X e (tF blD (fB op f g)) := by
  refine ⟨fun pins s σ H Q I q => ?_⟩
  obtain ⟨w, ρ, b, ρ', ok, ef, kk⟩ := q
  unfold tF fB at ef
  obtain ⟨⟨z, ρ3⟩, e0, e9⟩ := Option.bind_eq_some_iff.mp ef
  obtain ⟨⟨x, ρ1⟩, e1, e2⟩ := Option.bind_eq_some_iff.mp e0
  obtain ⟨⟨y, ρ2⟩, e3, e4⟩ := Option.bind_eq_some_iff.mp e2
  obtain ⟨z2, e5, e6⟩ := Option.map_eq_some_iff.mp e4
  cases e6
  obtain ⟨b2, e7, e8⟩ := Option.map_eq_some_iff.mp e9
  cases e8
  obtain ⟨i, ki⟩ := k x y z e5
  refine (h i).run pins s σ H Q I ⟨w, ρ, x, ρ1, ok, e1, fun v w1 H1 f1 ok1 r1 => ⟨w1, ρ1, y, ρ2, ok1, e3, fun u w2 H2 f2 ok2 r2 => ?_⟩⟩
  refine ki w2 ρ2 σ H2 v u _ ok2 (r1.mono (.of f2.sh)) r2 fun v' w' H' f' ok' r' => ?_
  cases z <;> cases e7
  cases r'
  exact ⟨b, rfl, kk w' H' (f1.trans (f2.trans f')) ok'⟩
theorem vt_binP {ι : Type} {r : ι → R2} {op : D → D → Option D} (h : ∀ i, PT X e (tTest (tOp (r i) (tV X.K f) (tP X.K g)))) (k : KBP X.K r op) : VT X e (tF blD (fB op f g)) := by
  refine ⟨fun pins s σ H Q I q => ?_⟩
  obtain ⟨w, ρ, b, ρ', ok, ef, kk⟩ := q
  unfold tF fB at ef
  obtain ⟨⟨z, ρ3⟩, e0, e9⟩ := Option.bind_eq_some_iff.mp ef
  obtain ⟨⟨x, ρ1⟩, e1, e2⟩ := Option.bind_eq_some_iff.mp e0
  obtain ⟨⟨y, ρ2⟩, e3, e4⟩ := Option.bind_eq_some_iff.mp e2
  obtain ⟨z2, e5, e6⟩ := Option.map_eq_some_iff.mp e4
  cases e6
  obtain ⟨b2, e7, e8⟩ := Option.map_eq_some_iff.mp e9
  cases e8
  obtain ⟨i, ki⟩ := k x y z e5
  refine (h i).run pins s σ H Q I ⟨w, ρ, x, ρ1, ok, e1, fun v w1 H1 f1 ok1 r1 => ⟨w1, ρ1, y, ρ2, ok1, e3, fun u w2 H2 f2 ok2 r2 => ?_⟩⟩
  refine ki w2 ρ2 σ H2 v u _ ok2 (r1.mono (.of f2.sh)) r2 fun v' w' H' f' ok' r' => ?_
  cases z <;> cases e7
  cases r'
  exact ⟨b, rfl, kk w' H' (f1.trans (f2.trans f')) ok'⟩
abbrev VW (X : Cx) (e : Expr) (f : FT) : Prop := PW X e (tTb X.K f)
variable {ca cb : FT} {rest : List Expr}
theorem weakW {t t' : TT} (h : PW X e t) (k : ∀ σ H Q, t' σ H Q → t σ H Q) : PW X e t' := ⟨fun wh pins s σ H Q I q => h.run wh pins s σ H Q I (k σ H Q q)⟩
theorem vw_and1 (h : VT X a ca) : VW X (.BoolOp .And [a] pos) ca := pw_and1 h
theorem vw_or1 (h : VT X a ca) : VW X (.BoolOp .Or [a] pos) ca := pw_or1 h
theorem vw_and (h1 : VT X a ca) (h2 : VW X (.BoolOp .And (b :: rest) pos) cb) : VW X (.BoolOp .And (a :: b :: rest) pos) (cAnd ca cb) := by
  refine weakW (pw_and h1 h2) fun σ H Q q => ?_
  obtain ⟨w, ρ, r, ρ', ok, ef, k⟩ := q
  obtain ⟨⟨x, ρ1⟩, e1, e2⟩ := Option.bind_eq_some_iff.mp ef
  refine ⟨w, ρ, x, ρ1, ok, e1, fun w1 H1 f1 ok1 => ?_⟩
  cases x with
  | true => rw [if_pos rfl]; exact ⟨w1, ρ1, r, ρ', ok1, e2, fun w2 H2 f2 ok2 => k w2 H2 (f1.trans f2) ok2⟩
  | false => rw [if_neg (by decide)]; cases e2; exact k w1 H1 f1 ok1
theorem vw_or (h1 : VT X a ca) (h2 : VW X (.BoolOp .Or (b :: rest) pos) cb) : VW X (.BoolOp .Or (a :: b :: rest) pos) (cOr ca cb) := by
  refine weakW (pw_or h1 h2) fun σ H Q q => ?_
  obtain ⟨w, ρ, r, ρ', ok, ef, k⟩ := q
  obtain ⟨⟨x, ρ1⟩, e1, e2⟩ := Option.bind_eq_some_iff.mp ef
  refine ⟨w, ρ, x, ρ1, ok, e1, fun w1 H1 f1 ok1 => ?_⟩
  cases x with
  | false => rw [if_neg (by decide)]; exact ⟨w1, ρ1, r, ρ', ok1, e2, fun w2 H2 f2 ok2 => k w2 H2 (f1.trans f2) ok2⟩
  | true => rw [if_pos rfl]; cases e2; exact k w1 H1 f1 ok1
theorem vt_not (h : VT X a ca) : VT X (.UnaryOp .Not a pos) (cNot ca) := by
  refine weakT (pt_not h) fun σ H Q q => ?_
  obtain ⟨w, ρ, r, ρ', ok, ef, k⟩ := q
  obtain ⟨⟨x, ρ1⟩, e1, e2⟩ := Option.map_eq_some_iff.mp ef
  cases e2
  exact ⟨w, ρ, x, _, ok, e1, k⟩
theorem ve_if (hc : VT X c ca) (ha : VE X a f) (hb : VE X b g) : VE X (.IfExp c a b pos) (fIf ca f g) := by
  refine weakE (pe_ifExp hc ha hb) fun σ H Q q => ?_
  obtain ⟨w, ρ, d, ρ', ok, ef, k⟩ := q
  obtain ⟨⟨x, ρ1⟩, e1, e2⟩ := Option.bind_eq_some_iff.mp ef
  refine ⟨w, ρ, x, ρ1, ok, e1, fun w1 H1 f1 ok1 => ?_⟩
  cases x with
  | true => rw [if_pos rfl]; exact ⟨w1, ρ1, d, ρ', ok1, e2, fun v w2 H2 f2 ok2 r2 => k v w2 H2 (f1.trans f2) ok2 r2⟩
  | false => rw [if_neg (by decide)]; exact ⟨w1, ρ1, d, ρ', ok1, e2, fun v w2 H2 f2 ok2 r2 => k v w2 H2 (f1.trans f2) ok2 r2⟩
/-- and, or, not of truth values as values -/
def fAnd (f g : FE) : FE := fun ρ => (f ρ).bind fun p => match p.1 with
  | .bl true => g p.2
  | .bl false => some (.bl false, p.2)
  | _ => none
def fOr (f g : FE) : FE := fun ρ => (f ρ).bind fun p => match p.1 with
  | .bl true => some (.bl true, p.2)
  | .bl false => g p.2
  | _ => none
def notD : D → Option D
  | .bl b => some (.bl !b)
  | _ => none
theorem ve_one {op} (h : VE X a f) : VE X (.BoolOp op [a] pos) f := pe_one h
theorem ve_and (h1 : VE X a f) (h2 : VE X (.BoolOp .And (b :: rest) pos) g) : VE X (.BoolOp .And (a :: b :: rest) pos) (fAnd f g) := by
  refine weakE (pe_and h1 h2) fun σ H Q q => ?_
  obtain ⟨w, ρ, d, ρ', ok, ef, k⟩ := q
  obtain ⟨⟨x, ρ1⟩, e1, e2⟩ := Option.bind_eq_some_iff.mp ef
  refine ⟨w, ρ, x, ρ1, ok, e1, fun v w1 H1 f1 ok1 r1 => ?_⟩
  cases r1 with
  | bl b =>
    cases b with
    | true => exact ⟨true, rfl, by rw [if_pos rfl]; exact ⟨w1, ρ1, d, ρ', ok1, e2, fun v w2 H2 f2 ok2 r2 => k v w2 H2 (f1.trans f2) ok2 r2⟩⟩
    | false => cases e2; exact ⟨false, rfl, by rw [if_neg (by decide)]; exact k _ w1 H1 f1 ok1 (.bl _)⟩
  | _ => cases e2
theorem ve_or (h1 : VE X a f) (h2 : VE X (.BoolOp .Or (b :: rest) pos) g) : VE X (.BoolOp .Or (a :: b :: rest) pos) (fOr f g) := by
  refine weakE (pe_or h1 h2) fun σ H Q q => ?_
  obtain ⟨w, ρ, d, ρ', ok, ef, k⟩ := q
  obtain ⟨⟨x, ρ1⟩, e1, e2⟩ := Option.bind_eq_some_iff.mp ef
  refine ⟨w, ρ, x, ρ1, ok, e1, fun v w1 H1 f1 ok1 r1 => ?_⟩
  cases r1 with
  | bl b =>
    cases b with
    | false => exact ⟨false, rfl, by rw [if_neg (by decide)]; exact ⟨w1, ρ1, d, ρ', ok1, e2, fun v w2 H2 f2 ok2 r2 => k v w2 H2 (f1.trans f2) ok2 r2⟩⟩
    | true => cases e2; exact ⟨true, rfl, by rw [if_pos rfl]; exact k _ w1 H1 f1 ok1 (.bl _)⟩
  | _ => cases e2
theorem ve_not (h : VE X a f) : VE X (.UnaryOp .Not a pos) (fU notD f) := by
  refine ve_un (r := fun x H Q => ∃ c, x = .bl c ∧ Q (.bl (!c)) H) (pe_not h) fun w ρ σ H v d d' Q ok r ed k => ?_
  cases r with
  | bl b => cases ed; exact ⟨b, rfl, k _ w H (.refl _ _) ok (.bl _)⟩
  | _ => cases ed
end
/-! ### statements -/
section
variable {X : Cx} {e : Expr} {f g : FE} {pos : Pos} {st : Stmt} {rest : List Stmt} {s1 s2 : FS}
theorem vs_nil : VSs X [] sNx := weakSs pss_nil fun E σ H q => by
  obtain ⟨w, ρ, o, ok, ef, k⟩ := q
  cases ef
  exact k σ w H (.refl _ _) ok
theorem vs_one (h : VS1 X st s1) : VSs X [st] s1 := pss_one h
theorem vs_cons (h1 : VS1 X st s1) (h2 : VSs X rest s2) : VSs X (st :: rest) (sSeq s1 s2) := by
  refine weakSs (pss_cons h1 h2) fun E σ H q => ?_
  obtain ⟨w, ρ, o, ok, ef, k⟩ := q
  unfold sSeq at ef
  cases e1 : s1 ρ with
  | none => rw [e1] at ef; cases ef
  | some o1 =>
    rw [e1] at ef
    refine ⟨w, ρ, o1, ok, e1, ?_⟩
    cases o1 with
    | nx ρ1 => exact fun σ' w' H' f' ok' => ⟨w', ρ1, o, ok', ef, k.fr f'⟩
    | rt d ρ1 => cases ef; exact k
    | bk ρ1 => cases ef; exact k
    | ct ρ1 => cases ef; exact k
theorem vs_pass : VS1 X (.Pass pos) sNx := weakS ps_pass fun E σ H q => by
  obtain ⟨w, ρ, o, ok, ef, k⟩ := q
  cases ef
  exact k σ w H (.refl _ _) ok
theorem vs_bk : VS1 X (.Break pos) sBk := weakS ps_break fun E σ H q => by
  obtain ⟨w, ρ, o, ok, ef, k⟩ := q
  cases ef
  exact k σ w H (.refl _ _) ok
theorem vs_ct : VS1 X (.Continue pos) sCt := weakS ps_continue fun E σ H q => by
  obtain ⟨w, ρ, o, ok, ef, k⟩ := q
  cases ef
  exact k σ w H (.refl _ _) ok
theorem vs_no : VS1 X st sNo := weakS ps_never fun E σ H q => by
  obtain ⟨w, ρ, o, ok, ef, k⟩ := q
  cases ef
theorem vs_ex (h : VE X e f) (hs : swapsWith e none pos.line X.env = pure false := by rfl) : VS1 X (.Expr e pos) (sEx f) := by
  refine weakS (ps_expr h hs) fun E σ H q => ?_
  obtain ⟨w, ρ, o, ok, ef, k⟩ := q
  obtain ⟨⟨x, ρ1⟩, e1, e2⟩ := Option.map_eq_some_iff.mp ef
  cases e2
  exact ⟨w, ρ, x, ρ1, ok, e1, fun v w1 H1 f1 ok1 r1 => k σ w1 H1 f1 ok1⟩
theorem vs_rt (h : VE X e f) : VS1 X (.Return (some e) pos) (sRt f) := by
  refine weakS (ps_ret h) fun E σ H q => ?_
  obtain ⟨w, ρ, o, ok, ef, k⟩ := q
  obtain ⟨⟨x, ρ1⟩, e1, e2⟩ := Option.map_eq_some_iff.mp ef
  cases e2
  exact ⟨w, ρ, x, ρ1, ok, e1, fun v w1 H1 f1 ok1 r1 => k v σ w1 H1 f1 ok1 r1⟩
theorem vs_rtN : VS1 X (.Return none pos) sRtN := weakS ps_retN fun E σ H q => by
  obtain ⟨w, ρ, o, ok, ef, k⟩ := q
  cases ef
  exact k .non σ w H (.refl _ _) ok .non
theorem vs_if {c : Expr} {a b : List Stmt} {ca : FT} (hc : VT X c ca) (ha : VSs X a s1) (hb : VSs X b s2) : VS1 X (.If c a b pos) (sIf ca s1 s2) := by
  refine weakS (ps_if hc ha hb) fun E σ H q => ?_
  obtain ⟨w, ρ, o, ok, ef, k⟩ := q
  obtain ⟨⟨x, ρ1⟩, e1, e2⟩ := Option.bind_eq_some_iff.mp ef
  refine ⟨w, ρ, x, ρ1, ok, e1, fun w1 H1 f1 ok1 => ?_⟩
  cases x with
  | true => rw [if_pos rfl]; exact ⟨w1, ρ1, o, ok1, e2, k.fr f1⟩
  | false => rw [if_neg (by decide)]; exact ⟨w1, ρ1, o, ok1, e2, k.fr f1⟩
theorem vs_set {i : Nat} {x : Str} {pos' : Pos} (hN : X.N.Nodup) (hi : X.N[i]? = some x) (hx : Loc X.env.scope x) (h : VE X e f) (hs : swapsWith e (some (.Name x pos')) pos.line X.env = pure false := by rfl) (hf : X.fn x = true ∨ X.env.scope.names.lookup x = some .local := by first | exact .inl rfl | exact .inr rfl | assumption) :
    VS1 X (.Assign [.Name x pos'] e pos) (sSet i f) := by
  refine weakS (ps_set hN hi hx h hs hf) fun E σ H q => ?_
  obtain ⟨w, ρ, o, ok, ef, k⟩ := q
  obtain ⟨⟨d, ρ1⟩, e1, e2⟩ := Option.map_eq_some_iff.mp ef
  cases e2
  exact ⟨w, ρ, d, ρ1, ok, e1, fun v w1 H1 f1 ok1 r1 => k _ w1 H1 f1 (ok1.setS r1)⟩
theorem vs_setO {i : Nat} {x : Str} {pos' : Pos} (hN : X.N.Nodup) (hi : X.N[i]? = some x) (hx : Loc X.env.scope x) (h : VN X e f) (hs : swapsWith e (some (.Name x pos')) pos.line X.env = pure false := by rfl) (hf : X.fn x = true ∨ X.env.scope.names.lookup x = some .local := by first | exact .inl rfl | exact .inr rfl | assumption) :
    VS1 X (.Assign [.Name x pos'] e pos) (sSetO i f) := by
  refine weakS (ps_set hN hi hx h hs hf) fun E σ H q => ?_
  obtain ⟨w, ρ, o, ok, ef, k⟩ := q
  obtain ⟨⟨d, ρ1⟩, e1, e2⟩ := Option.map_eq_some_iff.mp ef
  cases e2
  refine ⟨w, ρ, d, ρ1, ok, e1, fun v w1 H1 f1 ok1 r1 => ?_⟩
  obtain ⟨w2, f2, ok2⟩ := r1.store i ok1 f1
  exact k _ w2 H1 f2 ok2
/-! ### targets -/
abbrev FG := D → En → Option En
def tGt (K : PySem.W.Frag) (us : List Nat) (fg : FG) : TG := fun v σ H Q => ∃ w ρ d ρ', EnvOk K w ρ σ H ∧ Rep K w.hs v d ∧ fg d ρ = some ρ' ∧ ∀ σ', wipe σ' us = wipe σ us → EnvOk K w ρ' σ' H → Q σ' H
abbrev VG (X : Cx) (tg : Expr) (us : List Nat) (fg : FG) : Prop := PG X tg (tGt X.K us fg)
def gN (i : Nat) : FG := fun d ρ => some (ρ.set i (.s d))
theorem weakG {tg : Expr} {t t' : TG} (h : PG X tg t) (k : ∀ v σ H Q, t' v σ H Q → t v σ H Q) : PG X tg t' := ⟨fun pins s σ H v u Q I r q => h.run pins s σ H v u Q I r (k v σ H Q q)⟩
theorem wipe_get {vs : List Nat} : ∀ {σ : L2.St} {i : Nat}, i ∉ vs → (wipe σ vs)[i]? = σ[i]? := by
  induction vs with
  | nil => intro σ i _; rfl
  | cons v vs ih =>
    intro σ i h
    unfold wipe
    rw [List.getElem?_set_ne (fun z => h (by rw [z]; exact List.mem_cons_self)), ih (fun z => h (List.mem_cons_of_mem _ z))]
theorem wipe_in {vs : List Nat} : ∀ {σ : L2.St} {i : Nat}, i ∈ vs → i < σ.length → (wipe σ vs)[i]? = some none := by
  induction vs with
  | nil => intro σ i h; cases h
  | cons v vs ih =>
    intro σ i h hl
    unfold wipe
    by_cases z : v = i
    · subst z; rw [List.getElem?_set_self (by rw [wipe_length]; exact hl)]
    · rw [List.getElem?_set_ne z]
      exact ih (by rcases List.mem_cons.mp h with q | q; exact absurd q.symm z; exact q) hl
theorem wipe_set {vs : List Nat} {σ : L2.St} {i : Nat} {v : Option V} (h : i ∈ vs) : wipe (σ.set i v) vs = wipe σ vs := by
  apply List.ext_getElem?
  intro j
  by_cases hj : j ∈ vs
  · by_cases hl : j < σ.length
    · rw [wipe_in hj hl, wipe_in hj (by rw [List.length_set]; exact hl)]
    · rw [List.getElem?_eq_none (by rw [wipe_length, List.length_set]; omega), List.getElem?_eq_none (by rw [wipe_length]; omega)]
  · rw [wipe_get hj, wipe_get hj, List.getElem?_set_ne (fun z => hj (by rw [← z]; exact h))]
theorem vg_name {i : Nat} {x : Str} {us : List Nat} (hu : i ∈ us) (h : PG X (.Name x pos) (gName i)) : VG X (.Name x pos) us (gN i) := by
  refine weakG h fun v σ H Q q => ?_
  obtain ⟨w, ρ, d, ρ', ok, r, ef, k⟩ := q
  cases ef
  exact k _ (wipe_set hu) (ok.setS r)
/-- several targets -/
abbrev FGs := List D → En → Option En
def tGts (K : PySem.W.Frag) (us : List Nat) (fg : FGs) : TGs := fun vs σ H Q => ∃ w ρ ds ρ', EnvOk K w ρ σ H ∧ RepAll K w.hs vs ds ∧ fg ds ρ = some ρ' ∧ ∀ σ', wipe σ' us = wipe σ us → EnvOk K w ρ' σ' H → Q σ' H
abbrev VGs (X : Cx) (ts : List Expr) (us : List Nat) (fg : FGs) : Prop := PGs X ts (tGts X.K us fg)
def gNi : FGs := fun ds ρ => if ds.isEmpty then some ρ else none
def gCo (t : FG) (u : FGs) : FGs := fun ds ρ => match ds with
  | [] => none
  | d :: r => (t d ρ).bind fun ρ1 => u r ρ1
def gTu (n : Nat) (t : FGs) : FG := fun d ρ => match d with
  | .tup ds => if ds.length = n then t ds ρ else none
  | _ => none
theorem weakGs {ts : List Expr} {t t' : TGs} (h : PGs X ts t) (k : ∀ v σ H Q, t' v σ H Q → t v σ H Q) : PGs X ts t' := ⟨fun pins s σ H v u Q I r q => h.run pins s σ H v u Q I r (k v σ H Q q)⟩
theorem vgs_nil {us : List Nat} : VGs X [] us gNi := weakGs pgs_nil fun vs σ H Q q => by
  obtain ⟨w, ρ, ds, ρ', ok, r, ef, k⟩ := q
  unfold gNi at ef
  split at ef
  · rename_i hd
    cases ef
    cases r with
    | nil => exact ⟨rfl, k σ rfl ok⟩
    | cons => cases hd
  · cases ef
theorem vgs_cons {e : Expr} {es : List Expr} {t : FG} {u : FGs} {us : List Nat} (h1 : VG X e us t) (h2 : VGs X es us u)
    (hs : (assignEach (e :: es) X.env).map (·.2) = assign e X.env :: (assignEach es X.env).map (·.2) := by rfl) : VGs X (e :: es) us (gCo t u) := by
  refine weakGs (pgs_cons h1 h2 hs) fun vs σ H Q q => ?_
  obtain ⟨w, ρ, ds, ρ', ok, r, ef, k⟩ := q
  cases r with
  | nil => cases ef
  | cons r rr =>
    obtain ⟨ρ1, e1, e2⟩ := Option.bind_eq_some_iff.mp ef
    exact ⟨_, _, rfl, w, ρ, _, ρ1, ok, r, e1, fun σ1 w1 ok1 => ⟨w, ρ1, _, ρ', ok1, rr, e2, fun σ2 w2 ok2 => k σ2 (w2.trans w1) ok2⟩⟩
theorem vg_tup {es : List Expr} {k : Nat} {t : FGs} {n : Nat} {us : List Nat} (hc : X.calm = true) (h : VGs X es us t)
    (hn : (assignEach es X.env).length = n := by rfl) (hst : (assignEach es X.env).findIdx? (·.1) = none := by rfl) : VG X (.Tuple es k pos) us (gTu n t) := by
  refine weakG (pg_tup hc h hn hst) fun v σ H Q q => ?_
  obtain ⟨w, ρ, d, ρ', ok, r, ef, kk⟩ := q
  unfold gTu at ef
  split at ef
  · split at ef
    · rename_i hl
      cases r with
      | tup q l t => exact ⟨_, _, rfl, .of (ok.sub.tup q), by rw [t.length]; exact hl, w, ρ, _, ρ', ok, t, ef, kk⟩
    · cases ef
  · cases ef
/-- a = e by a target -/
def sAs (f : FE) (fg : FG) : FS := fun ρ => (f ρ).bind fun p => (fg p.1 p.2).map .nx
theorem vs_as {tg : Expr} {us : List Nat} {fg : FG} (h : VE X e f) (hg : VG X tg us fg) (hs : swapsWithSole [tg] e pos.line X.env = pure false := by rfl) (hw : swappedStores [tg] e X.env = pure none := by rfl)
    (h1 : (assignEach [tg] X.env).map (·.2) = [assign tg X.env] := by rfl) : VS1 X (.Assign [tg] e pos) (sAs f fg) := by
  refine weakS (ps_asg h hg hs hw h1) fun E σ H q => ?_
  obtain ⟨w, ρ, o, ok, ef, k⟩ := q
  obtain ⟨⟨d, ρ1⟩, e1, e2⟩ := Option.bind_eq_some_iff.mp ef
  obtain ⟨ρ2, e3, e4⟩ := Option.map_eq_some_iff.mp e2
  cases e4
  exact ⟨w, ρ, d, ρ1, ok, e1, fun v w1 H1 f1 ok1 r1 => ⟨w1, ρ1, d, ρ2, ok1, r1, e3, fun σ' _ ok2 => k σ' w1 H1 f1 ok2⟩⟩
end
/-! ### for -/
abbrev FI := En → Option (List D × En)
def Ity (K : PySem.W.Frag) (J : It) (w : Wd) (ds : List D) : Prop := ∃ (G : Hp → Prop) (Y : Nat → Hp → V → Hp → Prop), Walk J ds.length G Y ∧ (∀ H, Sub w.hs H → G H) ∧
  ∀ i H x H' d, Y i H x H' → ds[i]? = some d → (H' = H ∧ Rep K w.hs x d) ∨ ∃ T xs ds', x = .ref T ∧ H T = none ∧ H' = upd H T (.tup xs) ∧ xs.length ≤ sizeLine ∧ RepAll K w.hs xs ds' ∧ d = .tup ds'
def tIt (K : PySem.W.Frag) (f : FI) : TI := fun σ H R => ∃ w ρ ds ρ', EnvOk K w ρ σ H ∧ f ρ = some (ds, ρ') ∧ ∀ J w' H', Fr w H w' H' → EnvOk K w' ρ' σ H' → Ity K J w' ds → R J H'
abbrev VI (X : Cx) (tg e : Expr) (f : FI) : Prop := PI X tg e (tIt X.K f)
theorem Ity.yield {K : PySem.W.Frag} {w0 w : Wd} {ρ : En} {σ : L2.St} {ds : List D} {i : Nat} {H H' : Hp} {x : V} {d : D} (ok : EnvOk K w ρ σ H) (sm : Same w0.hs w.hs)
    (h : (H' = H ∧ Rep K w0.hs x d) ∨ ∃ T xs ds', x = .ref T ∧ H T = none ∧ H' = upd H T (.tup xs) ∧ xs.length ≤ sizeLine ∧ RepAll K w0.hs xs ds' ∧ d = .tup ds') : ∃ w', Fr w H w' H' ∧ EnvOk K w' ρ σ H' ∧ Rep K w'.hs x d := by
  rcases h with ⟨rfl, r⟩ | ⟨T, xs, ds', rfl, hT, rfl, hl, r, rfl⟩
  · exact ⟨w, .refl _ _, ok, r.mono (.of sm)⟩
  · obtain ⟨f1, ok1, sm1⟩ := ok.new (o := .tup xs) hT
    exact ⟨_, f1, ok1, .tup upd_same hl (r.mono (.of (sm.trans sm1)))⟩
def forL (tg : FG) (b : FS) : List D → En → Option Out
  | [], ρ => some (.nx ρ)
  | x :: xs, ρ => (tg x ρ).bind fun ρ1 => match b ρ1 with
    | some (.nx ρ2) => forL tg b xs ρ2
    | some (.ct ρ2) => forL tg b xs ρ2
    | some (.bk ρ2) => some (.nx ρ2)
    | some (.rt d ρ2) => some (.rt d ρ2)
    | none => none
def sFor (it : FI) (tg : FG) (b : FS) : FS := fun ρ => (it ρ).bind fun p => forL tg b p.1 p.2
section
variable {X : Cx} {tg iter : Expr} {body : List Stmt} {pos : Pos} {fi : FI} {fg : FG} {fb : FS} {us : List Nat}
theorem vs_for (hc : X.calm = true) (hp : PassesOwn (model X.prog X.w) X.A X.env X.xe) (hi : VI X tg iter fi) (hg : VG X tg us fg) (hb : VSs X body fb) (hs : ∀ x, foldedSetIterable iter X.env x = pure x := by intro _; rfl) : VS1 X (.For tg iter body [] pos) (sFor fi fg fb) := by
  refine weakS (ps_for hp hc hi hg hb hs) fun E σ H q => ?_
  obtain ⟨w, ρ, o, ok, ef, k⟩ := q
  obtain ⟨⟨ds, ρ1⟩, e1, e2⟩ := Option.bind_eq_some_iff.mp ef
  refine ⟨w, ρ, ds, ρ1, ok, e1, fun J w1 H1 f1 ok1 it => ?_⟩
  obtain ⟨G, Y, wk, hG, hY⟩ := it
  have k1 := k.fr f1
  refine for_it wk (fun i σ' H' => ∃ w' ρ', Fr w1 H1 w' H' ∧ EnvOk X.K w' ρ' σ' H' ∧ forL fg fb (ds.drop i) ρ' = some o) ⟨w1, ρ1, .refl _ _, ok1, e2⟩ (fun i σ' H' _ h => ?_) (fun i x σ' H' H'' hi' h y => ?_) fun σ' H' h => ?_
  · obtain ⟨w', ρ', f', ok', _⟩ := h
    exact hG _ fun a o q => ok'.sub a o (f'.sh a o q)
  · obtain ⟨w', ρ', f', ok', e'⟩ := h
    have hd : ds[i]? = some ds[i] := List.getElem?_eq_getElem hi'
    obtain ⟨w2, f2, ok2, r2⟩ := Ity.yield (ds := ds) (i := i) ok' f'.sh (hY i H' x H'' _ y hd)
    rw [List.drop_eq_getElem_cons hi'] at e'
    obtain ⟨ρ3, e3, e4⟩ := Option.bind_eq_some_iff.mp e'
    refine ⟨w2, ρ', ds[i], ρ3, ok2, r2, e3, fun σ3 _ ok3 => ?_⟩
    cases eb : fb ρ3 with
    | none => rw [eb] at e4; cases e4
    | some ob =>
      rw [eb] at e4
      refine ⟨w2, ρ3, ob, ok3, eb, ?_⟩
      have k2 := k1.fr (f'.trans f2)
      cases ob with
      | nx ρ4 => exact fun σ4 w4 H4 f4 ok4 => ⟨w4, ρ4, f'.trans (f2.trans f4), ok4, e4⟩
      | ct ρ4 => exact fun σ4 w4 H4 f4 ok4 => ⟨w4, ρ4, f'.trans (f2.trans f4), ok4, e4⟩
      | bk ρ4 => cases e4; exact fun σ4 w4 H4 f4 ok4 => k2 σ4 w4 H4 f4 ok4
      | rt d ρ4 => cases e4; exact fun v σ4 w4 H4 f4 ok4 r4 => k2 v σ4 w4 H4 f4 ok4 r4
  · obtain ⟨w', ρ', f', ok', e'⟩ := h
    rw [List.drop_length] at e'
    cases e'
    exact k1 σ' w' H' f' ok'
/-! ### while -/
def whL (c : FT) (b : FS) : Nat → En → Option Out
  | 0, _ => none
  | n + 1, ρ => (c ρ).bind fun p => if p.1 then match b p.2 with
      | some (.nx ρ2) => whL c b n ρ2
      | some (.ct ρ2) => whL c b n ρ2
      | some (.bk ρ2) => some (.nx ρ2)
      | some (.rt d ρ2) => some (.rt d ρ2)
      | none => none
    else some (.nx p.2)
def sWh (n : Nat) (c : FT) (b : FS) : FS := whL c b n
theorem vs_while {n : Nat} {c : Expr} {ca : FT} (hp : PassesOwn (model X.prog X.w) X.A X.env X.xe) (hc : VT X c ca) (hb : VSs X body fb) : VS1 X (.While c body [] pos) (sWh n ca fb) := by
  refine weakS (ps_while hp hc hb) fun E σ H q => ?_
  obtain ⟨w, ρ, o, ok, ef, k⟩ := q
  refine ⟨fun m σ' H' => ∃ w' ρ', Fr w H w' H' ∧ EnvOk X.K w' ρ' σ' H' ∧ whL ca fb m ρ' = some o, ⟨n, w, ρ, .refl _ _, ok, ef⟩, ?_⟩
  rintro m σ' H' ⟨w', ρ', f', ok', e'⟩
  cases m with
  | zero => cases e'
  | succ m =>
    obtain ⟨⟨b, ρ1⟩, e1, e2⟩ := Option.bind_eq_some_iff.mp e'
    refine ⟨w', ρ', b, ρ1, ok', e1, fun w1 H1 f1 ok1 => ?_⟩
    have k1 := k.fr (f'.trans f1)
    cases b with
    | false =>
      refine i_if0 ?_
      rw [if_neg Bool.false_ne_true] at e2
      cases e2
      exact k1 σ' w1 H1 (.refl _ _) ok1
    | true =>
      refine i_it ?_
      rw [if_pos rfl] at e2
      cases eb : fb ρ1 with
      | none => rw [show fb (true, ρ1).2 = none from eb] at e2; cases e2
      | some ob =>
        rw [show fb (true, ρ1).2 = some ob from eb] at e2
        refine ⟨fun σ4 H4 => ∃ w4 ρ4, Fr w H w4 H4 ∧ EnvOk X.K w4 ρ4 σ4 H4 ∧ whL ca fb m ρ4 = some o, fun σ4 H4 h => ⟨m, Nat.lt_succ_self m, h⟩, w1, ρ1, ob, ok1, eb, ?_⟩
        cases ob with
        | nx ρ4 => exact fun σ4 w4 H4 f4 ok4 => ⟨w4, ρ4, f'.trans (f1.trans f4), ok4, e2⟩
        | ct ρ4 => exact fun σ4 w4 H4 f4 ok4 => ⟨w4, ρ4, f'.trans (f1.trans f4), ok4, e2⟩
        | bk ρ4 => cases e2; exact fun σ4 w4 H4 f4 ok4 => k1 σ4 w4 H4 f4 ok4
        | rt d ρ4 => cases e2; exact fun v σ4 w4 H4 f4 ok4 r4 => k1 v σ4 w4 H4 f4 ok4 r4
end
end VS
set_option autoImplicit false
namespace VS
open PySem PySem.Spec PyProof.Rows L2 AR
/-! ### slots forgotten -/
def wipeE (ρ : En) : List Nat → En
  | [] => ρ
  | v :: vs => (wipeE ρ vs).set v .u
theorem wipeE_length (ρ : En) : ∀ vs : List Nat, (wipeE ρ vs).length = ρ.length
  | [] => rfl
  | v :: vs => by unfold wipeE; rw [List.length_set, wipeE_length ρ vs]
theorem wipeE_get {vs : List Nat} : ∀ {ρ : En} {i : Nat}, i ∉ vs → (wipeE ρ vs)[i]? = ρ[i]? := by
  induction vs with
  | nil => intro ρ i _; rfl
  | cons v vs ih =>
    intro ρ i h
    unfold wipeE
    rw [List.getElem?_set_ne (fun z => h (by rw [z]; exact List.mem_cons_self)), ih (fun z => h (List.mem_cons_of_mem _ z))]
theorem wipeE_in {vs : List Nat} : ∀ {ρ : En} {i : Nat}, i ∈ vs → i < ρ.length → (wipeE ρ vs)[i]? = some .u := by
  induction vs with
  | nil => intro ρ i h; cases h
  | cons v vs ih =>
    intro ρ i h hl
    unfold wipeE
    by_cases z : v = i
    · subst z; rw [List.getElem?_set_self (by rw [wipeE_length]; exact hl)]
    · rw [List.getElem?_set_ne z]
      exact ih (by rcases List.mem_cons.mp h with q | q; exact absurd q.symm z; exact q) hl
theorem wipeE_nin {vs : List Nat} {ρ : En} {i : Nat} {x : Sl} (h : (wipeE ρ vs)[i]? = some x) (hx : x ≠ .u) : i ∉ vs ∧ ρ[i]? = some x := by
  by_cases z : i ∈ vs
  · by_cases hl : i < ρ.length
    · rw [wipeE_in z hl] at h; injection h with h; exact absurd h.symm hx
    · rw [List.getElem?_eq_none (by rw [wipeE_length]; omega)] at h; cases h
  · rw [wipeE_get z] at h; exact ⟨z, h⟩
theorem wipe_wipe {σ : L2.St} {vs : List Nat} : wipe (wipe σ vs) vs = wipe σ vs := by
  apply List.ext_getElem?
  intro j
  by_cases hj : j ∈ vs
  · by_cases hl : j < σ.length
    · rw [wipe_in hj hl, wipe_in hj (by rw [wipe_length]; exact hl)]
    · rw [List.getElem?_eq_none (by rw [wipe_length, wipe_length]; omega), List.getElem?_eq_none (by rw [wipe_length]; omega)]
  · rw [wipe_get hj]
section
variable {K : PySem.W.Frag} {w w0 : Wd} {ρ : En} {σ σ' : L2.St} {H H0 : Hp} {us : List Nat}
theorem EnvOk.wipe (e : EnvOk K w ρ σ' H) (h : wipe σ' us = wipe σ us) : EnvOk K w (wipeE ρ us) σ H := by
  have hl : σ'.length = σ.length := by rw [← wipe_length σ' us, h, wipe_length]
  have hg : ∀ i, i ∉ us → σ[i]? = σ'[i]? := fun i hi => by rw [← wipe_get (σ := σ) hi, ← h, wipe_get hi]
  refine ⟨e.sub, e.disj, e.live, by rw [wipeE_length, e.len, hl], fun i d q => ?_, fun i d q => ?_, e.tups⟩
  · obtain ⟨n, q'⟩ := wipeE_nin q (fun z => nomatch z)
    obtain ⟨v, h1, h2⟩ := e.sh i d q'
    exact ⟨v, by rw [hg i n]; exact h1, h2⟩
  · obtain ⟨n, q'⟩ := wipeE_nin q (fun z => nomatch z)
    obtain ⟨v, h1, h2⟩ := e.ow i d q'
    exact ⟨v, by rw [hg i n]; exact h1, h2⟩
theorem wipeE_wipeE : wipeE (wipeE ρ us) us = wipeE ρ us := by
  apply List.ext_getElem?
  intro j
  by_cases hj : j ∈ us
  · by_cases hl : j < ρ.length
    · rw [wipeE_in hj hl, wipeE_in hj (by rw [wipeE_length]; exact hl)]
    · rw [List.getElem?_eq_none (by rw [wipeE_length, wipeE_length]; omega), List.getElem?_eq_none (by rw [wipeE_length]; omega)]
  · rw [wipeE_get hj]
/-- a thing that is nobody's changes -/
theorem EnvOk.chg {p : Addr} {o o' : HO} (e : EnvOk K w ρ σ H) (h : H p = some o) (h1 : w.own p = none) (h2 : w.hs p = none) (nt : NT o') : EnvOk K w ρ σ (upd H p o') := by
  refine e.keep (Same.refl _) (fun a u q => ?_) rfl ⟨rfl, rfl⟩ e.disj (fun a i q => ?_) fun a xs q => ?_
  · have ne : a ≠ p := fun z => by subst z; rw [h2] at q; cases q
    rw [upd_ne ne]
    exact e.sub a u q
  · have ne : a ≠ p := fun z => by subst z; rw [h1] at q; cases q
    exact upd_ne ne
  · by_cases z : a = p
    · subst z; rw [upd_same] at q; cases q; exact absurd rfl (nt xs)
    · rw [upd_ne z] at q; exact e.tups a xs q
theorem Fr.chg {p : Addr} {o : HO} (f : Fr w0 H0 w H) (h : H0 p = none) : Fr w0 H0 w (upd H p o) :=
  ⟨f.sh, fun a u q n => by
    obtain ⟨k1, k2, k3⟩ := f.kp a u q n
    exact ⟨by rw [upd_ne (ne_of_none q h)]; exact k1, k2, k3⟩, fun a u q => by
    rw [upd_ne (ne_of_none q h)]; exact f.lv a u q, f.me⟩
end
/-! ### [elt for target in iter if test] -/
def cYes : FT := fun ρ => some (true, ρ)
abbrev VTs (X : Cx) (ifs : List Expr) (f : FT) : Prop := PTs X ifs (tTb X.K f)
theorem vts_nil {X : Cx} : VTs X [] cYes := ⟨fun pins s σ H Q I q => by
  obtain ⟨w, ρ, b, ρ', ok, ef, k⟩ := q
  cases ef
  exact pts_nil.run pins s σ H Q I (k w H (.refl _ _) ok)⟩
theorem vts_one {X : Cx} {c : Expr} {f : FT} (h : VT X c f) : VTs X [c] f := pts_one h
def lcL (us : List Nat) (fg : FG) (fc : FT) (fe : FE) : List D → En → Option (List D × En)
  | [], ρ => some ([], ρ)
  | x :: xs, ρ => (fg x (wipeE ρ us)).bind fun ρ1 => (fc ρ1).bind fun p => if p.1 then (fe p.2).bind fun q => (lcL us fg fc fe xs q.2).map fun r => (q.1 :: r.1, r.2) else lcL us fg fc fe xs p.2
def fLC (us : List Nat) (fi : FI) (fg : FG) (fc : FT) (fe : FE) : FE := fun ρ => (fi ρ).bind fun p => (lcL us fg fc fe p.1 p.2).bind fun q => (mkL q.1).map fun d => (d, wipeE q.2 us)
section
variable {K : PySem.W.Frag} {us : List Nat} {fi : FI} {fg : FG} {fc : FT} {fe : FE}
theorem lc_read {σ : L2.St} {H : Hp} {Q : VK} (q : tN K (fLC us fi fg fc fe) σ H Q) : tLc (tIt K fi) (tGt K us fg) (tTb K fc) (tV K fe) us σ H Q := by
  obtain ⟨w, ρ, d, ρ', ok, ef, k⟩ := q
  obtain ⟨⟨ds, ρ1⟩, e1, e2⟩ := Option.bind_eq_some_iff.mp ef
  obtain ⟨⟨ts, ρ2⟩, e3, e4⟩ := Option.bind_eq_some_iff.mp e2
  obtain ⟨d', e5, e6⟩ := Option.map_eq_some_iff.mp e4
  cases e6
  unfold mkL at e5
  split at e5
  case isFalse => cases e5
  rename_i hl
  have ed : D.lst ts = d := Option.some.inj e5
  subst ed
  refine ⟨w, ρ, ds, ρ1, ok, e1, fun J w1 H1 f1 ok1 it => ?_⟩
  obtain ⟨G, Y, wk, hG, hY⟩ := it
  intro A hA
  obtain ⟨hA1, hA2⟩ := ok1.free hA
  refine lc_it wk (Qd := fun H' => Q (.ref A) H') (fun i H' => ∃ w' ρ' acc dacc rest, Fr w1 H1 w' H' ∧ EnvOk K w' (wipeE ρ' us) (wipe σ us) H' ∧ H' A = some (.lst acc) ∧ RepAll K w'.hs acc dacc ∧ w'.own A = none ∧ w'.hs A = none ∧ lcL us fg fc fe (ds.drop i) ρ' = some (rest, ρ2) ∧ ts = dacc ++ rest) ?_ (fun i H' _ h => ?_) (fun i x H' H'' hi h y => ?_) fun H' h => ?_
  · obtain ⟨f2, ok2⟩ := ok1.tmp (o := .lst []) hA (fun _ z => nomatch z)
    exact ⟨w1, ρ1, [], [], ts, f2, (ok2.wipe (us := us) (σ := σ) rfl).wipe wipe_wipe.symm |> (fun z => by rw [wipeE_wipeE] at z; exact z), upd_same, .nil, hA2, hA1, e3, rfl⟩
  · obtain ⟨w', ρ', acc, dacc, rest, f', ok', _⟩ := h
    exact hG _ fun a o q => ok'.sub a o (f'.sh a o q)
  · obtain ⟨w', ρ', acc, dacc, rest, f', ok', hD, hr, ho, hh, el, et⟩ := h
    have hd : ds[i]? = some ds[i] := List.getElem?_eq_getElem hi
    obtain ⟨w2, f2, ok2, r2⟩ := Ity.yield (ds := ds) (i := i) ok' f'.sh (hY i H' x H'' _ y hd)
    rw [List.drop_eq_getElem_cons hi] at el
    obtain ⟨ρ3, e7, e8⟩ := Option.bind_eq_some_iff.mp el
    obtain ⟨⟨b, ρ4⟩, e9, e10⟩ := Option.bind_eq_some_iff.mp e8
    refine ⟨w2, wipeE ρ' us, ds[i], ρ3, ok2, r2, e7, fun σ3 hw ok3 => ⟨hw.trans wipe_wipe, w2, ρ3, b, ρ4, ok3, e9, fun w4 H4 f4 ok4 => ?_⟩⟩
    rw [wipe_wipe] at hw
    have f24 := f2.trans f4
    obtain ⟨hD4, ho4, hh4⟩ := f24.kp A _ hD ho
    have hr4 := hr.mono (.of f24.sh)
    cases b with
    | false =>
      refine i_if0 ?_
      have e10' : lcL us fg fc fe (ds.drop (i + 1)) ρ4 = some (rest, ρ2) := e10
      exact ⟨w4, ρ4, acc, dacc, rest, f'.trans f24, ok4.wipe (by rw [hw, wipe_wipe]), hD4, hr4, ho4, hh4 hh, e10', et⟩
    | true =>
      refine i_it ?_
      obtain ⟨⟨z, ρ5⟩, e11, e12⟩ := Option.bind_eq_some_iff.mp (show (fe ρ4).bind _ = some (rest, ρ2) from e10)
      obtain ⟨⟨rs, ρ6⟩, e13, e14⟩ := Option.map_eq_some_iff.mp e12
      cases e14
      refine ⟨w4, ρ4, z, ρ5, ok4, e11, fun v w5 H5 f5 ok5 r5 => ?_⟩
      obtain ⟨hD5, ho5, hh5⟩ := f5.kp A _ hD4 ho4
      have hr5 := hr4.mono (.of f5.sh)
      have hlen : acc.length < sizeLine := by
        have e1' := hr5.length
        rw [et, List.length_append, List.length_cons] at hl
        omega
      refine ⟨acc, hD5, hlen, w5, ρ5, acc ++ [v], dacc ++ [z], rs, ((f'.trans f24).trans f5).chg hA, (ok5.wipe (us := us) (σ := wipe σ us) (by rw [hw, wipe_wipe])).chg hD5 ho5 (hh5 (hh4 hh)) (fun _ z => nomatch z), upd_same, hr5.append (.one r5), ho5, hh5 (hh4 hh), e13, by rw [et]; simp⟩
  · obtain ⟨w', ρ', acc, dacc, rest, f', ok', hD, hr, ho, hh, el, et⟩ := h
    rw [List.drop_length] at el
    cases el
    rw [List.append_nil] at et
    subst et
    exact k _ w' H' (f1.trans f') (ok'.wipe wipe_wipe |> fun z => by rw [wipeE_wipeE] at z; exact z) (.lst (f1.free hA) ho hh hD (by rw [hr.length]; exact hl) hr)
theorem fLC_nb : ∀ ρ d ρ', fLC us fi fg fc fe ρ = some (d, ρ') → d.isBox = false := fun ρ d ρ' h => by
  obtain ⟨⟨ds, ρ1⟩, e1, e2⟩ := Option.bind_eq_some_iff.mp h
  obtain ⟨⟨ts, ρ2⟩, e3, e4⟩ := Option.bind_eq_some_iff.mp e2
  obtain ⟨d', e5, e6⟩ := Option.map_eq_some_iff.mp e4
  cases e6
  unfold mkL at e5
  split at e5
  · cases e5; rfl
  · cases e5
end
section
variable {X : Cx} {elt tg iter : Expr} {ifs : List Expr} {scope : Scope} {own : List (Str × Nat)} {pos : Pos} {fi : FI} {fg : FG} {fc : FT} {fe : FE} {us : List Nat}
theorem vn_lc (hc : X.calm = true) (hN : X.N.Nodup) (hu : own.map (·.2) = us) (hi : VI X tg iter fi) (ok : BlkOk X.N X.env.scope scope own)
    (hg : ∀ (s : Shared) (H : Hp) (C : Addr) (cl : List (Str × Addr)) (fp : List Addr), VG (X.blk s H scope (compEnvC scope cl C X.env) fp) tg us fg) (ht : ∀ (s : Shared) (H : Hp) (C : Addr) (cl : List (Str × Addr)) (fp : List Addr), VTs (X.blk s H scope (compEnvC scope cl C X.env) fp) ifs fc)
    (he : ∀ (s : Shared) (H : Hp) (C : Addr) (cl : List (Str × Addr)) (fp : List Addr), VE (X.blk s H scope (compEnvC scope cl C X.env) fp) elt fe) (hs : ∀ x, foldedSetIterable iter X.env x = pure x := by intro _; rfl) :
    VN X (.ListComp elt [⟨tg, iter, ifs, 0⟩] scope pos) (fLC us fi fg fc fe) := by
  subst hu
  exact weakE (pe_lc (g := tGt X.K (own.map (·.2)) fg) (tt := tTb X.K fc) (te := tV X.K fe) hc hN hi ok hg ht he hs) fun σ H Q q => lc_read q
theorem ve_lc (hc : X.calm = true) (hN : X.N.Nodup) (hu : own.map (·.2) = us) (hi : VI X tg iter fi) (ok : BlkOk X.N X.env.scope scope own)
    (hg : ∀ (s : Shared) (H : Hp) (C : Addr) (cl : List (Str × Addr)) (fp : List Addr), VG (X.blk s H scope (compEnvC scope cl C X.env) fp) tg us fg) (ht : ∀ (s : Shared) (H : Hp) (C : Addr) (cl : List (Str × Addr)) (fp : List Addr), VTs (X.blk s H scope (compEnvC scope cl C X.env) fp) ifs fc)
    (he : ∀ (s : Shared) (H : Hp) (C : Addr) (cl : List (Str × Addr)) (fp : List Addr), VE (X.blk s H scope (compEnvC scope cl C X.env) fp) elt fe) (hs : ∀ x, foldedSetIterable iter X.env x = pure x := by intro _; rfl) :
    VE X (.ListComp elt [⟨tg, iter, ifs, 0⟩] scope pos) (fLC us fi fg fc fe) := VN.ve (vn_lc hc hN hu hi ok hg ht he hs) fLC_nb
/-- y = [..] -/
theorem vs_setLc {i : Nat} {y : Str} {py spos : Pos} (hc : X.calm = true) (hN : X.N.Nodup) (hu : own.map (·.2) = us) (hy : X.N[i]? = some y) (hyl : X.env.scope.names.lookup y = some .local)
    (hsw : swapsWith (.ListComp elt [⟨tg, iter, ifs, 0⟩] scope pos) (some (.Name y py)) spos.line X.env = pure true) (hi : VI X tg iter fi) (ok : BlkOk X.N X.env.scope scope own)
    (hg : ∀ (s : Shared) (H : Hp) (C : Addr) (cl : List (Str × Addr)) (fp : List Addr), VG (X.blk s H scope (compEnvC scope cl C X.env) fp) tg us fg) (ht : ∀ (s : Shared) (H : Hp) (C : Addr) (cl : List (Str × Addr)) (fp : List Addr), VTs (X.blk s H scope (compEnvC scope cl C X.env) fp) ifs fc)
    (he : ∀ (s : Shared) (H : Hp) (C : Addr) (cl : List (Str × Addr)) (fp : List Addr), VE (X.blk s H scope (compEnvC scope cl C X.env) fp) elt fe) (hs : ∀ x, foldedSetIterable iter X.env x = pure x := by intro _; rfl) :
    VS1 X (.Assign [.Name y py] (.ListComp elt [⟨tg, iter, ifs, 0⟩] scope pos) spos) (sSetO i (fLC us fi fg fc fe)) := by
  subst hu
  refine weakS (ps_setLc (g := tGt X.K (own.map (·.2)) fg) (tt := tTb X.K fc) (te := tV X.K fe) hc hN hy hyl hsw hi ok hg ht he hs) fun E σ H q => ?_
  obtain ⟨w, ρ, o, okE, ef, k⟩ := q
  obtain ⟨⟨d, ρ1⟩, e1, e2⟩ := Option.map_eq_some_iff.mp ef
  cases e2
  refine lc_read ⟨w, ρ, d, ρ1, okE, e1, fun v w1 H1 f1 ok1 r1 => ?_⟩
  obtain ⟨w2, f2, ok2⟩ := r1.store i ok1 f1
  exact k _ w2 H1 f2 ok2
end
end VS
set_option autoImplicit false
namespace VS
open PySem PySem.Spec PyProof.Rows L2 AR
open C8 (Cal Met Mak)
/-! ### defs -/
def startE (k : Nat) (ds : List D) : En := ds.map Sl.s ++ List.replicate (k - ds.length) .u
def fnD (n k : Nat) (body : FS) (ds : List D) : Option D := if ds.length = n then match body (startE k ds) with
  | some (.rt d _) => some d
  | some (.nx _) => some .non
  | _ => none
  else none
/-- every tuple is in the part -/
def AllT (hs H : Hp) : Prop := ∀ a xs, H a = some (.tup xs) → hs a = some (.tup xs)
/-- what a def of plain data promises -/
def spF (K : PySem.W.Frag) (n : Nat) (f : List D → Option D) : Sp := fun vs H Q _ => ∃ hs ds r, Sub hs H ∧ AllT hs H ∧ RepAll K hs vs ds ∧ ds.length = n ∧ f ds = some r ∧
  ∀ v hs' H', Same H H' → Same hs hs' → Sub hs' H' → AllT hs' H' → (∀ a o, H a = some o → hs a = none → hs' a = none) → Rep K hs' v r → Q v H'
section
variable {K : PySem.W.Frag}
theorem start_ok {N : List Str} {vs : List V} {ds : List D} {hs H : Hp} (s : Sub hs H) (tp : AllT hs H) (r : RepAll K hs vs ds) : EnvOk K ⟨hs, fun _ => none, 0, 0⟩ (startE N.length ds) (start N vs) H := by
  refine ⟨s, (fun _ _ h => nomatch h), (fun _ _ h => nomatch h), ?_, fun i d q => ?_, fun i d q => ?_, tp⟩
  · unfold startE L2.start
    rw [List.length_append, List.length_append, List.length_map, List.length_map, List.length_replicate, List.length_replicate, r.length]
  · unfold startE at q
    by_cases hi : i < ds.length
    · rw [List.getElem?_append_left (by rw [List.length_map]; exact hi), List.getElem?_map] at q
      obtain ⟨d', hd, e⟩ := Option.map_eq_some_iff.mp q
      injection e with e; subst e
      obtain ⟨v, hv, rv⟩ := r.get' i hd
      refine ⟨v, ?_, rv⟩
      unfold L2.start
      rw [List.getElem?_append_left (by rw [List.length_map, r.length]; exact hi), List.getElem?_map, hv]
      rfl
    · rw [List.getElem?_append_right (by rw [List.length_map]; omega)] at q
      have := List.mem_of_getElem? q
      rw [List.mem_replicate] at this
      exact nomatch this.2
  · unfold startE at q
    by_cases hi : i < ds.length
    · rw [List.getElem?_append_left (by rw [List.length_map]; exact hi), List.getElem?_map] at q
      obtain ⟨d', hd, e⟩ := Option.map_eq_some_iff.mp q
      cases e
    · rw [List.getElem?_append_right (by rw [List.length_map]; omega)] at q
      have := List.mem_of_getElem? q
      rw [List.mem_replicate] at this
      exact nomatch this.2
/-- the body of a def keeps its promise -/
theorem body_ok {N : List Str} {n : Nat} {body : FS} {vs : List V} {H : Hp} {Q : VK} {E : XK} (h : spF K n (fnD n N.length body) vs H Q E) : tSt K body { nx := fun _ H' => Q .non H', rt := Q } (start N vs) H := by
  obtain ⟨hs, ds, r, s, tp, rp, hl, ef, k⟩ := h
  unfold fnD at ef
  rw [if_pos hl] at ef
  cases eb : body (startE N.length ds) with
  | none => rw [eb] at ef; cases ef
  | some o =>
    rw [eb] at ef
    refine ⟨_, _, o, start_ok s tp rp, eb, ?_⟩
    have fin : ∀ v w' H', Fr ⟨hs, fun _ => none, 0, 0⟩ H w' H' → Sub w'.hs H' → AllT w'.hs H' → Rep K w'.hs v r → Q v H' := fun v w' H' f' s' t' r' =>
      k v w'.hs H' (fun a o q => (f'.kp a o q rfl).1) f'.sh s' t' (fun a o q z => (f'.kp a o q rfl).2.2 z) r'
    cases o with
    | nx ρ => cases ef; exact fun σ' w' H' f' ok' => fin _ w' H' f' ok'.sub ok'.tups .non
    | rt d ρ => cases ef; exact fun v σ' w' H' f' ok' r' => fin v w' H' f' ok'.sub ok'.tups r'
    | bk ρ => cases ef
    | ct ρ => cases ef
end
section
variable {P : Program} {w : World} {K : PySem.W.Frag} {mg : Str → Option Value} {base : Heap}
theorem GD.vcal {x : Str} {st : Stmt} {N ps : List Str} {k n kk : Nat} {body : FS} (G : GD K mg x st ps) (S : FnScope N ps (defScope st)) (hn : ps.length = n) (hkk : N.length = kk)
    (hbody : ∀ (f : Addr) (cdv : Value) (A : Around) (outer : List Env) (s : Shared) (H : Hp) (E : XK), Room k (A.deeper (envOfC x (defScope st) s.heap.objs.size f cdv)) →
      VSs (cxOf CX0 P w K mg base N x (defScope st) f cdv A outer s H E).nox (defBody st) body) : Cal P w K mg base (k + 1) x (spF K n (fnD n kk body)) [] := by
  subst hkk
  refine G.cal S (fun vs H Q E h => ?_) fun f cdv A outer s H vs Q E hr h => ⟨_, hbody f cdv A outer s H E hr, body_ok h⟩
  obtain ⟨hs, ds, r, s, tp, rp, hl, _⟩ := h
  rw [rp.length, hl, hn]
theorem MD.vmet {C : Addr} {m qual : Str} {st : Stmt} {N ps : List Str} {k n kk : Nat} {body : FS} (M : MD K C m qual st ps) (c : Cls K C) (S : FnScope N ps (defScope st)) (hn : ps.length = n) (hkk : N.length = kk)
    (hbody : ∀ (f : Addr) (cdv : Value) (A : Around) (outer : List Env) (s : Shared) (H : Hp) (E : XK), Room k (A.deeper (envOfC qual (defScope st) s.heap.objs.size f cdv)) →
      VSs (cxOf CX0 P w K mg base N qual (defScope st) f cdv A outer s H E).nox (defBody st) body) : Met P w K mg base (k + 1) C m (spF K n (fnD n kk body)) [] := by
  subst hkk
  refine M.met c S (fun vs H Q E h => ?_) fun f cdv A outer s H vs Q E hr h => ⟨_, hbody f cdv A outer s H E hr, body_ok h⟩
  obtain ⟨hs, ds, r, s, tp, rp, hl, _⟩ := h
  rw [rp.length, hl, hn]
end
/-! ### calls -/
section
variable {X : Cx} {e o : Expr} {es : List Expr} {ga : FA} {f : FE} {pos p apos : Pos} {x m : Str} {k j n kk : Nat} {body : FS} {C : Addr}
theorem fnD_len {n k : Nat} {body : FS} {ds : List D} {r : D} (h : fnD n k body ds = some r) : ds.length = n := by
  unfold fnD at h
  split at h
  · assumption
  · cases h
/-- a call of plain data -/
theorem call_ok {K : PySem.W.Frag} {w : Wd} {ρ : En} {σ : L2.St} {H : Hp} {vs : List V} {ds : List D} {d : D} {n : Nat} {fn : List D → Option D} {Q : VK} {E : XK} (ok : EnvOk K w ρ σ H) (r : RepAll K w.hs vs ds) (hl : ds.length = n) (ef : fn ds = some d)
    (k : ∀ v' w' H', Fr w H w' H' → EnvOk K w' ρ σ H' → Rep K w'.hs v' d → Q v' H') : spF K n fn vs H Q E := by
  refine ⟨w.hs, ds, d, ok.sub, ok.tups, r, hl, ef, fun v hs' H' s1 s2 s3 t3 s4 r' => ?_⟩
  refine k v ⟨hs', w.own, w.me, w.me2⟩ H' ⟨s2, fun a o q n => ⟨s1 a o q, n, fun z => s4 a o q z⟩, (fun a o q => ⟨o, s1 a o q⟩), rfl, rfl⟩ (ok.keep s2 s3 rfl ⟨rfl, rfl⟩ (fun a i q => ?_) (fun a i q => ?_) t3) r'
  · obtain ⟨o, ho⟩ := ok.live a i q
    exact s4 a o ho (ok.disj a i q)
  · obtain ⟨o, ho⟩ := ok.live a i q
    rw [s1 a o ho, ho]
theorem ve_call (c : Cal X.prog X.w X.K X.mg X.base k x (spF X.K n (fnD n kk body)) []) (hr : Room j X.A) (hk : k ≤ j) (hg : Gl X x) (ha : VA X (e :: es) ga)
    (hdb : (x == ("__debug__" : Str)) = false := by decide) (he : starEach (e :: es) X.env = (false, eval e X.env) :: starEach es X.env := by rfl) (hpl : (backTo pos (starEach es X.env)).any (·.1) = false := by rfl) :
    VE X (.Call (.Name x p) (e :: es) [] pos) (fAp (fnD n kk body) ga) := by
  refine ve_ap (es := es) (ι := Unit) (r := fun _ vs H Q => spF X.K n (fnD n kk body) (vs ++ []) H Q C8.E0) (fun _ => C8.pe_c c hr hk hg ha hdb he hpl) fun ds d ed => ⟨(), fun w ρ σ H vs Q ok r k => ?_⟩
  rw [List.append_nil]
  exact call_ok ok r (fnD_len ed) ed k
/-- a method of an instance -/
def methD (c m : Str) (fn : List D → Option D) (ds : List D) : Option D := match ds with
  | .ins c' ns vs :: r => if c' = c ∧ m ∉ ns then fn (.ins c' ns vs :: r) else none
  | _ => none
theorem methD_inv {c m : Str} {fn : List D → Option D} {d z : D} {r : List D} (h : methD c m fn (d :: r) = some z) : ∃ ns vs, d = .ins c ns vs ∧ m ∉ ns ∧ fn (d :: r) = some z := by
  cases d <;> try (cases h; done)
  rename_i c' ns vs
  have h' : (if c' = c ∧ m ∉ ns then fn (.ins c' ns vs :: r) else none) = some z := h
  by_cases q : c' = c ∧ m ∉ ns
  · rw [if_pos q] at h'
    obtain ⟨q1, q2⟩ := q
    subst q1
    exact ⟨ns, vs, rfl, q2, h'⟩
  · rw [if_neg q] at h'; cases h'
theorem lookup_none {fs : List (Str × V)} {m : Str} (h : m ∉ fs.map (·.1)) : fs.lookup m = none := by
  induction fs with
  | nil => rfl
  | cons p r ih =>
    obtain ⟨a, b⟩ := p
    rw [List.map_cons, List.mem_cons] at h
    have h1 : (m == a) = false := beq_eq_false_iff_ne.mpr fun z => h (.inl z)
    rw [List.lookup_cons, h1]
    exact ih fun z => h (.inr z)
theorem ve_meth {c : Str} {pl : Sem Bool} (hm : Met X.prog X.w X.K X.mg X.base k (He.ga X.K c) m (spF X.K n (fnD n kk body)) []) (hr : Room j X.A) (hk : k ≤ j) (ho : VE X o f) (ha : VA X (e :: es) ga)
    (hst : starEach (e :: es) X.env = (false, eval e X.env) :: starEach es X.env := by rfl) (hpl : (backTo pos (starEach es X.env)).any (·.1) = false := by rfl)
    (ht : eval (.Call (.Attribute o m apos) (e :: es) [] pos) X.env = (do
      let ov ← eval o X.env
      standAt apos.atName
      let (f, first) ← holding [ov] (getMethod ov m pl)
      callWith pos f first (backTo pos (starEach (e :: es) X.env)) (backToKw pos (keywordEach [] X.env))) := by rfl) :
    VE X (.Call (.Attribute o m apos) (e :: es) [] pos) (fAp (methD c m (fnD n kk body)) (aC f ga)) := by
  refine weakE (C8.pe_mt (pl := pl) hm hr hk ho ha hst hpl ht) fun σ H Q q => ?_
  obtain ⟨w, ρ, z, ρ', ok, ef, kq⟩ := q
  obtain ⟨⟨ds, ρ1⟩, e1, e2⟩ := Option.bind_eq_some_iff.mp ef
  obtain ⟨d2, e3, e4⟩ := Option.map_eq_some_iff.mp e2
  cases e4
  obtain ⟨⟨d0, ρ2⟩, e5, e6⟩ := Option.bind_eq_some_iff.mp e1
  obtain ⟨⟨dr, ρ3⟩, e7, e8⟩ := Option.map_eq_some_iff.mp e6
  cases e8
  refine ⟨w, ρ, d0, ρ2, ok, e5, fun v w1 H1 f1 ok1 r1 => ?_⟩
  obtain ⟨ns, vs, rfl, nm, e9⟩ := methD_inv e3
  cases r1 with
  | @ins a C dx c' fs ns vs h1 h2 h3 h4 =>
    subst h2
    refine ⟨a, dx, fs, rfl, ok1.sub.ins h1, lookup_none (by rw [← h3]; exact nm), w1, ρ2, dr, ρ3, ok1, e7, fun us w2 H2 f2 ok2 r2 => ?_⟩
    show spF X.K n (fnD n kk body) (V.ref a :: (us ++ [])) H2 Q _
    rw [List.append_nil]
    exact call_ok ok2 (.cons ((Rep.ins h1 rfl h3 h4).mono (.of f2.sh)) r2) (fnD_len e9) e9 fun v' w' H' f' ok' r' => kq v' w' H' (f1.trans (f2.trans f')) ok' r'
theorem ve_meth0 {c : Str} {pl : Sem Bool} (hm : Met X.prog X.w X.K X.mg X.base k (He.ga X.K c) m (spF X.K n (fnD n kk body)) []) (hr : Room j X.A) (hk : k ≤ j) (ho : VE X o f)
    (ht : eval (.Call (.Attribute o m apos) [] [] pos) X.env = (do
      let ov ← eval o X.env
      standAt apos.atName
      let (f, first) ← holding [ov] (getMethod ov m pl)
      callWith pos f first (backTo pos (starEach [] X.env)) (backToKw pos (keywordEach [] X.env))) := by rfl) :
    VE X (.Call (.Attribute o m apos) [] [] pos) (fAp (methD c m (fnD n kk body)) (aC f aN)) := by
  refine weakE (C8.pe_mt0 (pl := pl) hm hr hk ho ht) fun σ H Q q => ?_
  obtain ⟨w, ρ, z, ρ', ok, ef, kq⟩ := q
  obtain ⟨⟨ds, ρ1⟩, e1, e2⟩ := Option.bind_eq_some_iff.mp ef
  obtain ⟨d2, e3, e4⟩ := Option.map_eq_some_iff.mp e2
  cases e4
  obtain ⟨⟨d0, ρ2⟩, e5, e6⟩ := Option.bind_eq_some_iff.mp e1
  obtain ⟨⟨dr, ρ3⟩, e7, e8⟩ := Option.map_eq_some_iff.mp e6
  cases e8
  cases e7
  refine ⟨w, ρ, d0, ρ2, ok, e5, fun v w1 H1 f1 ok1 r1 => ?_⟩
  obtain ⟨ns, vs, rfl, nm, e9⟩ := methD_inv e3
  cases r1 with
  | @ins a C dx c' fs ns vs h1 h2 h3 h4 =>
    subst h2
    refine ⟨a, dx, fs, rfl, ok1.sub.ins h1, lookup_none (by rw [← h3]; exact nm), ?_⟩
    show spF X.K n (fnD n kk body) [V.ref a] H1 Q C8.E0
    exact call_ok ok1 (.cons (Rep.ins h1 rfl h3 h4) .nil) (fnD_len e9) e9 fun v' w' H' f' ok' r' => kq v' w' H' (f1.trans f') ok' r'
end
end VS
set_option autoImplicit false
namespace VS
open PySem PySem.Spec PyProof.Rows L2 AR
open C8 (Cal Met Mak)
/-! ### instances: __init__, self.x = e, o.x -/
/-- what an __init__ of plain data promises: self at x is its own -/
def spI (K : PySem.W.Frag) (c : Str) (n : Nat) (f : List D → Option D) : Sp := fun vs H Q _ => ∃ x dx vs', vs = .ref x :: vs' ∧ H x = some (.ins (He.ga K c) dx []) ∧ ∃ hs ds r, hs x = none ∧ Sub hs H ∧ AllT hs H ∧ RepAll K hs vs' ds ∧ ds.length = n ∧ f ds = some r ∧
  ∀ hs' H', (∀ a o, a ≠ x → H a = some o → H' a = some o) → (∃ o, H' x = some o) → Same hs hs' → Sub hs' H' → AllT hs' H' → (∀ a o, H a = some o → a ≠ x → hs a = none → hs' a = none) → Rep K hs' (.ref x) r → Q .non H'
def startI (c : Str) (k : Nat) (ds : List D) : En := Sl.o (.ins c [] []) :: (ds.map Sl.s ++ List.replicate (k - (ds.length + 1)) .u)
theorem get_map_s {ds : List D} {k i : Nat} {x : Sl} (q : (ds.map Sl.s ++ List.replicate k Sl.u)[i]? = some x) (hx : x ≠ .u) : i < ds.length ∧ ∃ d, ds[i]? = some d ∧ x = .s d := by
  by_cases hi : i < ds.length
  · rw [List.getElem?_append_left (by rw [List.length_map]; exact hi), List.getElem?_map] at q
    obtain ⟨d', hd, e⟩ := Option.map_eq_some_iff.mp q
    exact ⟨hi, d', hd, e.symm⟩
  · rw [List.getElem?_append_right (by rw [List.length_map]; omega)] at q
    have := List.mem_of_getElem? q
    rw [List.mem_replicate] at this
    exact absurd this.2 hx
section
variable {K : PySem.W.Frag}
theorem startI_ok {N : List Str} {c : Str} {x dx : Addr} {vs : List V} {ds : List D} {hs H : Hp} (h : H x = some (.ins (He.ga K c) dx [])) (hx : hs x = none) (s : Sub hs H) (tp : AllT hs H) (r : RepAll K hs vs ds) :
    EnvOk K ⟨hs, fun a => if a = x then some 0 else none, x, 0⟩ (startI c N.length ds) (L2.start N (.ref x :: vs)) H := by
  have own : ∀ a i, (if a = x then some 0 else none) = some i → a = x ∧ i = 0 := fun a i q => by
    by_cases z : a = x
    · rw [if_pos z] at q; injection q with q; exact ⟨z, q.symm⟩
    · rw [if_neg z] at q; cases q
  refine ⟨s, fun a i q => ?_, fun a i q => ?_, ?_, fun i d q => ?_, fun i d q => ?_, tp⟩
  · rw [(own a i q).1]; exact hx
  · rw [(own a i q).1]; exact ⟨_, h⟩
  · unfold startI L2.start
    simp only [List.length_cons, List.length_append, List.length_map, List.length_replicate, List.map_cons, List.cons_append]
    rw [r.length]
  · cases i with
    | zero => unfold startI at q; simp at q
    | succ i =>
      unfold startI at q
      rw [List.getElem?_cons_succ] at q
      obtain ⟨hi, d', hd, e⟩ := get_map_s q (fun z => nomatch z)
      injection e with e; subst e
      obtain ⟨v, hv, rv⟩ := r.get' i hd
      refine ⟨v, ?_, rv⟩
      unfold L2.start
      rw [List.map_cons, List.cons_append, List.getElem?_cons_succ, List.getElem?_append_left (by rw [List.length_map, r.length]; exact hi), List.getElem?_map, hv]
      rfl
  · cases i with
    | zero =>
      unfold startI at q
      have q' : d = .ins c [] [] := by simpa using q.symm
      subst q'
      exact ⟨.ref x, rfl, .ins rfl (by show (if x = x then some 0 else none) = some 0; rw [if_pos rfl]) h rfl rfl .nil⟩
    | succ i =>
      unfold startI at q
      rw [List.getElem?_cons_succ] at q
      obtain ⟨hi, d', hd, e⟩ := get_map_s q (fun z => nomatch z)
      cases e
/-- self behind the body -/
def selfD (ρ : En) : Option D := match ρ[0]? with
  | some (Sl.o (.ins c ns vs)) => some (.ins c ns vs)
  | _ => none
def iniD (c : Str) (n k : Nat) (body : FS) (ds : List D) : Option D := if ds.length = n then match body (startI c k ds) with
  | some (.rt .non ρ) => selfD ρ
  | some (.nx ρ) => selfD ρ
  | _ => none
  else none
theorem selfD_inv {ρ : En} {r : D} (h : selfD ρ = some r) : ρ[0]? = some (Sl.o r) ∧ ∃ c ns vs, r = .ins c ns vs := by
  unfold selfD at h
  split at h
  · rename_i e; cases h; exact ⟨e, _, _, _, rfl⟩
  · cases h
theorem init_ok {N : List Str} {c : Str} {n : Nat} {body : FS} {vs : List V} {H : Hp} {Q : VK} {E : XK} (h : spI K c n (iniD c n N.length body) vs H Q E) : tSt K body { nx := fun _ H' => Q .non H', rt := Q } (L2.start N vs) H := by
  obtain ⟨x, dx, vs', rfl, hx, hs, ds, r, hs0, s, tp, rp, hl, ef, k⟩ := h
  unfold iniD at ef
  rw [if_pos hl] at ef
  cases eb : body (startI c N.length ds) with
  | none => rw [eb] at ef; cases ef
  | some o =>
    rw [eb] at ef
    refine ⟨_, _, o, startI_ok hx hs0 s tp rp, eb, ?_⟩
    have fin : ∀ ρ' σ' w' H', selfD ρ' = some r → Fr ⟨hs, fun a => if a = x then some 0 else none, x, 0⟩ H w' H' → EnvOk K w' ρ' σ' H' → Q .non H' := fun ρ' σ' w' H' es f' ok' => by
      obtain ⟨e0, c', ns, us, rfl⟩ := selfD_inv es
      obtain ⟨v, hv, ro⟩ := ok'.ow 0 _ e0
      cases ro with
      | @ins a C dx' c'' fs ns' us' h1 h2 h3 h4 h5 h6 =>
        have ax : a = x := h1.trans f'.me.1
        subst ax
        have z0 := ok'.disj _ _ h2
        have sm : Same w'.hs (upd w'.hs a (.ins C dx' fs)) := AR.same_new z0
        have nn : ∀ b, b ≠ a → (if b = a then some 0 else none : Option Nat) = none := fun b hb => by rw [if_neg hb]
        refine k (upd w'.hs a (.ins C dx' fs)) H' (fun b o hb q => (f'.kp b o q (nn b hb)).1) ⟨_, h3⟩ (f'.sh.trans sm) (fun b o q => ?_) (fun b xs q => sm b _ (ok'.tups b xs q)) (fun b o q hb z => ?_) (.ins upd_same h4 h5 (h6.mono (.of sm)))
        · by_cases hb : b = a
          · subst hb; rw [upd_same] at q; cases q; exact .inl h3
          · rw [upd_ne hb] at q; exact ok'.sub b o q
        · rw [upd_ne hb]; exact (f'.kp b o q (nn b hb)).2.2 z
    cases o with
    | nx ρ => exact fun σ' w' H' f' ok' => fin ρ σ' w' H' ef f' ok'
    | rt d ρ =>
      cases d <;> try (cases ef; done)
      exact fun v σ' w' H' f' ok' r' => by cases r'; exact fin ρ σ' w' H' ef f' ok'
    | bk ρ => cases ef
    | ct ρ => cases ef
end
section
variable {X : Cx} {e o value : Expr} {es : List Expr} {ga : FA} {f g : FE} {pos pos' p apos : Pos} {x m : Str} {k j n kk : Nat} {body : FS} {C : Addr}
/-- o.f of an instance of one of the classes cs -/
def attrD (cs : List Str) (f : Str) : D → Option D
  | .ins c ns vs => if c ∈ cs then (ns.zip vs).lookup f else none
  | _ => none
theorem lookup_rep {K : PySem.W.Frag} {H : Hp} {f : Str} : ∀ {fs : List (Str × V)} {vs : List D} {d : D}, RepAll K H (fs.map (·.2)) vs → ((fs.map (·.1)).zip vs).lookup f = some d → ∃ v, fs.lookup f = some v ∧ Rep K H v d
  | [], _, _, .nil, h => by cases h
  | (a, b) :: fs, _ :: vs, d, .cons r t, h => by
    rw [List.map_cons, List.zip_cons_cons, List.lookup_cons] at h
    rw [List.lookup_cons]
    cases q : f == a with
    | true => rw [q] at h; cases h; exact ⟨b, rfl, r⟩
    | false => rw [q] at h; exact lookup_rep t h
theorem ve_attr {cs : List Str} {a : Str} (hc : ∀ c ∈ cs, Cls X.K (He.ga X.K c) ∧ NoAttr X.K (He.ga X.K c) a) (h : VP X e f) (hb : attributeBase e a X.env (eval e X.env) = eval e X.env) : VE X (.Attribute e a pos) (fU (attrD cs a) f) := by
  refine ve_unP (ι := Unit) (r := fun _ x H Q => ∃ p C dx fs v, x = .ref p ∧ H p = some (.ins C dx fs) ∧ Cls X.K C ∧ NoAttr X.K C a ∧ fs.lookup a = some v ∧ Q v H) (fun _ => pe_fld h hb) fun d d' ed => ⟨(), fun w ρ σ H v Q ok r k => ?_⟩
  cases r with
  | @ins p C dx c fs ns vs h1 h2 h3 h4 =>
    have ed' : (if c ∈ cs then (ns.zip vs).lookup a else none) = some d' := ed
    by_cases hm : c ∈ cs
    · rw [if_pos hm] at ed'
      subst h3
      obtain ⟨v, hv, rv⟩ := lookup_rep h4 ed'
      subst h2
      exact ⟨p, _, dx, fs, v, rfl, h1, (hc c hm).1, (hc c hm).2, hv, k v w H (.refl _ _) ok rv⟩
    · rw [if_neg hm] at ed'; cases ed'
  | _ => cases ed
/-- self.f = e -/
def putD (f : Str) (d : D) : List Str → List D → List Str × List D
  | n :: ns, v :: vs => if n = f then (n :: ns, d :: vs) else let r := putD f d ns vs; (n :: r.1, v :: r.2)
  | ns, vs => (ns ++ [f], vs ++ [d])
theorem putD_putF {K : PySem.W.Frag} {H : Hp} {f : Str} {y : V} {d : D} (r : Rep K H y d) : ∀ {fs : List (Str × V)} {vs : List D}, RepAll K H (fs.map (·.2)) vs →
    (putD f d (fs.map (·.1)) vs).1 = (putF f y fs).map (·.1) ∧ RepAll K H ((putF f y fs).map (·.2)) (putD f d (fs.map (·.1)) vs).2
  | [], _, .nil => ⟨rfl, .cons r .nil⟩
  | (g, x) :: fs, _ :: vs, .cons q t => by
    obtain ⟨h1, h2⟩ := putD_putF r (fs := fs) t
    unfold putF
    rw [List.map_cons]
    unfold putD
    by_cases hg : g = f
    · rw [if_pos hg, if_pos hg]; exact ⟨rfl, .cons r t⟩
    · rw [if_neg hg, if_neg hg]
      exact ⟨by show g :: _ = _; rw [h1]; rfl, .cons q h2⟩
def sFl (cs : List Str) (i : Nat) (a : Str) (f : FE) : FS := fun ρ => (f ρ).bind fun p => match p.2[i]? with
  | some (Sl.o (.ins c ns vs)) => if c ∈ cs ∧ ns.length < 1000 then some (.nx (p.2.set i (Sl.o (.ins c (putD a p.1 ns vs).1 (putD a p.1 ns vs).2)))) else none
  | _ => none
theorem vs_fld {cs : List Str} {i : Nat} {a : Str} (hc : ∀ c ∈ cs, Cls X.K (He.ga X.K c) ∧ NoAttr X.K (He.ga X.K c) a) (ho : PE X o (tVar i)) (hv : VE X value f) (hs : swapsWith value (some (.Attribute o a pos')) pos.line X.env = pure false) : VS1 X (.Assign [.Attribute o a pos'] value pos) (sFl cs i a f) := by
  refine weakS (ps_fld ho hv hs) fun E σ H q => ?_
  obtain ⟨w, ρ, ot, ok, ef, k⟩ := q
  obtain ⟨⟨d, ρ1⟩, e1, e2⟩ := Option.bind_eq_some_iff.mp ef
  refine ⟨w, ρ, d, ρ1, ok, e1, fun v w1 H1 f1 ok1 r1 => ?_⟩
  split at e2
  · rename_i c ns vs e3
    split at e2
    · rename_i hcn
      obtain ⟨hcm, hlen⟩ := hcn
      cases e2
      obtain ⟨u, hu, ro⟩ := ok1.ow i _ e3
      cases ro with
      | @ins p C dx c' fs ns' vs' h1 h2 h3 h4 h5 h6 =>
        subst h4 h5
        refine ⟨_, hu, p, _, dx, fs, rfl, h3, (hc c hcm).1, (hc c hcm).2, by rw [List.length_map] at hlen; exact hlen, ?_⟩
        obtain ⟨p1, p2⟩ := putD_putF (f := a) r1 h6
        obtain ⟨f2, ok2⟩ := ok1.mut (o := .ins (He.ga X.K c) dx (putF a v fs)) (d := .ins c (putD a d (fs.map (·.1)) vs).1 (putD a d (fs.map (·.1)) vs).2) h2 hu (.ins h1 h2 upd_same rfl p1 p2) (fun _ z => nomatch z)
        exact k σ w1 _ (f1.trans f2) ok2
    · cases e2
  · cases e2
theorem iniD_len {c : Str} {n k : Nat} {body : FS} {ds : List D} {r : D} (h : iniD c n k body ds = some r) : ds.length = n := by
  unfold iniD at h
  split at h
  · assumption
  · cases h
theorem ve_make {c : Str} (hm : Mak X.prog X.w X.K X.mg X.base k x (He.ga X.K c) (spI X.K c n (iniD c n kk body)) []) (hr : Room j X.A) (hk : k + 1 ≤ j) (hg : Gl X x) (ha : VA X (e :: es) ga)
    (hdb : (x == ("__debug__" : Str)) = false := by decide) (he : starEach (e :: es) X.env = (false, eval e X.env) :: starEach es X.env := by rfl) (hpl : (backTo pos (starEach es X.env)).any (·.1) = false := by rfl) :
    VE X (.Call (.Name x p) (e :: es) [] pos) (fAp (iniD c n kk body) ga) := by
  refine ve_ap (es := es) (ι := Unit) (r := fun _ vs H1 Q => ∀ x dx, H1 x = none → H1 dx = none → dx ≠ x →
    spI X.K c n (iniD c n kk body) (.ref x :: (vs ++ [])) (upd (upd H1 dx (.own x)) x (.ins (He.ga X.K c) dx [])) (fun v H2 => v = .non ∧ Q (.ref x) H2) C8.E0) (fun _ => C8.pe_mk hm hr hk hg ha hdb he hpl) fun ds d ed => ⟨(), fun w ρ σ H vs Q ok r k => ?_⟩
  intro y dx hy hdx ne
  obtain ⟨z1, z2⟩ := ok.free hy
  have old : ∀ a o, H a = some o → upd (upd H dx (.own y)) y (.ins (He.ga X.K c) dx []) a = some o := fun a o q => by
    rw [upd_ne (ne_of_none q hy), upd_ne (ne_of_none q hdx)]; exact q
  rw [List.append_nil]
  refine ⟨y, dx, vs, rfl, upd_same, w.hs, ds, d, z1, fun a o q => ?_, fun a xs q => ?_, r, iniD_len ed, ed, fun hs' H' s1 s2 s3 s4 t4 s5 r' => ⟨rfl, ?_⟩⟩
  · rcases ok.sub a o q with q' | ⟨n, ob, q'⟩
    · exact .inl (old a o q')
    · exact .inr ⟨n, ob, old a _ q'⟩
  · by_cases n1 : a = y
    · subst n1; rw [upd_same] at q; cases q
    · rw [upd_ne n1] at q
      by_cases n2 : a = dx
      · subst n2; rw [upd_same] at q; cases q
      · rw [upd_ne n2] at q; exact ok.tups a xs q
  · have ke : ∀ a o, H a = some o → H' a = some o := fun a o q => s1 a o (ne_of_none q hy) (old a o q)
    refine k _ ⟨hs', w.own, w.me, w.me2⟩ H' ⟨s3, fun a o q n => ⟨ke a o q, n, fun z => s5 a o (old a o q) (ne_of_none q hy) z⟩, (fun a o q => ⟨o, ke a o q⟩), rfl, rfl⟩ (ok.keep s3 s4 rfl ⟨rfl, rfl⟩ (fun a i q => ?_) (fun a i q => ?_) t4) r'
    · obtain ⟨o, ho⟩ := ok.live a i q
      exact s5 a o (old a o ho) (ne_of_none ho hy) (ok.disj a i q)
    · obtain ⟨o, ho⟩ := ok.live a i q
      rw [ke a o ho, ho]
end
section
variable {P : Program} {w : World} {K : PySem.W.Frag} {mg : Str → Option Value} {base : Heap}
theorem ID.vmak {x qual c : Str} {st : Stmt} {N ps : List Str} {k n kk : Nat} {body : FS} (M : ID K mg x (He.ga K c) qual st ps) (S : FnScope N ps (defScope st)) (hn : ps.length = n + 1) (hkk : N.length = kk)
    (hbody : ∀ (f : Addr) (cdv : Value) (A : Around) (outer : List Env) (s : Shared) (H : Hp) (E : XK), Room k (A.deeper (envOfC qual (defScope st) s.heap.objs.size f cdv)) →
      VSs (cxOf CX0 P w K mg base N qual (defScope st) f cdv A outer s H E).nox (defBody st) body) : Mak P w K mg base (k + 1) x (He.ga K c) (spI K c n (iniD c n kk body)) [] := by
  subst hkk
  refine M.mak S (fun vs H Q E h => ?_) fun f cdv A outer s H vs Q E hr h => ⟨_, hbody f cdv A outer s H E hr, init_ok h⟩
  obtain ⟨x, dx, vs', rfl, hx, hs, ds, r, hs0, s, tp, rp, hl, _⟩ := h
  rw [List.length_cons, rp.length, hl, hn]
end
end VS
namespace AR
open PySem PySem.Spec PyProof.Rows L2
section
variable (K : PySem.W.Frag) {X : Cx}
/-! ### an index, a length of what may be a list, a tuple, a text -/
def rIxA : R2 := fun x y H Q => rIxL K x y H Q ∨ rIxT K x y H Q ∨ rIxS x y H Q
theorem ix_anyK (hK : X.K = K := by rfl) : IxR X (rIxA K) := by
  subst hK
  intro value slice pins s σ H x y v u Q I rx ry h hs
  rcases h with h | h | h
  · exact ix_list value slice pins s σ H x y v u Q I rx ry h hs
  · exact ix_tup value slice pins s σ H x y v u Q I rx ry h hs
  · exact ix_str value slice pins s σ H x y v u Q I rx ry h hs
def rLenA : List V → Hp → VK → Prop := fun xs H Q => rLenQ K xs H Q ∨ rLenT xs H Q
theorem call_lenAK (hK : X.K = K := by rfl) : CallR X (.builtin "len") (rLenA K) := by
  intro pins s σ H xs us Q I r h
  rcases h with h | h
  · exact call_lenK K hK pins s σ H xs us Q I r h
  · exact call_lenT pins s σ H xs us Q I r h
/-! ### a list turned about, the step an expression -/
def tRevX (te ts : TE) : TE := fun σ H Q => te σ H fun x H1 => ts σ H1 fun i H2 => ∃ a xs, x = .ref a ∧ i = .int (-1) ∧ SqL K H2 a xs ∧ ∀ p, H2 p = none → Q (.ref p) (upd H2 p (.lst xs.reverse))
theorem pe_revX {e se : Expr} {te ts : TE} {p3 pos : Pos} (he : PE X e te) (hst : PE X se ts) (hK : X.K = K := by rfl) : PE X (.Subscript e (.Slice none none (some se) p3) pos) (tRevX K te ts) := by
  subst hK
  refine ⟨fun pins st σ H Q I h => ?_⟩
  refine Subscript_ (thn (he.run pins st σ H _ I h) fun v t1 ⟨x, H1, I1, r1, q1⟩ => ?_)
  refine wpAny_Slice (thn (po_none.run pins t1 σ H1 (fun o G => o = none ∧ G = H1) I1 ⟨rfl, rfl⟩) fun vl t2 ⟨l, G2, I2, pl, el, e2⟩ => ?_)
  subst el e2
  refine thn (po_none.run pins t2 σ G2 (fun o G => o = none ∧ G = G2) I2 ⟨rfl, rfl⟩) fun vu t3 ⟨u, G3, I3, pu, eu, e3⟩ => ?_
  subst eu e3
  rw [evalPart_some]
  refine thn (hst.run pins t3 σ G3 _ I3 q1) fun vs t4 ⟨i, H4, I4, ri, a, xs, ex, ei, hx, q⟩ => ?_
  subst ex ei
  cases r1
  obtain ⟨ti, rfl⟩ := ri
  have I5 : Inv X pins σ H4 { t4 with heap := t4.heap.push { cls := .type "slice", data := .fields #[vl, vu, .int (-1) ti] } } := I4.kept (t' := t4.toks) fun b ob q => Heap.get?_push_of_some _ q
  obtain ⟨its, r, ht, hz⟩ := I5.list hx
  have hlen := r.length
  show wpAny (model X.prog X.w) X.A (subscriptTail e (.Slice none none (some se) p3) (.ref a) (.ref t4.heap.objs.size)) (EP X pins σ Q) X.xe { t4 with heap := t4.heap.push { cls := .type "slice", data := .fields #[vl, vu, .int (-1) ti] } }
  refine tail_any (ops := [.ref a, .ref t4.heap.objs.size]) ht.isList.typeIs PySem.slot_list_getitem.lookup ?_ (by with_unfolding_all rfl)
  have ps : IsPart (.int (-1) ti) (some (-1)) := .int _ _
  refine wpAny_getItem_list_slice ht.isList (Heap.IsSliceOf.new _ vl vu (.int (-1) ti)) pl pu ps (by decide) ?_ (by rw [List.size_toArray]; omega)
  rw [PySem.W.krv_pick]
  refine ⟨.ref _, _, I5.laid (t' := t4.toks) (o := .lst xs.reverse) (fun b ob q => Heap.get?_push_of_some _ q) (Nat.le_refl _) ?_, rfl, q _ (I5.hok.fresh (Nat.le_refl _))⟩
  exact ⟨by rw [List.length_reverse]; exact hz, _, 0, r.reverse, Heap.get?_push_size _ rfl⟩
end
section
variable {X : Cx}
/-! ### {tuple: v} -/
def tDisp1 (tk tv : TE) : TE := fun σ H Q => ∀ p, H p = none → tk σ (upd H p (.dT [])) fun y H1 => tv σ H1 fun z H2 => ∃ a k, y = .ref a ∧ H2 a = some (.tup (k.map kV)) ∧ H2 p = some (.dT []) ∧ Q (.ref p) (upd H2 p (.dT [(k, z)]))
theorem pe_disp1 {ek ev : Expr} {tk tv : TE} {pos : Pos} (hu : X.A.units < cLine) (hk : PE X ek tk) (hv : PE X ev tv) : PE X (.Dict [some ek] [ev] pos) (tDisp1 tk tv) := by
  refine ⟨fun pins st σ H Q I q => ?_⟩
  have hn := I.hok.fresh (Nat.le_refl st.heap.objs.size)
  have I1 := I.laid (a := st.heap.objs.size) (o := .dT []) (h' := st.heap.push { cls := .type "dict", data := .dict #[] }) (t' := st.toks) (fun _ _ z => Heap.get?_push_of_some _ z) (Nat.le_refl _) (dt_empty st.heap I.big)
  rw [arm_eval_Dict, zip_pairTrees [some ek] [ev] X.env pos rfl rfl, dictDisplay_pairs _ (by simp [pairTrees]) (by simp [pairTrees])]
  refine wpAny_bind (wpAny_standAt (wpAny_bind (wpAny_subDictH (knd := tupleKind (mixKind X.prog X.w)) hu (by simp [pairTrees]) ?_)))
  refine pairTrees_cons_walk (thn (hk.run pins _ σ _ _ I1 (q _ hn)) fun kq t1 ⟨y, H1, J1, ry, q1⟩ => thn (hv.run pins t1 σ H1 _ J1 q1) fun vq t2 ⟨z, H2, J2, rz, a, k, ey, ha, hp, q2⟩ => pairTrees_nil_walk ?_)
  subst ey
  cases (show kq = Value.ref a from ry)
  obtain ⟨zz, hd, xs, rel, dd⟩ := dt_of J2.hok hp
  cases rel
  refine ⟨[(k, a, vq)], ⟨rfl, rfl, key_of J2.hok ha, trivial⟩, dd, fun h2 tk2 d2 same => wpAny_pure ⟨.ref st.heap.objs.size, _, ?_, rfl, q2⟩⟩
  obtain ⟨o, es, ep, g1, g2, g3, g4, _, g5⟩ := d2
  refine d_write J2 (by rw [hp]; exact True.intro) same ⟨o, g1⟩ ⟨by show 1 ≤ sizeLine; decide, hd, [(k, a, vq)], .cons ⟨rfl, ?_, rz⟩ .nil, o, es, ep, g1, g2, g3, ?_, by simp⟩
  · rw [upd_ne (ne_of ha hp (fun z => nomatch z))]
    exact ha
  · rw [g4]
    simp [storedAllH, storedH, atKey]
end
section
variable {K : PySem.W.Frag} {σ : L2.St} {H : Hp} {Q : VK} {D : Ends}
theorem i_revX {te ts : TE} (k : te σ H fun x H1 => ts σ H1 fun i H2 => ∃ a xs, x = .ref a ∧ i = .int (-1) ∧ SqL K H2 a xs ∧ ∀ p, H2 p = none → Q (.ref p) (upd H2 p (.lst xs.reverse))) : tRevX K te ts σ H Q := k
theorem i_disp1 {tk tv : TE} (k : ∀ p, H p = none → tk σ (upd H p (.dT [])) fun y H1 => tv σ H1 fun z H2 => ∃ a k, y = .ref a ∧ H2 a = some (.tup (k.map kV)) ∧ H2 p = some (.dT []) ∧ Q (.ref p) (upd H2 p (.dT [(k, z)]))) : tDisp1 tk tv σ H Q := k
theorem i_dNewT (k : ∀ p, H p = none → Q (.ref p) (upd H p (.dT []))) : tDNewT σ H Q := k
theorem i_par3 {i j l : Nat} {ta : TA} (k : ta σ H fun vs H1 => ∃ u v w, vs = [u, v, w] ∧ D.nx (((σ.set i (some u)).set j (some v)).set l (some w)) H1) : tPar3 i j l ta D σ H := k
end
end AR
set_option autoImplicit false
namespace VS
open PySem PySem.Spec PyProof.Rows L2 AR
/-! ### constants -/
theorem SG.of {x : Str} (h : (decide (x.length ≤ sizeLine) && PyData.strOk x) = true) : SG x := by
  rw [Bool.and_eq_true, decide_eq_true_eq] at h
  exact h
theorem SG.cps {x : Str} (g : SG x) : ∀ c ∈ x.cps.toList, c < 0x110000 := by
  have h := g.2
  unfold PyData.strOk at h
  rw [← Array.all_toList, List.all_eq_true] at h
  exact fun c hc => of_decide_eq_true (h c hc)
theorem SG.mk {x : Str} (hl : x.length ≤ sizeLine) (h : ∀ c ∈ x.cps.toList, c < 0x110000) : SG x := ⟨hl, by
  unfold PyData.strOk
  rw [← Array.all_toList, List.all_eq_true]
  exact fun c hc => decide_eq_true (h c hc)⟩
theorem SG.one {x : Str} (g : SG x) {c : Nat} (h : c ∈ x.cps.toList) : SG ⟨#[c]⟩ := .mk (by show 1 ≤ sizeLine; decide) fun d hd => by
  have : d = c := by simpa using hd
  subst this; exact g.cps d h
theorem SG.app {x y : Str} (g : SG x) (h : SG y) (hl : x.length + y.length ≤ sizeLine) : SG (x ++ y) := by
  have e : (x ++ y).cps.toList = x.cps.toList ++ y.cps.toList := TL.tl_append x y
  refine .mk ?_ fun c hc => ?_
  · have : (x ++ y).length = x.length + y.length := by
      show (x ++ y).cps.size = x.cps.size + y.cps.size
      rw [← Array.length_toList, e, List.length_append, Array.length_toList, Array.length_toList]
    omega
  · rw [e, List.mem_append] at hc
    rcases hc with q | q
    · exact g.cps c q
    · exact h.cps c q
section
variable {X : Cx} {a b e : Expr} {f g : FE} {pos p : Pos}
theorem ve_int {i : Int} {j} : VE X (.Constant (.int i) j pos) (fC (.int i)) := ve_c pe_int fun _ => .int i
theorem ve_bl {b : Bool} {j} : VE X (.Constant (.bool b) j pos) (fC (.bl b)) := ve_c pe_bl fun _ => .bl b
theorem ve_non {j} : VE X (.Constant .none j pos) (fC .non) := ve_c pe_non fun _ => .non
theorem ve_str {x : Str} {j} (h : (decide (x.length ≤ sizeLine) && PyData.strOk x) = true) : VE X (.Constant (.str x) j pos) (fC (.str x)) := ve_c pe_str fun _ => .str (SG.of h)
/-- a constant of the module -/
theorem ve_gl {x : Str} {d : D} (hg : Gl X x) (h : ∃ u v, X.mg x = some u ∧ RelV v u ∧ ∀ H, Rep X.K H v d) (hd : (x == ("__debug__" : Str)) = false := by decide) : VE X (.Name x pos) (fC d) := by
  obtain ⟨u, v, h1, h2, h3⟩ := h
  exact ve_c (pe_glob hg h1 h2 hd) h3
/-! ### len -/
def lenD : D → Option D
  | .str x => some (.int x.length)
  | .lst xs => some (.int xs.length)
  | .tup xs => some (.int xs.length)
  | .ktp xs => some (.int xs.length)
  | .dct _ ks _ => some (.int ks.length)
  | _ => none
/-- len of a dict, locked or not -/
def rLenDR : List V → Hp → VK → Prop := fun xs H Q => ∃ a n, xs = [.ref a] ∧ ((∃ kvs : List (Key × V), Rd H a (.dK kvs) ∧ kvs.length = n) ∨ ∃ kvs : List (List Key × V), Rd H a (.dT kvs) ∧ kvs.length = n) ∧ Q (.int (n : Nat)) H
theorem call_lenDR : CallR X (.builtin "len") rLenDR := by
  intro pins s σ H xs us Q I r h
  obtain ⟨a, n, rfl, h, q⟩ := h
  obtain ⟨u, rfl, ru⟩ := vals1 r
  cases ru
  rcases h with ⟨kvs, e, rfl⟩ | ⟨kvs, e, rfl⟩
  · exact d_len I e fun t s' I' => ⟨.int kvs.length, H, I', ⟨t, rfl⟩, q⟩
  · obtain ⟨z, hd, ys, rel, dd⟩ := dt_rd I.hok e
    have hl : kvs.length = ys.length := Paired.length rel
    refine call_len_dictH hd dd (by rw [← hl]; rw [sizeLine_eq] at z; omega) ?_
    rw [← hl]
    exact ⟨.int ((kvs.length : Nat) : Int), H, I.tok _, ⟨_, rfl⟩, q⟩
theorem ve_len (hg : Gl X "len") (hb : X.mg "len" = none) (h : VP X a f) (he : starEach [a] X.env = (false, eval a X.env) :: starEach [] X.env := by rfl) : VE X (.Call (.Name "len" p) [a] [] pos) (fU lenD f) := by
  refine ve_unP (ι := Fin 3) (r := fun i x H Q => if i = 0 then rLenQ X.K [x] H Q else if i = 1 then AR.rLenT [x] H Q else rLenDR [x] H Q) (fun i => ?_) fun d d' ed => ?_
  · match i with
    | 0 => exact pe_callB (call_lenK X.K) hg hb (by decide +kernel) (pa_cons h pa_nil he) (he := he)
    | 1 => exact pe_callB call_lenT hg hb (by decide +kernel) (pa_cons h pa_nil he) (he := he)
    | 2 => exact pe_callB call_lenDR hg hb (by decide +kernel) (pa_cons h pa_nil he) (he := he)
  · cases d with
    | str x => cases ed; exact ⟨1, fun w ρ σ H v Q ok r k => by cases r with | str g => exact i_lenT g.1 (k _ w H (.refl _ _) ok (.int _))⟩
    | lst xs => cases ed; exact ⟨0, fun w ρ σ H v Q ok r k => by cases r with | lst q l t => exact i_lenL q (by rw [t.length]; exact k _ w H (.refl _ _) ok (.int _))⟩
    | tup xs => cases ed; exact ⟨0, fun w ρ σ H v Q ok r k => by cases r with | tup q l t => exact i_lenU (.of q) (by rw [t.length]; exact k _ w H (.refl _ _) ok (.int _))⟩
    | ktp xs => cases ed; exact ⟨0, fun w ρ σ H v Q ok r k => by cases r with | ktp q l t => exact i_lenU q (by rw [t.length]; exact k _ w H (.refl _ _) ok (.int _))⟩
    | dct t ks vs => cases ed; exact ⟨2, fun w ρ σ H v Q ok r k => by
        cases r with
        | dK q e t => exact ⟨_, _, rfl, .inl ⟨_, q, rfl⟩, by rw [e, List.length_map] at k; exact k _ w H (.refl _ _) ok (.int _)⟩
        | dT q e t => exact ⟨_, _, rfl, .inr ⟨_, q, rfl⟩, by rw [e, List.length_map] at k; exact k _ w H (.refl _ _) ok (.int _)⟩⟩
    | _ => cases ed
/-! ### keys -/
def keyOf : D → Option Key
  | .int i => some (.inl i)
  | .str x => some (.inr x)
  | _ => none
def keysOf : List D → Option (List Key)
  | [] => some []
  | d :: ds => (keyOf d).bind fun k => (keysOf ds).map fun ks => k :: ks
def keyTOf : D → Option (List Key)
  | .tup ds => keysOf ds
  | _ => none
theorem keyD_of {d : D} {k : Key} (h : keyOf d = some k) : d = keyD k := by cases d <;> cases h <;> rfl
theorem keyOf_D (k : Key) : keyOf (keyD k) = some k := by cases k <;> rfl
theorem keysD_of : ∀ {ds : List D} {ks : List Key}, keysOf ds = some ks → ds = ks.map keyD
  | [], ks, h => by cases h; rfl
  | d :: ds, ks, h => by
    obtain ⟨k, h1, h2⟩ := Option.bind_eq_some_iff.mp h
    obtain ⟨r, h3, h4⟩ := Option.map_eq_some_iff.mp h2
    subst h4
    rw [keyD_of h1, keysD_of h3]; rfl
theorem keyT_of {d : D} {k : List Key} (h : keyTOf d = some k) : d = keyT k := by
  cases d <;> try (cases h; done)
  rw [keysD_of h]; rfl
theorem keyD_inj {j k : Key} (h : keyD j = keyD k) : j = k := by
  have := congrArg keyOf h
  rw [keyOf_D, keyOf_D] at this
  exact Option.some.inj this
theorem mapKeyD_inj : ∀ {j k : List Key}, j.map keyD = k.map keyD → j = k
  | [], [], _ => rfl
  | [], _ :: _, h => nomatch h
  | _ :: _, [], h => nomatch h
  | a :: j, b :: k, h => by
    rw [List.map_cons, List.map_cons] at h
    injection h with h1 h2
    rw [keyD_inj h1, mapKeyD_inj h2]
theorem keyT_inj {j k : List Key} (h : keyT j = keyT k) : j = k := by
  unfold keyT at h
  injection h with h
  exact mapKeyD_inj h
theorem rep_key {K : PySem.W.Frag} {H : Hp} {v : V} {k : Key} (r : Rep K H v (keyD k)) : v = kV k := by
  cases k with
  | inl i => cases r; rfl
  | inr x => cases r; rfl
theorem rep_keys {K : PySem.W.Frag} {H : Hp} : ∀ {vs : List V} {ks : List Key}, RepAll K H vs (ks.map keyD) → vs = ks.map kV
  | [], [], .nil => rfl
  | _ :: _, k :: ks, .cons r t => by rw [rep_key r, rep_keys t]; rfl
theorem rep_keyT {K : PySem.W.Frag} {H : Hp} {v : V} {k : List Key} (r : Rep K H v (keyT k)) : ∃ b, v = .ref b ∧ H b = some (.tup (k.map kV)) := by
  unfold keyT at r
  cases r with
  | tup q l t => rw [rep_keys t] at q; exact ⟨_, rfl, q⟩
/-- what a dict holds -/
def dval : List D → List D → D → Option D
  | k' :: ks, v :: vs, k => if k' = k then some v else dval ks vs k
  | _, _, _ => none
section
variable {K : PySem.W.Frag} {H : Hp}
theorem dval_val {κ : Type} [DecidableEq κ] {kd : κ → D} (inj : ∀ a b, kd a = kd b → a = b) : ∀ {kvs : List (κ × V)} {vs : List D} (k : κ), RepAll K H (kvs.map (·.2)) vs →
    (dval (kvs.map fun p => kd p.1) vs (kd k) = none ∧ valV kvs k = none) ∨ ∃ d v, dval (kvs.map fun p => kd p.1) vs (kd k) = some d ∧ valV kvs k = some v ∧ Rep K H v d
  | [], _, _, .nil => .inl ⟨rfl, rfl⟩
  | (a, b) :: kvs, d :: vs, k, .cons r t => by
    by_cases e : a = k
    · subst e
      exact .inr ⟨d, b, by simp [dval], by simp [valV], r⟩
    · have ne : ¬ kd a = kd k := fun z => e (inj _ _ z)
      have e1 : dval (((a, b) :: kvs).map fun p => kd p.1) (d :: vs) (kd k) = dval (kvs.map fun p => kd p.1) vs (kd k) := by simp [dval, ne]
      have e2 : valV ((a, b) :: kvs) k = valV kvs k := by simp [valV, List.find?_cons, e]
      rw [e1, e2]
      exact dval_val inj k t
/-- in its place, or at the end -/
def dputK (ks : List D) (k : D) : List D := if k ∈ ks then ks else ks ++ [k]
def dmapV : List D → List D → D → D → List D
  | k' :: ks, v' :: vs, k, v => (if k' = k then v else v') :: dmapV ks vs k v
  | _, _, _, _ => []
def dputV (ks vs : List D) (k v : D) : List D := if k ∈ ks then dmapV ks vs k v else vs ++ [v]
theorem any_mem {κ : Type} [DecidableEq κ] {kd : κ → D} (inj : ∀ a b, kd a = kd b → a = b) {kvs : List (κ × V)} {k : κ} : (kvs.any fun kv => decide (kv.1 = k)) = true ↔ kd k ∈ kvs.map fun p => kd p.1 := by
  rw [List.any_eq_true, List.mem_map]
  constructor
  · rintro ⟨p, hp, e⟩; exact ⟨p, hp, by rw [of_decide_eq_true e]⟩
  · rintro ⟨p, hp, e⟩; exact ⟨p, hp, decide_eq_true (inj _ _ e)⟩
theorem dmap_rep {κ : Type} [DecidableEq κ] {kd : κ → D} (inj : ∀ a b, kd a = kd b → a = b) {y : V} {d : D} (r : Rep K H y d) : ∀ {kvs : List (κ × V)} {vs : List D} (k : κ), RepAll K H (kvs.map (·.2)) vs →
    RepAll K H ((kvs.map (fun kv => if kv.1 = k then (kv.1, y) else kv)).map (·.2)) (dmapV (kvs.map fun p => kd p.1) vs (kd k) d)
  | [], _, k, .nil => .nil
  | (a, b) :: kvs, e :: vs, k, .cons q t => by
    rw [List.map_cons, List.map_cons, List.map_cons]
    unfold dmapV
    refine .cons ?_ (dmap_rep inj r k t)
    by_cases ha : a = k
    · rw [if_pos (show (a, b).1 = k from ha), if_pos (show kd (a, b).1 = kd k by rw [← ha])]; exact r
    · rw [if_neg (show ¬ (a, b).1 = k from ha), if_neg (fun z => ha (inj _ _ z))]; exact q
theorem dput_put {κ : Type} [DecidableEq κ] {kd : κ → D} (inj : ∀ a b, kd a = kd b → a = b) {y : V} {d : D} (r : Rep K H y d) {kvs : List (κ × V)} {vs : List D} (k : κ) (t : RepAll K H (kvs.map (·.2)) vs) :
    dputK (kvs.map fun p => kd p.1) (kd k) = ((putK kvs k y).map fun p => kd p.1) ∧ RepAll K H ((putK kvs k y).map (·.2)) (dputV (kvs.map fun p => kd p.1) vs (kd k) d) := by
  unfold dputK dputV putK
  by_cases h : (kvs.any fun kv => decide (kv.1 = k)) = true
  · have h' := (any_mem inj).mp h
    rw [if_pos h, if_pos h', if_pos h']
    refine ⟨?_, dmap_rep inj r k t⟩
    rw [List.map_map]
    apply List.map_congr_left
    intro kv _
    show kd kv.1 = kd (if kv.1 = k then (kv.1, y) else kv).1
    split <;> rfl
  · have h' := fun z => h ((any_mem inj).mpr z)
    rw [if_neg h, if_neg h', if_neg h', List.map_append, List.map_append]
    exact ⟨rfl, t.append (.one r)⟩
end
/-! ### x[i] -/
def chD (x : Str) : List D := x.cps.toList.map fun c => D.str ⟨#[c]⟩
def getD : D → D → Option D
  | .lst xs, .int i => atI xs i
  | .tup xs, .int i => atI xs i
  | .ktp xs, .int i => atI xs i
  | .str z, .int i => (atI z.cps.toList i).map fun c => .str ⟨#[c]⟩
  | .dct 0 ks vs, k => (keyOf k).bind fun _ => dval ks vs k
  | .dct 1 ks vs, k => (keyTOf k).bind fun _ => dval ks vs k
  | _, _ => none
theorem atI_rep {K : PySem.W.Frag} {H : Hp} {vs : List V} {ds : List D} {i : Int} {d : D} (r : RepAll K H vs ds) (h : atI ds i = some d) : ∃ v, atI vs i = some v ∧ Rep K H v d := by
  unfold atI at h ⊢
  rw [← r.length] at h
  obtain ⟨j, h1, h2⟩ := Option.bind_eq_some_iff.mp h
  obtain ⟨v, h3, h4⟩ := r.get' j h2
  exact ⟨v, by rw [h1]; exact h3, h4⟩
theorem atI_mem {α : Type} {xs : List α} {i : Int} {x : α} (h : atI xs i = some x) : x ∈ xs := by
  obtain ⟨j, h1, h2⟩ := Option.bind_eq_some_iff.mp h
  exact List.mem_of_getElem? h2
def rDG : R2 := fun x y H Q => ∃ a v, x = .ref a ∧ DGet H a y (some v) ∧ Q v H
def rGet (K : PySem.W.Frag) : Bool → R2
  | false => rIxA K
  | true => rDG
theorem get_view {K : PySem.W.Frag} {x y z : D} (h : getD x y = some z) : ∃ i, ∀ (w : Wd) (ρ : En) (σ : L2.St) (H : Hp) (v u : V) (Q : VK), EnvOk K w ρ σ H → View K w.hs H v x → Rep K w.hs u y → (∀ v' w' H', Fr w H w' H' → EnvOk K w' ρ σ H' → Rep K w'.hs v' z → Q v' H') → rGet K i v u H Q := by
  cases x with
  | lst xs =>
    cases y <;> try (cases h; done)
    rename_i i
    refine ⟨false, fun w ρ σ H v u Q ok rv ru k => ?_⟩
    cases ru
    cases rv with
    | lst q l t =>
      obtain ⟨v', h1, h2⟩ := atI_rep t h
      exact .inl (i_ixL q h1 (k _ w H (.refl _ _) ok h2))
  | tup xs =>
    cases y <;> try (cases h; done)
    rename_i i
    refine ⟨false, fun w ρ σ H v u Q ok rv ru k => ?_⟩
    cases ru
    cases rv with
    | tup q l t =>
      obtain ⟨v', h1, h2⟩ := atI_rep t h
      exact .inr (.inl (i_ixT (.of q) h1 (k _ w H (.refl _ _) ok h2)))
  | ktp xs =>
    cases y <;> try (cases h; done)
    rename_i i
    refine ⟨false, fun w ρ σ H v u Q ok rv ru k => ?_⟩
    cases ru
    cases rv with
    | ktp q l t =>
      obtain ⟨v', h1, h2⟩ := atI_rep t h
      exact .inr (.inl (i_ixT q h1 (k _ w H (.refl _ _) ok h2)))
  | str s =>
    cases y <;> try (cases h; done)
    rename_i i
    refine ⟨false, fun w ρ σ H v u Q ok rv ru k => ?_⟩
    cases ru
    cases rv with
    | str g =>
      obtain ⟨c, h1, h2⟩ := Option.map_eq_some_iff.mp h
      subst h2
      exact .inr (.inr ⟨s, i, c, rfl, rfl, g.1, h1, k _ w H (.refl _ _) ok (.str (g.one (atI_mem h1)))⟩)
  | dct t ks vs =>
    refine ⟨true, fun w ρ σ H v u Q ok rv ru k => ?_⟩
    cases rv with
    | @dK a kvs ks vs q e t =>
      obtain ⟨ky, h1, h2⟩ := Option.bind_eq_some_iff.mp h
      have ey := keyD_of h1
      subst ey
      subst e
      rcases dval_val (kd := keyD) (fun _ _ => keyD_inj) ky t with ⟨n, _⟩ | ⟨d, v', e1, e2, r'⟩
      · rw [n] at h2; cases h2
      · rw [e1] at h2
        cases h2
        exact ⟨a, v', rfl, .inl ⟨kvs, ky, q, rep_key ru, e2.symm⟩, k _ w H (.refl _ _) ok r'⟩
    | @dT a kvs ks vs q e t =>
      obtain ⟨ky, h1, h2⟩ := Option.bind_eq_some_iff.mp h
      have ey := keyT_of h1
      subst ey
      subst e
      obtain ⟨b, rfl, hb⟩ := rep_keyT ru
      rcases dval_val (kd := keyT) (fun _ _ => keyT_inj) ky t with ⟨n, _⟩ | ⟨d, v', e1, e2, r'⟩
      · rw [n] at h2; cases h2
      · rw [e1] at h2
        cases h2
        exact ⟨a, v', rfl, .inr ⟨kvs, ky, b, q, rfl, ok.sub.tup hb, e2.symm⟩, k _ w H (.refl _ _) ok r'⟩
  | _ => cases h
theorem ve_sub (hu : X.A.units + 1 < cLine) (ha : VE X a f) (hb : VE X b g) (hs : PlainIx b) : VE X (.Subscript a b pos) (fB getD f g) := by
  refine ve_bin (r := rGet X.K) (fun i => ?_) fun x y z h => ?_
  · cases i with
    | false => exact pe_ix (ix_anyK X.K) ha hb hs
    | true => exact pe_dget hu ha hb hs
  · obtain ⟨i, ki⟩ := get_view (K := X.K) h
    exact ⟨i, fun w ρ σ H v u Q ok rv ru k => ki w ρ σ H v u Q ok (rv.view ok.sub) ru k⟩
def hasSl (ρ : En) (i : Nat) : Bool := match ρ[i]? with
  | some (Sl.s _) => true
  | some (Sl.o _) => true
  | _ => false
theorem EnvOk.has {K : PySem.W.Frag} {w : Wd} {ρ : En} {σ : L2.St} {H : Hp} {i : Nat} (ok : EnvOk K w ρ σ H) (h : hasSl ρ i = true) : ∃ v, σ[i]? = some (some v) := by
  unfold hasSl at h
  split at h
  · rename_i d e; obtain ⟨v, hv, _⟩ := ok.sh i d e; exact ⟨v, hv⟩
  · rename_i d e; obtain ⟨v, hv, _⟩ := ok.ow i d e; exact ⟨v, hv⟩
  · cases h
/-- a slot's thing, looked at behind the other operand -/
def fBN (op : D → D → Option D) (i : Nat) (g : FE) : FE := fun ρ => if hasSl ρ i then (g ρ).bind fun p => match p.2[i]? with
  | some (Sl.s d) => (op d p.1).map fun r => (r, p.2)
  | some (Sl.o d) => if d.isBox then none else (op d p.1).map fun r => (r, p.2)
  | _ => none
  else none
theorem ve_binN {ι : Type} {r : ι → R2} {op : D → D → Option D} {i : Nat} (h : ∀ j, PE X e (tOp (r j) (tVar i) (tV X.K g)))
    (k : ∀ (x y z : D), op x y = some z → ∃ j, ∀ (w : Wd) (ρ : En) (σ : L2.St) (H : Hp) (v u : V) (Q : VK), EnvOk X.K w ρ σ H → View X.K w.hs H v x → Rep X.K w.hs u y → (∀ v' w' H', Fr w H w' H' → EnvOk X.K w' ρ σ H' → Rep X.K w'.hs v' z → Q v' H') → r j v u H Q) : VE X e (fBN op i g) := by
  refine orE h fun σ H Q q => ?_
  obtain ⟨w, ρ, z, ρ', ok, ef, kk⟩ := q
  unfold fBN at ef
  split at ef
  case isFalse => cases ef
  rename_i hsl
  have hv0 := ok.has hsl
  obtain ⟨⟨y, ρ1⟩, e1, e2⟩ := Option.bind_eq_some_iff.mp ef
  have main : ∀ x, op x y = some z → ρ1 = ρ' → (∀ w1 H1, Fr w H w1 H1 → EnvOk X.K w1 ρ1 σ H1 → ∃ v, σ[i]? = some (some v) ∧ View X.K w1.hs H1 v x) → (∃ v, σ[i]? = some (some v)) → ∃ j, tOp (r j) (tVar i) (tV X.K g) σ H Q := fun x eo er hv hv0 => by
    obtain ⟨j, kj⟩ := k x y z eo
    obtain ⟨v, hv0⟩ := hv0
    subst er
    refine ⟨j, v, hv0, w, ρ, y, ρ1, ok, e1, fun u w1 H1 f1 ok1 r1 => ?_⟩
    obtain ⟨v', hv1, vw⟩ := hv w1 H1 f1 ok1
    rw [hv0] at hv1
    cases hv1
    exact kj w1 ρ1 σ H1 v u Q ok1 vw r1 fun v' w' H' f' ok' r' => kk v' w' H' (f1.trans f') ok' r'
  split at e2
  · rename_i d ed
    obtain ⟨z2, e3, e4⟩ := Option.map_eq_some_iff.mp e2
    cases e4
    exact main d e3 rfl (fun w1 H1 f1 ok1 => by
      obtain ⟨v, h1, h2⟩ := ok1.sh i d ed
      exact ⟨v, h1, h2.view ok1.sub⟩) hv0
  · rename_i d ed
    split at e2
    · cases e2
    · rename_i nb
      obtain ⟨z2, e3, e4⟩ := Option.map_eq_some_iff.mp e2
      cases e4
      exact main d e3 rfl (fun w1 H1 f1 ok1 => by
        obtain ⟨v, h1, h2⟩ := ok1.ow i d ed
        exact ⟨v, h1, h2.view (by simpa using nb)⟩) hv0
  · cases e2
theorem ve_subN {i : Nat} {x : Str} (hu : X.A.units + 1 < cLine) (ha : PE X (.Name x p) (tVar i)) (hb : VE X b g) (hs : PlainIx b) : VE X (.Subscript (.Name x p) b pos) (fBN getD i g) := by
  refine ve_binN (r := rGet X.K) (fun i => ?_) fun x y z h => get_view (K := X.K) h
  cases i with
  | false => exact pe_ix (ix_anyK X.K) ha hb hs
  | true => exact pe_dget hu ha hb hs
end
end VS
set_option autoImplicit false
namespace VS
open PySem PySem.Spec PyProof.Rows L2 AR
/-! ### == and != of data -/
mutual
def toP : D → Option PyData
  | .non => some .none
  | .bl b => some (.bool b)
  | .int i => some (.int i)
  | .str x => some (.str x)
  | .lst xs => (toPs xs).map .list
  | .tup xs => (toPs xs).map .tuple
  | _ => none
def toPs : List D → Option (List PyData)
  | [] => some []
  | x :: xs => (toP x).bind fun p => (toPs xs).map fun ps => p :: ps
end
mutual
theorem toP_rep {K : PySem.W.Frag} {H : Hp} : ∀ {v : V} {d : D} {p : PyData}, Rep K H v d → toP d = some p → Dp K H v p ∧ p.canLay0 = true
  | _, _, _, .non, h => by simp only [toP, Option.some.injEq] at h; subst h; exact ⟨.non, by simp [PyData.canLay0]⟩
  | _, _, _, .bl b, h => by simp only [toP, Option.some.injEq] at h; subst h; exact ⟨.bl b, by simp [PyData.canLay0]⟩
  | _, _, _, .int i, h => by simp only [toP, Option.some.injEq] at h; subst h; exact ⟨.int i, by simp [PyData.canLay0]⟩
  | _, _, _, .str g, h => by simp only [toP, Option.some.injEq] at h; subst h; exact ⟨.str _, by simp [PyData.canLay0]; exact g.2⟩
  | _, _, _, .lst q l t, h => by
    simp only [toP] at h
    obtain ⟨ps, h1, h2⟩ := Option.map_eq_some_iff.mp h
    subst h2
    obtain ⟨a, b⟩ := toPs_rep t h1
    exact ⟨.lst q a, by simp [PyData.canLay0]; exact b⟩
  | _, _, _, .tup q l t, h => by
    simp only [toP] at h
    obtain ⟨ps, h1, h2⟩ := Option.map_eq_some_iff.mp h
    subst h2
    obtain ⟨a, b⟩ := toPs_rep t h1
    exact ⟨.tup (.of q) a, by simp [PyData.canLay0]; exact b⟩
  | _, _, _, .ktp .., h => by simp [toP] at h
  | _, _, _, .dK .., h => by simp [toP] at h
  | _, _, _, .dT .., h => by simp [toP] at h
  | _, _, _, .ins .., h => by simp [toP] at h
theorem toPs_rep {K : PySem.W.Frag} {H : Hp} : ∀ {vs : List V} {ds : List D} {ps : List PyData}, RepAll K H vs ds → toPs ds = some ps → DpAll K H vs ps ∧ PyData.canLayAll0 ps = true
  | _, _, _, .nil, h => by simp only [toPs, Option.some.injEq] at h; subst h; exact ⟨.nil, by simp [PyData.canLayAll0]⟩
  | _, _, _, .cons r t, h => by
    simp only [toPs] at h
    obtain ⟨p, h1, h2⟩ := Option.bind_eq_some_iff.mp h
    obtain ⟨ps, h3, h4⟩ := Option.map_eq_some_iff.mp h2
    subst h4
    obtain ⟨a1, b1⟩ := toP_rep r h1
    obtain ⟨a2, b2⟩ := toPs_rep t h3
    exact ⟨.cons a1 a2, by simp [PyData.canLayAll0, b1, b2]⟩
end
/-- of a view -/
theorem toP_view {K : PySem.W.Frag} {hs H : Hp} {v : V} {d : D} {p : PyData} (r : View K hs H v d) (s : Sub hs H) (h : toP d = some p) : Dp K H v p ∧ p.canLay0 = true := by
  cases r with
  | non => exact toP_rep (H := H) .non h
  | bl b => exact toP_rep (H := H) (.bl b) h
  | int i => exact toP_rep (H := H) (.int i) h
  | str g => exact toP_rep (H := H) (.str g) h
  | lst q l t => exact toP_rep (H := H) (.lst q l (t.mono s)) h
  | tup q l t => exact toP_rep (H := H) (.tup q l (t.mono s)) h
  | ktp => simp [toP] at h
  | dK => simp [toP] at h
  | dT => simp [toP] at h
  | ins => simp [toP] at h
def eqB (x y : D) : Option Bool := match toP x, toP y with
  | some p, some q => if p.depth ≤ 64 ∧ q.depth ≤ 64 then some (PyData.eqv p q) else none
  | _, _ => none
def eqO (x y : D) : Option D := (eqB x y).map .bl
def neO (x y : D) : Option D := (eqB x y).map fun b => .bl (!b)
theorem eqB_inv {x y : D} {b : Bool} (h : eqB x y = some b) : ∃ p q, toP x = some p ∧ toP y = some q ∧ p.depth ≤ 64 ∧ q.depth ≤ 64 ∧ b = PyData.eqv p q := by
  unfold eqB at h
  split at h
  · rename_i p q h1 h2
    split at h
    · rename_i hd; cases h; exact ⟨p, q, h1, h2, hd.1, hd.2, rfl⟩
    · cases h
  · cases h
theorem shaped_of {p : PyData} (h1 : p.canLay0 = true) (h2 : p.depth ≤ 64) : SeqAt.shaped p = true := by
  unfold SeqAt.shaped
  rw [h1, decide_eq_true h2]; rfl
section
variable {X : Cx} {a b e : Expr} {f g : FE} {pos p : Pos}
theorem kb_eq {K : PySem.W.Frag} {x y z : D} (h : eqO x y = some z) (w : Wd) (ρ : En) (σ : L2.St) (H : Hp) (v u : V) (Q : VK) (ok : EnvOk K w ρ σ H) (rv : View K w.hs H v x) (ru : View K w.hs H u y) (k : ∀ v' w' H', Fr w H w' H' → EnvOk K w' ρ σ H' → Rep K w'.hs v' z → Q v' H') : rEqD K v u H Q := by
  obtain ⟨b, h1, h2⟩ := Option.map_eq_some_iff.mp h
  subst h2
  obtain ⟨p, q, e1, e2, d1, d2, rfl⟩ := eqB_inv h1
  obtain ⟨a1, b1⟩ := toP_view rv ok.sub e1
  obtain ⟨a2, b2⟩ := toP_view ru ok.sub e2
  exact ⟨p, q, a1, a2, shaped_of b1 d1, shaped_of b2 d2, k _ w H (.refl _ _) ok (.bl _)⟩
theorem kb_ne {K : PySem.W.Frag} {x y z : D} (h : neO x y = some z) (w : Wd) (ρ : En) (σ : L2.St) (H : Hp) (v u : V) (Q : VK) (ok : EnvOk K w ρ σ H) (rv : View K w.hs H v x) (ru : View K w.hs H u y) (k : ∀ v' w' H', Fr w H w' H' → EnvOk K w' ρ σ H' → Rep K w'.hs v' z → Q v' H') : rNeD K v u H Q := by
  obtain ⟨b, h1, h2⟩ := Option.map_eq_some_iff.mp h
  subst h2
  obtain ⟨p, q, e1, e2, d1, d2, rfl⟩ := eqB_inv h1
  obtain ⟨a1, b1⟩ := toP_view rv ok.sub e1
  obtain ⟨a2, b2⟩ := toP_view ru ok.sub e2
  exact ⟨p, q, a1, a2, shaped_of b1 d1, shaped_of b2 d2, k _ w H (.refl _ _) ok (.bl _)⟩
/-- a two-place rule of views gives the three forms -/
def KV2 (K : PySem.W.Frag) {ι : Type} (r : ι → R2) (op : D → D → Option D) : Prop :=
  ∀ (x y z : D), op x y = some z → ∃ i, ∀ (w : Wd) (ρ : En) (σ : L2.St) (H : Hp) (v u : V) (Q : VK), EnvOk K w ρ σ H → View K w.hs H v x → View K w.hs H u y → (∀ v' w' H', Fr w H w' H' → EnvOk K w' ρ σ H' → Rep K w'.hs v' z → Q v' H') → r i v u H Q
theorem KV2.kb {K : PySem.W.Frag} {ι : Type} {r : ι → R2} {op : D → D → Option D} (h : KV2 K r op) : KB K r op := fun x y z e => by
  obtain ⟨i, k⟩ := h x y z e
  exact ⟨i, fun w ρ σ H v u Q ok rv ru kk => k w ρ σ H v u Q ok (rv.view ok.sub) (ru.view ok.sub) kk⟩
theorem KV2.kbp {K : PySem.W.Frag} {ι : Type} {r : ι → R2} {op : D → D → Option D} (h : KV2 K r op) : KBP K r op := fun x y z e => by
  obtain ⟨i, k⟩ := h x y z e
  exact ⟨i, fun w ρ σ H v u Q ok rv ru kk => k w ρ σ H v u Q ok (rv.view ok.sub) ru kk⟩
theorem KV2.kbn {K : PySem.W.Frag} {ι : Type} {r : ι → R2} {op : D → D → Option D} (h : KV2 K r op) : ∀ (x y z : D), op x y = some z → ∃ j, ∀ (w : Wd) (ρ : En) (σ : L2.St) (H : Hp) (v u : V) (Q : VK), EnvOk K w ρ σ H → View K w.hs H v x → Rep K w.hs u y → (∀ v' w' H', Fr w H w' H' → EnvOk K w' ρ σ H' → Rep K w'.hs v' z → Q v' H') → r j v u H Q := fun x y z e => by
  obtain ⟨i, k⟩ := h x y z e
  exact ⟨i, fun w ρ σ H v u Q ok rv ru kk => k w ρ σ H v u Q ok rv (ru.view ok.sub) kk⟩
theorem kv_eq {K : PySem.W.Frag} : KV2 K (ι := Unit) (fun _ => rEqD K) eqO := fun x y z h => ⟨(), kb_eq h⟩
theorem kv_ne {K : PySem.W.Frag} : KV2 K (ι := Unit) (fun _ => rNeD K) neO := fun x y z h => ⟨(), kb_ne h⟩
/-- .. as a test, the left one a slot -/
theorem vt_binN {ι : Type} {r : ι → R2} {op : D → D → Option D} {i : Nat} (h : ∀ j, PT X e (tTest (tOp (r j) (tVar i) (tV X.K g))))
    (k : KV2 X.K r op) : VT X e (tF blD (fBN op i g)) := by
  refine ⟨fun pins s σ H Q I q => ?_⟩
  obtain ⟨w, ρ, b, ρ', ok, ef, kk⟩ := q
  obtain ⟨⟨z, ρ3⟩, e0, e9⟩ := Option.bind_eq_some_iff.mp ef
  obtain ⟨b2, e7, e8⟩ := Option.map_eq_some_iff.mp e9
  cases e8
  unfold fBN at e0
  split at e0
  case isFalse => cases e0
  rename_i hsl
  obtain ⟨v, hv0⟩ := ok.has hsl
  obtain ⟨⟨y, ρ1⟩, e1, e2⟩ := Option.bind_eq_some_iff.mp e0
  have main : ∀ x, op x y = some z → ρ1 = ρ3 → (∀ w1 H1, Fr w H w1 H1 → EnvOk X.K w1 ρ1 σ H1 → ∃ v, σ[i]? = some (some v) ∧ View X.K w1.hs H1 v x) → wpAny (model X.prog X.w) X.A (isTrue e X.env (eval e X.env)) (TP X pins σ Q) X.xe s := fun x eo er hv => by
    obtain ⟨j, kj⟩ := k.kbn x y z eo
    subst er
    refine (h j).run pins s σ H Q I ⟨v, hv0, w, ρ, y, ρ1, ok, e1, fun u w1 H1 f1 ok1 r1 => ?_⟩
    obtain ⟨v', hv1, vw⟩ := hv w1 H1 f1 ok1
    rw [hv0] at hv1
    cases hv1
    refine kj w1 ρ1 σ H1 v u _ ok1 vw r1 fun v' w' H' f' ok' r' => ?_
    cases z <;> cases e7
    cases r'
    exact ⟨b, rfl, kk w' H' (f1.trans f') ok'⟩
  split at e2
  · rename_i d ed
    obtain ⟨z2, e3, e4⟩ := Option.map_eq_some_iff.mp e2
    cases e4
    exact main d e3 rfl (fun w1 H1 f1 ok1 => by
      obtain ⟨v, h1, h2⟩ := ok1.sh i d ed
      exact ⟨v, h1, h2.view ok1.sub⟩)
  · rename_i d ed
    split at e2
    · cases e2
    · rename_i nb
      obtain ⟨z2, e3, e4⟩ := Option.map_eq_some_iff.mp e2
      cases e4
      exact main d e3 rfl (fun w1 H1 f1 ok1 => by
        obtain ⟨v, h1, h2⟩ := ok1.ow i d ed
        exact ⟨v, h1, h2.view (by simpa using nb)⟩)
  · cases e2
/-- the forms of a comparison: both values, the right one a look, the left one a slot; as a value, as a test -/
structure CmpV (X : Cx) (op : CmpOp) {ι : Type} (r : ι → R2) (o : D → D → Option D) : Prop where
  rule : ∀ i, OpR X (compareOp op) (r i)
  kv : KV2 X.K r o
variable {op : CmpOp} {ι : Type} {r : ι → R2} {o : D → D → Option D} {i : Nat}
theorem CmpV.ve (c : CmpV X op r o) (ha : VE X a f) (hb : VE X b g) (hm : behindInMarks op b = false) : VE X (.Compare a [op] [b] pos) (fB o f g) := ve_bin (fun i => pe_cmpR (c.rule i) ha hb hm) c.kv.kb
theorem CmpV.vep (c : CmpV X op r o) (ha : VE X a f) (hb : VP X b g) (hm : behindInMarks op b = false) : VE X (.Compare a [op] [b] pos) (fB o f g) := ve_binP (fun i => pe_cmpR (c.rule i) ha hb hm) c.kv.kbp
theorem CmpV.ven (c : CmpV X op r o) (ha : PE X a (tVar i)) (hb : VE X b g) (hm : behindInMarks op b = false) : VE X (.Compare a [op] [b] pos) (fBN o i g) := ve_binN (fun i => pe_cmpR (c.rule i) ha hb hm) c.kv.kbn
theorem CmpV.vt (c : CmpV X op r o) (ha : VE X a f) (hb : VE X b g) (hm : behindInMarks op b = false) : VT X (.Compare a [op] [b] pos) (tF blD (fB o f g)) := vt_bin (fun i => pt_cmpR (c.rule i) ha hb hm) c.kv.kb
theorem CmpV.vtp (c : CmpV X op r o) (ha : VE X a f) (hb : VP X b g) (hm : behindInMarks op b = false) : VT X (.Compare a [op] [b] pos) (tF blD (fB o f g)) := vt_binP (fun i => pt_cmpR (c.rule i) ha hb hm) c.kv.kbp
theorem CmpV.vtn (c : CmpV X op r o) (ha : PE X a (tVar i)) (hb : VE X b g) (hm : behindInMarks op b = false) : VT X (.Compare a [op] [b] pos) (tF blD (fBN o i g)) := vt_binN (fun i => pt_cmpR (c.rule i) ha hb hm) c.kv
theorem c_eq (hu : X.A.units + 64 < cLine) : CmpV X .Eq (ι := Unit) (fun _ => rEqD X.K) eqO := ⟨fun _ => op_eqD hu, kv_eq⟩
theorem c_ne (hu : X.A.units + 64 < cLine) : CmpV X .NotEq (ι := Unit) (fun _ => rNeD X.K) neO := ⟨fun _ => op_neD hu, kv_ne⟩
/-! ### order -/
def ltO : D → D → Option D
  | .int i, .int j => some (.bl (decide (i < j)))
  | .str x, .str y => some (.bl (decide (x.cps.toList < y.cps.toList)))
  | _, _ => none
def leO : D → D → Option D
  | .int i, .int j => some (.bl (decide (i ≤ j)))
  | .str x, .str y => some (.bl (!decide (y.cps.toList < x.cps.toList)))
  | _, _ => none
def gtO : D → D → Option D
  | .int i, .int j => some (.bl (decide (j < i)))
  | .str x, .str y => some (.bl (decide (y.cps.toList < x.cps.toList)))
  | _, _ => none
def geO : D → D → Option D
  | .int i, .int j => some (.bl (decide (j ≤ i)))
  | .str x, .str y => some (.bl (!decide (x.cps.toList < y.cps.toList)))
  | _, _ => none
def rOrd (p : Int → Int → Bool) (q : List Nat → List Nat → Bool) : Bool → R2
  | false => rI0 fun i j => .bl (p i j)
  | true => fun x y H Q => ∃ i j, x = .str i ∧ y = .str j ∧ Q (.bl (q i.cps.toList j.cps.toList)) H
theorem kv_ord {K : PySem.W.Frag} {p : Int → Int → Bool} {q : List Nat → List Nat → Bool} {o : D → D → Option D} (h1 : ∀ i j, o (.int i) (.int j) = some (.bl (p i j))) (h2 : ∀ i j : Str, o (.str i) (.str j) = some (.bl (q i.cps.toList j.cps.toList)))
    (h3 : ∀ x y z, o x y = some z → (∃ i j, x = .int i ∧ y = .int j) ∨ ∃ i j, x = .str i ∧ y = .str j) : KV2 K (rOrd p q) o := fun x y z h => by
  rcases h3 x y z h with ⟨i, j, rfl, rfl⟩ | ⟨i, j, rfl, rfl⟩
  · rw [h1] at h
    cases h
    refine ⟨false, fun w ρ σ H v u Q ok rv ru k => ?_⟩
    cases rv
    cases ru
    exact ⟨i, j, rfl, rfl, k _ w H (.refl _ _) ok (.bl _)⟩
  · rw [h2] at h
    cases h
    refine ⟨true, fun w ρ σ H v u Q ok rv ru k => ?_⟩
    cases rv
    cases ru
    exact ⟨i, j, rfl, rfl, k _ w H (.refl _ _) ok (.bl _)⟩
theorem ord_inv {o : D → D → Option D} (ho : ∀ x y z, o x y = some z → (∃ i, x = .int i) ∨ ∃ i, x = .str i) : True := trivial
theorem c_lt : CmpV X .Lt (rOrd (fun i j => decide (i < j)) (fun i j => decide (i < j))) ltO :=
  ⟨fun i => by cases i; exact op_lt; exact op_lt_str, kv_ord (fun _ _ => rfl) (fun _ _ => rfl) fun x y z h => by cases x <;> cases y <;> cases h; exact .inl ⟨_, _, rfl, rfl⟩; exact .inr ⟨_, _, rfl, rfl⟩⟩
theorem c_le : CmpV X .LtE (rOrd (fun i j => decide (i ≤ j)) (fun i j => !decide (j < i))) leO :=
  ⟨fun i => by cases i; exact op_le; exact op_le_str, kv_ord (fun _ _ => rfl) (fun _ _ => rfl) fun x y z h => by cases x <;> cases y <;> cases h; exact .inl ⟨_, _, rfl, rfl⟩; exact .inr ⟨_, _, rfl, rfl⟩⟩
theorem c_gt : CmpV X .Gt (rOrd (fun i j => decide (j < i)) (fun i j => decide (j < i))) gtO :=
  ⟨fun i => by cases i; exact op_gt; exact op_gt_str, kv_ord (fun _ _ => rfl) (fun _ _ => rfl) fun x y z h => by cases x <;> cases y <;> cases h; exact .inl ⟨_, _, rfl, rfl⟩; exact .inr ⟨_, _, rfl, rfl⟩⟩
theorem c_ge : CmpV X .GtE (rOrd (fun i j => decide (j ≤ i)) (fun i j => !decide (i < j))) geO :=
  ⟨fun i => by cases i; exact op_ge; exact op_ge_str, kv_ord (fun _ _ => rfl) (fun _ _ => rfl) fun x y z h => by cases x <;> cases y <;> cases h; exact .inl ⟨_, _, rfl, rfl⟩; exact .inr ⟨_, _, rfl, rfl⟩⟩
/-! ### is None -/
def isNO (x y : D) : Option D := if y = .non then some (.bl (decide (x = .non))) else none
def notNO (x y : D) : Option D := if y = .non then some (.bl (!decide (x = .non))) else none
theorem view_non {K : PySem.W.Frag} {hs H : Hp} {v : V} {d : D} (r : View K hs H v d) : decide (v = .non) = decide (d = .non) := by cases r <;> rfl
theorem c_isN : CmpV X .Is (ι := Unit) (fun _ x y H Q => y = .non ∧ Q (.bl (decide (x = .non))) H) isNO := ⟨fun _ => op_isN, fun x y z h => ⟨(), fun w ρ σ H v u Q ok rv ru k => by
  unfold isNO at h
  split at h
  · rename_i hy
    subst hy
    cases h
    cases ru
    exact ⟨rfl, by rw [view_non rv]; exact k _ w H (.refl _ _) ok (.bl _)⟩
  · cases h⟩⟩
theorem c_notN : CmpV X .IsNot (ι := Unit) (fun _ x y H Q => y = .non ∧ Q (.bl (!decide (x = .non))) H) notNO := ⟨fun _ => op_notN, fun x y z h => ⟨(), fun w ρ σ H v u Q ok rv ru k => by
  unfold notNO at h
  split at h
  · rename_i hy
    subst hy
    cases h
    cases ru
    exact ⟨rfl, by rw [view_non rv]; exact k _ w H (.refl _ _) ok (.bl _)⟩
  · cases h⟩⟩
end
end VS
set_option autoImplicit false
namespace VS
open PySem PySem.Spec PyProof.Rows L2 AR
/-! ### in -/
def flatD : D → Bool
  | .non => true
  | .bl _ => true
  | .int _ => true
  | .str _ => true
  | _ => false
def eqF : D → D → Bool
  | .non, .non => true
  | .bl a, .bl b => a == b
  | .bl a, .int b => (if a then 1 else 0) == b
  | .int a, .bl b => a == (if b then 1 else 0)
  | .int a, .int b => a == b
  | .str a, .str b => a == b
  | _, _ => false
def inB (x y : D) : Option Bool := match y with
  | .lst ys => (toP x).bind fun p => (toPs ys).bind fun ps => if p.depth ≤ 64 ∧ (PyData.list ps).depth ≤ 64 then some (ps.any fun z => PyData.eqv z p) else none
  | .tup ys => if flatD x && ys.all flatD then some (ys.any fun z => eqF z x) else none
  | .ktp ys => if flatD x && ys.all flatD then some (ys.any fun z => eqF z x) else none
  | .str z => match x with
    | .str t => some (match t.cps.toList with
      | [c] => decide (c ∈ z.cps.toList)
      | _ => !(Builtin.Str.occurrences z t 0 z.length 1).isEmpty)
    | _ => none
  | .dct 0 ks _ => (keyOf x).map fun _ => decide (x ∈ ks)
  | .dct 1 ks _ => (keyTOf x).map fun _ => decide (x ∈ ks)
  | _ => none
def inO (x y : D) : Option D := (inB x y).map .bl
def notInO (x y : D) : Option D := (inB x y).map fun b => .bl (!b)
theorem flat_rep {K : PySem.W.Frag} {H : Hp} {v : V} {d : D} (r : Rep K H v d) (h : flatD d = true) : flatV v = true := by cases r <;> first | rfl | cases h
theorem flat_view {K : PySem.W.Frag} {hs H : Hp} {v : V} {d : D} (r : View K hs H v d) (h : flatD d = true) : flatV v = true := by cases r <;> first | rfl | cases h
theorem flat_all {K : PySem.W.Frag} {H : Hp} : ∀ {vs : List V} {ds : List D}, RepAll K H vs ds → ds.all flatD = true → vs.all flatV = true
  | _, _, .nil, _ => rfl
  | _, _, .cons r t, h => by
    rw [List.all_cons, Bool.and_eq_true] at h ⊢
    exact ⟨flat_rep r h.1, flat_all t h.2⟩
theorem eqF_V {K : PySem.W.Frag} {H hs H' : Hp} {v u : V} {x y : D} (r : Rep K H v x) (q : View K hs H' u y) (h1 : flatD x = true) (h2 : flatD y = true) : eqV v u = eqF x y := by
  cases r <;> first | (cases h1; done) | (cases q <;> first | (cases h2; done) | rfl)
theorem any_eqF {K : PySem.W.Frag} {H hs H' : Hp} {u : V} {y : D} (q : View K hs H' u y) (h2 : flatD y = true) : ∀ {vs : List V} {ds : List D}, RepAll K H vs ds → ds.all flatD = true → (vs.any fun z => eqV z u) = ds.any fun z => eqF z y
  | _, _, .nil, _ => rfl
  | _, _, .cons r t, h => by
    rw [List.all_cons, Bool.and_eq_true] at h
    rw [List.any_cons, List.any_cons, eqF_V r q h.1 h2, any_eqF q h2 t h.2]
section
variable {X : Cx} {a b e : Expr} {f g : FE} {pos p : Pos}
/-- in, by cases -/
inductive InK where
  | deep | flat | sign | text | dict
def rInK (K : PySem.W.Frag) (neg : Bool) : InK → R2
  | .deep => if neg then rNotInD K else rInD K
  | .flat => rIn K neg
  | .sign => fun x y H Q => ∃ (c : Nat) (z : Str), x = .str ⟨#[c]⟩ ∧ y = .str z ∧ Q (.bl (if neg then !decide (c ∈ z.cps.toList) else decide (c ∈ z.cps.toList))) H
  | .text => fun x y H Q => ∃ i j, x = .str i ∧ y = .str j ∧ Q (.bl (if neg then !(!(Builtin.Str.occurrences j i 0 j.length 1).isEmpty) else !(Builtin.Str.occurrences j i 0 j.length 1).isEmpty)) H
  | .dict => fun x y H Q => ∃ a o, y = .ref a ∧ DGet H a x o ∧ Q (.bl (if neg then !o.isSome else o.isSome)) H
theorem op_inDict (hu : X.A.units + 1 < cLine) : OpR X (compareOp .In) (rInK X.K false .dict) := by
  intro pins s σ H x y v u Q I rx ry h
  obtain ⟨a, o, rfl, g, q⟩ := h
  cases ry
  exact d_in hu I g rx fun s' I' => ⟨.bl _, H, I', rfl, q⟩
theorem op_notInDict (hu : X.A.units + 1 < cLine) : OpR X (compareOp .NotIn) (rInK X.K true .dict) := by
  intro pins s σ H x y v u Q I rx ry h
  obtain ⟨a, o, rfl, g, q⟩ := h
  cases ry
  exact d_notIn hu I g rx fun s' I' => ⟨.bl _, H, I', rfl, q⟩
theorem dval_mem {ks vs : List D} {k : D} (hl : ks.length = vs.length) : (dval ks vs k).isSome = decide (k ∈ ks) := by
  induction ks generalizing vs with
  | nil => simp [dval]
  | cons a ks ih =>
    cases vs with
    | nil => cases hl
    | cons b vs =>
      unfold dval
      by_cases e : a = k
      · subst e; simp
      · rw [if_neg e, ih (by simpa using hl)]
        have : ¬ k = a := fun z => e z.symm
        simp [this]
theorem sole {t : Str} {c : Nat} (h : t.cps.toList = [c]) : t = ⟨#[c]⟩ := by
  have : t.cps = #[c] := by
    apply Array.toList_inj.mp
    rw [h]
  rw [← this]
theorem in_view {K : PySem.W.Frag} (neg : Bool) {x y : D} {b : Bool} (h : inB x y = some b) : ∃ i, ∀ (w : Wd) (ρ : En) (σ : L2.St) (H : Hp) (v u : V) (Q : VK), EnvOk K w ρ σ H → View K w.hs H v x → View K w.hs H u y → Q (.bl (if neg then !b else b)) H → rInK K neg i v u H Q := by
  cases y with
  | lst ys =>
    obtain ⟨p, e1, e2⟩ := Option.bind_eq_some_iff.mp h
    obtain ⟨ps, e3, e4⟩ := Option.bind_eq_some_iff.mp e2
    split at e4
    · rename_i hd
      cases e4
      refine ⟨.deep, fun w ρ σ H v u Q ok rv ru k => ?_⟩
      obtain ⟨a1, b1⟩ := toP_view rv ok.sub e1
      obtain ⟨a2, b2⟩ := toP_view (p := .list ps) ru ok.sub (by simp [toP, e3])
      cases neg with
      | true => exact ⟨p, ps, a1, a2, shaped_of b1 hd.1, shaped_of b2 hd.2, k⟩
      | false => exact ⟨p, ps, a1, a2, shaped_of b1 hd.1, shaped_of b2 hd.2, k⟩
    · cases e4
  | tup ys =>
    have h' : (if flatD x && ys.all flatD then some (ys.any fun z => eqF z x) else none) = some b := h
    split at h'
    · rename_i hf
      rw [Bool.and_eq_true] at hf
      cases h'
      refine ⟨.flat, fun w ρ σ H v u Q ok rv ru k => ?_⟩
      cases ru with
      | tup q l t => exact ⟨_, _, rfl, .inr (.of q), flat_view rv hf.1, flat_all t hf.2, by unfold inV; rw [any_eqF rv hf.1 t hf.2]; exact k⟩
    · cases h'
  | ktp ys =>
    have h' : (if flatD x && ys.all flatD then some (ys.any fun z => eqF z x) else none) = some b := h
    split at h'
    · rename_i hf
      rw [Bool.and_eq_true] at hf
      cases h'
      refine ⟨.flat, fun w ρ σ H v u Q ok rv ru k => ?_⟩
      cases ru with
      | ktp q l t => exact ⟨_, _, rfl, .inr q, flat_view rv hf.1, flat_all t hf.2, by unfold inV; rw [any_eqF rv hf.1 t hf.2]; exact k⟩
    · cases h'
  | str z =>
    cases x <;> try (cases h; done)
    rename_i t
    have h' : (match t.cps.toList with
      | [c] => decide (c ∈ z.cps.toList)
      | _ => !(Builtin.Str.occurrences z t 0 z.length 1).isEmpty) = b := Option.some.inj h
    split at h'
    · rename_i c hc
      refine ⟨.sign, fun w ρ σ H v u Q ok rv ru k => ?_⟩
      cases rv
      cases ru
      subst h'
      exact ⟨c, z, by rw [sole hc], rfl, k⟩
    · refine ⟨.text, fun w ρ σ H v u Q ok rv ru k => ?_⟩
      cases rv
      cases ru
      subst h'
      exact ⟨t, z, rfl, rfl, k⟩
  | dct t ks vs =>
    refine ⟨.dict, fun w ρ σ H v u Q ok rv ru k => ?_⟩
    cases ru with
    | @dK a kvs ks vs q e t =>
      obtain ⟨ky, h1, h2⟩ := Option.map_eq_some_iff.mp h
      have ey := keyD_of h1
      subst ey
      have hv : v = kV ky := by cases ky <;> cases rv <;> rfl
      refine ⟨a, valV kvs ky, rfl, .inl ⟨kvs, ky, q, hv, rfl⟩, ?_⟩
      have : (valV kvs ky).isSome = b := by
        rw [← h2, e]
        rw [← dval_mem (vs := vs) (by rw [List.length_map, ← t.length, List.length_map])]
        rcases dval_val (kd := keyD) (fun _ _ => keyD_inj) ky t with ⟨n1, n2⟩ | ⟨d, v', e1, e2, r'⟩
        · rw [n1, n2]; rfl
        · rw [e1, e2]; rfl
      rw [this]; exact k
    | @dT a kvs ks vs q e t =>
      obtain ⟨ky, h1, h2⟩ := Option.map_eq_some_iff.mp h
      have ey := keyT_of h1
      subst ey
      have hv : ∃ b, v = .ref b ∧ H b = some (.tup (ky.map kV)) := by
        unfold keyT at rv
        cases rv with
        | tup q l t => rw [rep_keys t] at q; exact ⟨_, rfl, q⟩
      obtain ⟨b', rfl, hb⟩ := hv
      refine ⟨a, valV kvs ky, rfl, .inr ⟨kvs, ky, b', q, rfl, hb, rfl⟩, ?_⟩
      have : (valV kvs ky).isSome = b := by
        rw [← h2, e]
        rw [← dval_mem (vs := vs) (by rw [List.length_map, ← t.length, List.length_map])]
        rcases dval_val (kd := keyT) (fun _ _ => keyT_inj) ky t with ⟨n1, n2⟩ | ⟨d, v', e1, e2, r'⟩
        · rw [n1, n2]; rfl
        · rw [e1, e2]; rfl
      rw [this]; exact k
  | _ => cases h
theorem c_in (hu : X.A.units + 65 < cLine) : CmpV X .In (rInK X.K false) inO :=
  ⟨fun i => match i with
    | .deep => op_inD hu
    | .flat => op_in_seq
    | .sign => op_in_sign
    | .text => op_in_str
    | .dict => op_inDict (by omega), fun x y z h => by
    obtain ⟨b, h1, h2⟩ := Option.map_eq_some_iff.mp h
    subst h2
    obtain ⟨i, k⟩ := in_view (K := X.K) false h1
    exact ⟨i, fun w ρ σ H v u Q ok rv ru kk => k w ρ σ H v u Q ok rv ru (kk _ w H (.refl _ _) ok (.bl _))⟩⟩
theorem c_notIn (hu : X.A.units + 65 < cLine) : CmpV X .NotIn (rInK X.K true) notInO :=
  ⟨fun i => match i with
    | .deep => op_notInD hu
    | .flat => op_notIn_seq
    | .sign => op_notIn_sign
    | .text => op_notin_str
    | .dict => op_notInDict (by omega), fun x y z h => by
    obtain ⟨b, h1, h2⟩ := Option.map_eq_some_iff.mp h
    subst h2
    obtain ⟨i, k⟩ := in_view (K := X.K) true h1
    exact ⟨i, fun w ρ σ H v u Q ok rv ru kk => k w ρ σ H v u Q ok rv ru (kk _ w H (.refl _ _) ok (.bl _))⟩⟩
/-! ### + - * // % -/
/-- list + list, wherever they stand -/
def rCatS (K : PySem.W.Frag) : R2 := fun x y H Q => ∃ l b xs zs, x = .ref l ∧ y = .ref b ∧ SqL K H l xs ∧ SqL K H b zs ∧ xs.length + zs.length ≤ sizeLine ∧ ∀ p, H p = none → Q (.ref p) (upd H p (.lst (xs ++ zs)))
theorem op_catS : OpR X (binaryOp .Add) (rCatS X.K) := by
  intro pins s σ H x y v u Q I rx ry h
  obtain ⟨l, b, xs, zs, rfl, rfl, hH, hB, hz, q⟩ := h
  cases rx
  cases ry
  obtain ⟨its, r, pl, _⟩ := I.list hH
  obtain ⟨its2, r2, pl2, _⟩ := I.list hB
  obtain ⟨⟨cls, dd, data, sl⟩, n, ho, hc, _, hd⟩ := pl
  obtain ⟨⟨cls2, dd2, data2, sl2⟩, n2, ho2, hc2, _, hd2⟩ := pl2
  simp only at hc hd hc2 hd2
  subst hc hd hc2 hd2
  have e : its.toArray ++ its2.toArray = (its ++ its2).toArray := by simp
  have h1 := r.length
  have h2 := r2.length
  refine concat_meets ⟨_, ho, rfl⟩ ⟨_, ho2, rfl⟩ noFill_list_add seq_list_add PySem.F.slot_list_add PySem.F.entry_list_add (PySem.F.args_list_add_2 _ _) (list_addW l b its.toArray its2.toArray n n2 dd dd2 sl sl2 (by simp; omega)) ⟨ho, ho2, ?_⟩
  rw [e]
  exact ⟨.ref _, _, I.lnew (t' := s.toks) (r.append r2) (by rw [List.length_append]; omega), rfl, q _ I.fresh⟩
def addO : D → D → Option D
  | .int i, .int j => some (.int (i + j))
  | .str x, .str y => if x.length + y.length ≤ sizeLine then some (.str (x ++ y)) else none
  | .tup xs, .tup ys => if xs.length + ys.length ≤ sizeLine then some (.tup (xs ++ ys)) else none
  | _, _ => none
def rAddK (K : PySem.W.Frag) : Fin 3 → R2
  | 0 => rI0 fun i j => .int (i + j)
  | 1 => fun x y H Q => ∃ i j, x = .str i ∧ y = .str j ∧ i.length + j.length ≤ sizeLine ∧ Q (.str (i ++ j)) H
  | 2 => rCatA K
theorem kv_add {K : PySem.W.Frag} : KB K (rAddK K) addO := fun x y z h => by
  cases x with
  | int i =>
    cases y <;> cases h
    exact ⟨0, fun w ρ σ H v u Q ok rv ru k => by cases rv; cases ru; exact ⟨_, _, rfl, rfl, k _ w H (.refl _ _) ok (.int _)⟩⟩
  | str s =>
    cases y <;> try (cases h; done)
    rename_i t
    have h' : (if s.length + t.length ≤ sizeLine then some (D.str (s ++ t)) else none) = some z := h
    split at h'
    · rename_i hl
      cases h'
      exact ⟨1, fun w ρ σ H v u Q ok rv ru k => by
        cases rv with
        | str g1 =>
          cases ru with
          | str g2 => exact ⟨_, _, rfl, rfl, hl, k _ w H (.refl _ _) ok (.str (g1.app g2 hl))⟩⟩
    · cases h'
  | tup xs =>
    cases y <;> try (cases h; done)
    rename_i ys
    have h' : (if xs.length + ys.length ≤ sizeLine then some (D.tup (xs ++ ys)) else none) = some z := h
    split at h'
    · rename_i hl
      cases h'
      exact ⟨2, fun w ρ σ H v u Q ok rv ru k => by
        cases rv with
        | @tup a vs _ q1 l1 t1 =>
          cases ru with
          | @tup b us _ q2 l2 t2 =>
            have e1 := t1.length
            have e2 := t2.length
            refine ⟨a, b, vs, us, rfl, rfl, .of (ok.sub.tup q1), .of (ok.sub.tup q2), by omega, fun hn => ?_, fun hn hn2 => ?_, fun hn hn2 => ?_⟩
            · subst hn
              cases t1
              exact k _ w H (.refl _ _) ok (.tup q2 l2 t2)
            · subst hn2
              cases t2
              rw [List.append_nil] at k
              exact k _ w H (.refl _ _) ok (.tup q1 l1 t1)
            · exact new_tup ok (t1.append t2) (by rw [List.length_append]; omega) k⟩
    · cases h'
  | _ => cases h
theorem ve_add (ha : VE X a f) (hb : VE X b g) : VE X (.BinOp a .Add b pos) (fB addO f g) := ve_bin (r := rAddK X.K) (fun i => match i with
  | 0 => pe_op op_add ha hb
  | 1 => pe_op op_add_str ha hb
  | 2 => pe_op op_catA ha hb) kv_add
/-- list + list -/
def catO : D → D → Option D
  | .lst xs, .lst ys => mkL (xs ++ ys)
  | _, _ => none
theorem vn_cat (ha : VE X a f) (hb : VE X b g) : VN X (.BinOp a .Add b pos) (fB catO f g) := by
  refine weakE (pe_op (r := rCatS X.K) op_catS ha hb) fun σ H Q q => ?_
  obtain ⟨w, ρ, z, ρ', ok, ef, kk⟩ := q
  obtain ⟨⟨x, ρ1⟩, e1, e2⟩ := Option.bind_eq_some_iff.mp ef
  obtain ⟨⟨y, ρ2⟩, e3, e4⟩ := Option.bind_eq_some_iff.mp e2
  obtain ⟨z2, e5, e6⟩ := Option.map_eq_some_iff.mp e4
  cases e6
  refine ⟨w, ρ, x, ρ1, ok, e1, fun v w1 H1 f1 ok1 r1 => ⟨w1, ρ1, y, ρ2, ok1, e3, fun u w2 H2 f2 ok2 r2 => ?_⟩⟩
  cases r1 with
  | lst q1 l1 t1 =>
    cases r2 with
    | lst q2 l2 t2 =>
      have t1' := t1.mono (.of f2.sh)
      have e5' : mkL _ = some z := e5
      unfold mkL at e5'
      split at e5'
      · rename_i hl
        cases e5'
        have x1 := t1.length
        have x2 := t2.length
        rw [List.length_append] at hl
        refine ⟨_, _, _, _, rfl, rfl, ok2.sub.sqL ((Sub.of f2.sh).sqL q1), ok2.sub.sqL q2, by omega, new_lst ok2 (t1'.append t2) (by rw [List.length_append]; omega) fun v' w' H' f' ok' r' => ?_⟩
        exact kk v' w' H' (f1.trans (f2.trans f')) ok' ((r'.old f2).old f1)
      · cases e5'
    | _ => cases e5
  | _ => cases e5
theorem cat_nb : ∀ ρ d ρ', fB catO f g ρ = some (d, ρ') → d.isBox = false := fun ρ d ρ' h => by
  obtain ⟨⟨x, ρ1⟩, e1, e2⟩ := Option.bind_eq_some_iff.mp h
  obtain ⟨⟨y, ρ2⟩, e3, e4⟩ := Option.bind_eq_some_iff.mp e2
  obtain ⟨z2, e5, e6⟩ := Option.map_eq_some_iff.mp e4
  cases e6
  cases x <;> try (cases e5; done)
  cases y <;> try (cases e5; done)
  have e5' : mkL _ = some d := e5
  unfold mkL at e5'
  split at e5' <;> cases e5'
  rfl
theorem ve_cat (ha : VE X a f) (hb : VE X b g) : VE X (.BinOp a .Add b pos) (fB catO f g) := VN.ve (vn_cat ha hb) cat_nb
def subO : D → D → Option D
  | .int i, .int j => some (.int (i - j))
  | _, _ => none
def mulO : D → D → Option D
  | .int i, .int j => if (-(2 ^ 64) < i ∧ i < 2 ^ 64) ∨ (-(2 ^ 64) < j ∧ j < 2 ^ 64) then some (.int (i * j)) else none
  | _, _ => none
def modO : D → D → Option D
  | .int i, .int j => if 0 < j then some (.int (i % j)) else none
  | _, _ => none
def fdivO : D → D → Option D
  | .int i, .int j => if 0 < j ∧ j < 1073741824 then some (.int (i / j)) else none
  | _, _ => none
theorem ve_subI (ha : VE X a f) (hb : VE X b g) : VE X (.BinOp a .Sub b pos) (fB subO f g) := ve_bin (ι := Unit) (r := fun _ => rI0 fun i j => .int (i - j)) (fun _ => pe_op op_sub ha hb) fun x y z h => by
  cases x <;> try (cases h; done)
  cases y <;> try (cases h; done)
  cases h
  exact ⟨(), fun w ρ σ H v u Q ok rv ru k => by cases rv; cases ru; exact ⟨_, _, rfl, rfl, k _ w H (.refl _ _) ok (.int _)⟩⟩
theorem ve_mul (ha : VE X a f) (hb : VE X b g) : VE X (.BinOp a .Mult b pos) (fB mulO f g) := ve_bin (ι := Unit) (r := fun _ => rI CMul fun i j => .int (i * j)) (fun _ => pe_op op_mul ha hb) fun x y z h => by
  cases x <;> try (cases h; done)
  cases y <;> try (cases h; done)
  rename_i i j
  have h' : (if (-(2 ^ 64) < i ∧ i < 2 ^ 64) ∨ (-(2 ^ 64) < j ∧ j < 2 ^ 64) then some (D.int (i * j)) else none) = some z := h
  split at h'
  · rename_i hc
    cases h'
    exact ⟨(), fun w ρ σ H v u Q ok rv ru k => by cases rv; cases ru; exact ⟨_, _, rfl, rfl, hc, k _ w H (.refl _ _) ok (.int _)⟩⟩
  · cases h'
theorem ve_mod (ha : VE X a f) (hb : VE X b g) : VE X (.BinOp a .Mod b pos) (fB modO f g) := ve_bin (ι := Unit) (r := fun _ => rI (fun _ j => 0 < j) fun i j => .int (i % j)) (fun _ => pe_op op_mod ha hb) fun x y z h => by
  cases x <;> try (cases h; done)
  cases y <;> try (cases h; done)
  rename_i i j
  have h' : (if 0 < j then some (D.int (i % j)) else none) = some z := h
  split at h'
  · rename_i hc
    cases h'
    exact ⟨(), fun w ρ σ H v u Q ok rv ru k => by cases rv; cases ru; exact ⟨_, _, rfl, rfl, hc, k _ w H (.refl _ _) ok (.int _)⟩⟩
  · cases h'
theorem ve_fdiv (ha : VE X a f) (hb : VE X b g) : VE X (.BinOp a .FloorDiv b pos) (fB fdivO f g) := ve_bin (ι := Unit) (r := fun _ => rI CDiv fun i j => .int (i / j)) (fun _ => pe_op op_fdiv ha hb) fun x y z h => by
  cases x <;> try (cases h; done)
  cases y <;> try (cases h; done)
  rename_i i j
  have h' : (if 0 < j ∧ j < 1073741824 then some (D.int (i / j)) else none) = some z := h
  split at h'
  · rename_i hc
    cases h'
    exact ⟨(), fun w ρ σ H v u Q ok rv ru k => by cases rv; cases ru; exact ⟨_, _, rfl, rfl, hc, k _ w H (.refl _ _) ok (.int _)⟩⟩
  · cases h'
end
end VS
set_option autoImplicit false
namespace VS
open PySem PySem.Spec PyProof.Rows L2 AR
section
variable {X : Cx} {a b e tg : Expr} {f g : FE} {pos p : Pos}
/-! ### what is walked -/
def itD : D → Option (List D)
  | .lst xs => some xs
  | .tup xs => some xs
  | .ktp xs => some xs
  | .str x => some (chD x)
  | _ => none
def iS (f : FE) : FI := fun ρ => (f ρ).bind fun p => (itD p.1).map fun ds => (ds, p.2)
theorem orI {ι : Type} {t : ι → TI} {t' : TI} (h : ∀ i, PI X tg e (t i)) (k : ∀ σ H R, t' σ H R → ∃ i, t i σ H R) : PI X tg e t' := ⟨fun pins s σ H R I q => by
  obtain ⟨i, q'⟩ := k σ H R q
  exact (h i).run pins s σ H R I q'⟩
theorem chD_rep {K : PySem.W.Frag} {H : Hp} {x : Str} (g : SG x) : RepAll K H (chV x) (chD x) := by
  unfold chV chD
  have : ∀ l : List Nat, (∀ c ∈ l, c ∈ x.cps.toList) → RepAll K H (l.map fun c => V.str ⟨#[c]⟩) (l.map fun c => D.str ⟨#[c]⟩) := fun l => by
    induction l with
    | nil => intro _; exact .nil
    | cons c l ih => intro h; exact .cons (.str (g.one (h c List.mem_cons_self))) (ih fun d hd => h d (List.mem_cons_of_mem _ hd))
  exact this _ fun c hc => hc
theorem ity_at {K : PySem.W.Frag} {J : It} {w : Wd} {xs : List V} {ds : List D} {G : Hp → Prop} (wk : Walk J xs.length G (YAt xs)) (hG : ∀ H, Sub w.hs H → G H) (r : RepAll K w.hs xs ds) : Ity K J w ds := by
  refine ⟨G, YAt xs, by rw [← r.length]; exact wk, hG, fun i H x H' d y hd => .inl ⟨y.1, ?_⟩⟩
  obtain ⟨d', h1, h2⟩ := r.get i y.2
  rw [hd] at h1; cases h1; exact h2
theorem vi_seq (h : VE X e f) : VI X tg e (iS f) := by
  refine orI (ι := Fin 3) (t := fun i => if i = 0 then iList X.K (tV X.K f) else if i = 1 then iTup X.K (tV X.K f) else iStr (tV X.K f)) (fun i => ?_) fun σ H R q => ?_
  · match i with
    | 0 => exact pi_list h
    | 1 => exact pi_tup h
    | 2 => exact pi_str h
  · obtain ⟨w, ρ, ds, ρ', ok, ef, k⟩ := q
    obtain ⟨⟨d, ρ1⟩, e1, e2⟩ := Option.bind_eq_some_iff.mp ef
    obtain ⟨ds', e3, e4⟩ := Option.map_eq_some_iff.mp e2
    cases e4
    cases d with
    | lst xs =>
      cases e3
      refine ⟨0, w, ρ, _, _, ok, e1, fun v w1 H1 f1 ok1 r1 => ?_⟩
      cases r1 with
      | @lst a vs _ q l t => exact ⟨a, rfl, ⟨_, ok1.sub.sqL q⟩, k _ w1 H1 f1 ok1 (ity_at (walk_list (xs := vs)) (fun H' s => s.sqL q) t)⟩
    | tup xs =>
      cases e3
      refine ⟨1, w, ρ, _, _, ok, e1, fun v w1 H1 f1 ok1 r1 => ?_⟩
      cases r1 with
      | @tup a vs _ q l t => exact ⟨a, rfl, ⟨_, .of (ok1.sub.tup q)⟩, k _ w1 H1 f1 ok1 (ity_at (walk_tup (xs := vs)) (fun H' s => .of (s.tup q)) t)⟩
    | ktp xs =>
      cases e3
      refine ⟨1, w, ρ, _, _, ok, e1, fun v w1 H1 f1 ok1 r1 => ?_⟩
      cases r1 with
      | @ktp a vs _ q l t => exact ⟨a, rfl, ⟨_, ok1.sub.sqT q⟩, k _ w1 H1 f1 ok1 (ity_at (walk_tup (xs := vs)) (fun H' s => s.sqT q) t)⟩
    | str x =>
      cases e3
      refine ⟨2, w, ρ, _, _, ok, e1, fun v w1 H1 f1 ok1 r1 => ?_⟩
      cases r1 with
      | str g =>
        have hr : RepAll X.K w1.hs (chV x) (chD x) := chD_rep g
        refine ⟨x, rfl, k _ w1 H1 f1 ok1 ⟨fun _ => True, fun i H v H' => H' = H ∧ ∃ c, x.cps[i]? = some c ∧ v = .str ⟨#[c]⟩, ?_, fun _ _ => trivial, fun i H x' H' d y hd => ?_⟩⟩
        · have : (chD x).length = x.cps.size := by unfold chD; rw [List.length_map]; simp
          rw [this]; exact walk_str
        · obtain ⟨rfl, c, hc, rfl⟩ := y
          refine .inl ⟨rfl, ?_⟩
          have : (chV x)[i]? = some (.str ⟨#[c]⟩) := by
            unfold chV
            rw [List.getElem?_map, Array.getElem?_toList, hc]; rfl
          obtain ⟨d', h1, h2⟩ := hr.get i this
          rw [hd] at h1; cases h1; exact h2
    | _ => cases e3
/-- range -/
def rngD (lo hi : Int) : List D := (List.range (hi - lo).toNat).map fun i => D.int (lo + (i : Nat))
def iR1 (a : FA) : FI := fun ρ => (a ρ).bind fun p => match p.1 with
  | [.int j] => if -(2 ^ 62) ≤ j ∧ j < 2 ^ 62 then some (rngD 0 j, p.2) else none
  | _ => none
def iR2 (a : FA) : FI := fun ρ => (a ρ).bind fun p => match p.1 with
  | [.int i, .int j] => if -(2 ^ 62) ≤ i ∧ i < 2 ^ 62 ∧ -(2 ^ 62) ≤ j ∧ j < 2 ^ 62 then some (rngD i j, p.2) else none
  | _ => none
theorem ity_rng {K : PySem.W.Frag} {w : Wd} {lo hi : Int} : Ity K (Itr lo (hi - lo).toNat) w (rngD lo hi) := by
  have hl : (rngD lo hi).length = (hi - lo).toNat := by unfold rngD; simp
  refine ⟨fun _ => True, YFn fun i => .int (lo + i), by rw [hl]; exact walk_range, fun _ _ => trivial, fun i H x H' d y hd => .inl ⟨y.1, ?_⟩⟩
  rw [y.2]
  unfold rngD at hd
  rw [List.getElem?_map] at hd
  obtain ⟨j, h1, h2⟩ := Option.map_eq_some_iff.mp hd
  rw [← h2]
  obtain ⟨h3, h4⟩ := List.getElem?_eq_some_iff.mp h1
  rw [List.getElem_range] at h4
  subst h4
  exact .int _
variable {ga : FA} {es : List Expr}
theorem vi_rng1 (hg : Gl X "range") (hm : X.mg "range" = none) (ha : VA X [a] ga) (hs : starEach [a] X.env = [(false, eval a X.env)] := by rfl) : VI X tg (.Call (.Name "range" p) [a] [] pos) (iR1 ga) := by
  refine orI (ι := Unit) (fun _ => pi_range1 hg hm ha hs) fun σ H R q => ⟨(), ?_⟩
  obtain ⟨w, ρ, ds, ρ', ok, ef, k⟩ := q
  obtain ⟨⟨as, ρ1⟩, e1, e2⟩ := Option.bind_eq_some_iff.mp ef
  refine ⟨w, ρ, as, ρ1, ok, e1, fun vs w1 H1 f1 ok1 r1 => ?_⟩
  split at e2
  · rename_i j ej
    split at e2
    · rename_i hj
      cases e2
      cases (show as = [.int j] from ej)
      cases r1 with
      | cons r t =>
        cases r
        cases t
        have hk := k _ w1 H1 f1 ok1 (ity_rng (lo := 0) (hi := j))
        rw [Int.sub_zero] at hk
        exact ⟨j, rfl, hj.1, hj.2, hk⟩
    · cases e2
  · cases e2
theorem vi_rng2 (hg : Gl X "range") (hm : X.mg "range" = none) (ha : VA X [a, b] ga) (hs : starEach [a, b] X.env = [(false, eval a X.env), (false, eval b X.env)] := by rfl) (hs2 : starEach [b] X.env = [(false, eval b X.env)] := by rfl) : VI X tg (.Call (.Name "range" p) [a, b] [] pos) (iR2 ga) := by
  refine orI (ι := Unit) (fun _ => pi_range2 hg hm ha hs hs2) fun σ H R q => ⟨(), ?_⟩
  obtain ⟨w, ρ, ds, ρ', ok, ef, k⟩ := q
  obtain ⟨⟨as, ρ1⟩, e1, e2⟩ := Option.bind_eq_some_iff.mp ef
  refine ⟨w, ρ, as, ρ1, ok, e1, fun vs w1 H1 f1 ok1 r1 => ?_⟩
  split at e2
  · rename_i i j ej
    split at e2
    · rename_i hj
      cases e2
      cases (show as = [.int i, .int j] from ej)
      cases r1 with
      | cons r t =>
        cases r
        cases t with
        | cons r t =>
          cases r
          cases t
          exact ⟨i, j, rfl, hj, k _ w1 H1 f1 ok1 (ity_rng (lo := i) (hi := j))⟩
    · cases e2
  · cases e2
/-! ### zip, enumerate -/
theorem src_of {K : PySem.W.Frag} {hs : Hp} {v : V} {d : D} {ds : List D} (r : Rep K hs v d) (h : itD d = some ds) : ∃ (s : Src) (xs : List V), v = s.v ∧ (∀ H, Sub hs H → s.has K H xs) ∧ RepAll K hs xs ds := by
  cases r with
  | @lst a xs _ q l t => cases h; exact ⟨.lst a, xs, rfl, fun H s => s.sqL q, t⟩
  | @tup a xs _ q l t => cases h; exact ⟨.tup a, xs, rfl, fun H s => .of (s.tup q), t⟩
  | @ktp a xs _ q l t => cases h; exact ⟨.tup a, xs, rfl, fun H s => s.sqT q, t⟩
  | @str x g => cases h; exact ⟨.txt x, chV x, rfl, fun H s => rfl, chD_rep g⟩
  | _ => cases h
def zipD (xs ys : List D) : List D := List.zipWith (fun x y => D.tup [x, y]) xs ys
def iZp (a : FA) : FI := fun ρ => (a ρ).bind fun p => match p.1 with
  | [x, y] => (itD x).bind fun xs => (itD y).map fun ys => (zipD xs ys, p.2)
  | _ => none
theorem zipD_get {xs ys : List D} {i : Nat} {d : D} (h : (zipD xs ys)[i]? = some d) : ∃ x y, xs[i]? = some x ∧ ys[i]? = some y ∧ d = .tup [x, y] := by
  unfold zipD at h
  rw [List.getElem?_zipWith] at h
  split at h
  · rename_i x y h1 h2; cases h; exact ⟨x, y, h1, h2, rfl⟩
  · cases h
theorem vi_zip {elts : List Expr} {kk : Nat} {tpos : Pos} (hg : Gl X "zip") (hm : X.mg "zip" = none) (ha : VA X [a, b] ga) (hs : starEach [a, b] X.env = (false, eval a X.env) :: starEach [b] X.env := by rfl) (hpl : (backTo pos (starEach [b] X.env)).any (·.1) = false := by rfl) :
    VI X (.Tuple elts kk tpos) (.Call (.Name "zip" p) [a, b] [] pos) (iZp ga) := by
  refine orI (ι := Unit) (fun _ => pi_Z hg hm ha hs hpl) fun σ H R q => ⟨(), ?_⟩
  obtain ⟨w, ρ, ds, ρ', ok, ef, k⟩ := q
  obtain ⟨⟨as, ρ1⟩, e1, e2⟩ := Option.bind_eq_some_iff.mp ef
  refine ⟨w, ρ, as, ρ1, ok, e1, fun vs w1 H1 f1 ok1 r1 => ?_⟩
  split at e2
  · rename_i x y ej
    cases (show as = [x, y] from ej)
    obtain ⟨xs, e3, e4⟩ := Option.bind_eq_some_iff.mp e2
    obtain ⟨ys, e5, e6⟩ := Option.map_eq_some_iff.mp e4
    cases e6
    cases r1 with
    | cons rx t =>
      cases t with
      | cons ry t =>
        cases t
        obtain ⟨s1, us, rfl, h1, t1⟩ := src_of rx e3
        obtain ⟨s2, ws, rfl, h2, t2⟩ := src_of ry e5
        refine ⟨s1, s2, us, ws, rfl, h1 _ ok1.sub, h2 _ ok1.sub, k _ w1 H1 f1 ok1 ⟨fun H => s1.has X.K H us ∧ s2.has X.K H ws, YPair (fun i => us[i]?) (fun i => ws[i]?), ?_, fun H s => ⟨h1 H s, h2 H s⟩, fun i H x' H' d y hd => .inr ?_⟩⟩
        · have : (zipD xs ys).length = min us.length ws.length := by unfold zipD; rw [List.length_zipWith, t1.length, t2.length]
          rw [this]; exact walk_Z
        · obtain ⟨T, u, v, rfl, hT, rfl, hu, hv⟩ := y
          obtain ⟨d1, d2, g1, g2, rfl⟩ := zipD_get hd
          obtain ⟨d1', g3, r3⟩ := t1.get i hu
          obtain ⟨d2', g4, r4⟩ := t2.get i hv
          rw [g1] at g3; cases g3
          rw [g2] at g4; cases g4
          exact ⟨T, [u, v], [d1, d2], rfl, hT, rfl, by show 2 ≤ sizeLine; decide, .cons r3 (.cons r4 .nil), rfl⟩
  · cases e2
def enuD (xs : List D) : List D := (List.range xs.length).zipWith (fun i x => D.tup [.int (i : Nat), x]) xs
def iEn (f : FE) : FI := fun ρ => (f ρ).bind fun p => match p.1 with
  | .lst xs => some (enuD xs, p.2)
  | .str x => some (enuD (chD x), p.2)
  | _ => none
theorem enuD_length (xs : List D) : (enuD xs).length = xs.length := by unfold enuD; simp
theorem enuD_get {xs : List D} {i : Nat} {d : D} (h : (enuD xs)[i]? = some d) : ∃ x, xs[i]? = some x ∧ d = .tup [.int (i : Nat), x] := by
  unfold enuD at h
  rw [List.getElem?_zipWith] at h
  split at h
  · rename_i j x h1 h2
    cases h
    obtain ⟨h3, h4⟩ := List.getElem?_eq_some_iff.mp h1
    rw [List.getElem_range] at h4
    subst h4
    exact ⟨x, h2, rfl⟩
  · cases h
theorem vi_enu {elts : List Expr} {kk : Nat} {tpos : Pos} (hg : Gl X "enumerate") (hm : X.mg "enumerate" = none) (h : VE X a f) (hs : starEach [a] X.env = [(false, eval a X.env)] := by rfl) (hs' : starEach [a] X.env = (false, eval a X.env) :: starEach [] X.env := by rfl) :
    VI X (.Tuple elts kk tpos) (.Call (.Name "enumerate" p) [a] [] pos) (iEn f) := by
  refine orI (ι := Bool) (t := fun i => if i then iEnumT X.K (tCons (tV X.K f) tNil) else iEnum X.K (tCons (tV X.K f) tNil)) (fun i => ?_) fun σ H R q => ?_
  · cases i with
    | true => exact pi_enumT X.K hg hm (pa_cons h pa_nil hs') rfl hs
    | false => exact pi_enum hg hm (pa_cons h pa_nil hs') hs
  · obtain ⟨w, ρ, ds, ρ', ok, ef, k⟩ := q
    obtain ⟨⟨d, ρ1⟩, e1, e2⟩ := Option.bind_eq_some_iff.mp ef
    cases d with
    | lst xs =>
      cases e2
      refine ⟨false, w, ρ, _, _, ok, e1, fun v w1 H1 f1 ok1 r1 => ?_⟩
      cases r1 with
      | @lst a vs _ q l t =>
        refine ⟨a, vs, rfl, ok1.sub.sqL q, k _ w1 H1 f1 ok1 ⟨fun H => SqL X.K H a vs, YPair (fun i => some (.int (i : Nat))) (fun i => vs[i]?), ?_, fun H s => s.sqL q, fun i H x' H' d y hd => .inr ?_⟩⟩
        · rw [enuD_length, ← t.length]; exact walk_enum
        · obtain ⟨T, u, v, rfl, hT, rfl, hu, hv⟩ := y
          obtain ⟨d2, g2, rfl⟩ := enuD_get hd
          obtain ⟨d2', g4, r4⟩ := t.get i hv
          rw [g2] at g4; cases g4
          cases hu
          exact ⟨T, _, _, rfl, hT, rfl, by show 2 ≤ sizeLine; decide, .cons (.int _) (.cons r4 .nil), rfl⟩
    | str x =>
      cases e2
      refine ⟨true, w, ρ, _, _, ok, e1, fun v w1 H1 f1 ok1 r1 => ?_⟩
      cases r1 with
      | str g =>
        have t : RepAll X.K w1.hs (chV x) (chD x) := chD_rep g
        refine ⟨x, rfl, k _ w1 H1 f1 ok1 ⟨fun H => (Src.txt x).has X.K H (chV x), YEnum (chV x), ?_, fun H s => rfl, fun i H x' H' d y hd => .inr ?_⟩⟩
        · rw [enuD_length, ← t.length]; exact walk_E
        · obtain ⟨T, v, rfl, hT, rfl, hv⟩ := y
          obtain ⟨d2, g2, rfl⟩ := enuD_get hd
          obtain ⟨d2', g4, r4⟩ := t.get i hv
          rw [g2] at g4; cases g4
          exact ⟨T, _, _, rfl, hT, rfl, by show 2 ≤ sizeLine; decide, .cons (.int _) (.cons r4 .nil), rfl⟩
    | _ => cases e2
end
end VS
set_option autoImplicit false
namespace VS
open PySem PySem.Spec PyProof.Rows L2 AR
section
variable {X : Cx} {a b e : Expr} {f g : FE} {pos p apos : Pos} {ga : FA} {es : List Expr}
/-! ### calls of one shared thing -/
/-- T(a) or f(a) by values, the answer shared -/
theorem ve_call1 {r : List V → Hp → VK → Prop} {op : D → Option D} (h : PE X e (tCB r (tCons (tV X.K f) tNil)))
    (k : ∀ (w : Wd) (ρ : En) (σ : L2.St) (H : Hp) (v : V) (d d' : D) (Q : VK), EnvOk X.K w ρ σ H → Rep X.K w.hs v d → op d = some d' → (∀ v' w' H', Fr w H w' H' → EnvOk X.K w' ρ σ H' → Rep X.K w'.hs v' d' → Q v' H') → r [v] H Q) : VE X e (fU op f) :=
  ve_un (r := fun x H Q => r [x] H Q) h k
/-- .. the answer new -/
theorem vn_un {ι : Type} {r : ι → V → Hp → VK → Prop} {op : D → Option D} (h : ∀ i, PE X e (fun σ H Q => tV X.K f σ H fun x H1 => r i x H1 Q))
    (k : ∀ (d d' : D), op d = some d' → ∃ i, ∀ (w : Wd) (ρ : En) (σ : L2.St) (H : Hp) (v : V) (Q : VK), EnvOk X.K w ρ σ H → Rep X.K w.hs v d → (∀ v' w' H', Fr w H w' H' → EnvOk X.K w' ρ σ H' → Fresh X.K w' H H' v' d' → Q v' H') → r i v H Q) : VN X e (fU op f) := by
  refine orE h fun σ H Q q => ?_
  obtain ⟨w, ρ, d', ρ', ok, ef, kk⟩ := q
  obtain ⟨⟨d, ρ1⟩, e1, e2⟩ := Option.bind_eq_some_iff.mp ef
  obtain ⟨d2, e3, e4⟩ := Option.map_eq_some_iff.mp e2
  cases e4
  obtain ⟨i, ki⟩ := k d d' e3
  refine ⟨i, w, ρ, d, ρ1, ok, e1, fun v w1 H1 f1 ok1 r1 => ?_⟩
  exact ki w1 ρ1 σ H1 v Q ok1 r1 fun v' w' H' f' ok' r' => kk v' w' H' (f1.trans f') ok' (r'.old f1)
def tupO : D → Option D
  | .lst ds => some (.tup ds)
  | .tup ds => some (.tup ds)
  | _ => none
theorem ve_tuple (hg : Gl X "tuple") (hb : X.mg "tuple" = none) (h : VE X a f) (he : starEach [a] X.env = (false, eval a X.env) :: starEach [] X.env := by rfl) : VE X (.Call (.Name "tuple" p) [a] [] pos) (fU tupO f) := by
  refine ve_call1 (pe_callTy (call_tupK X.K) hg hb (by decide +kernel) (pa_cons h pa_nil he) (he := he)) fun w ρ σ H v d d' Q ok r ed k => ?_
  cases r with
  | lst q l t => cases ed; exact ⟨_, _, rfl, .inl ⟨ok.sub.sqL q, new_tup ok t l k⟩⟩
  | tup q l t => cases ed; exact ⟨_, _, rfl, .inr ⟨.of (ok.sub.tup q), k _ w H (.refl _ _) ok (.tup q l t)⟩⟩
  | _ => cases ed
def lstO : D → Option D
  | .lst ds => some (.lst ds)
  | .tup ds => some (.lst ds)
  | .ktp ds => some (.lst ds)
  | .str x => some (.lst (chD x))
  | _ => none
theorem vn_listOf (hc : X.calm = true) (hg : Gl X "list") (hb : X.mg "list" = none) (h : VE X a f) (he : starEach [a] X.env = (false, eval a X.env) :: starEach [] X.env := by rfl) : VN X (.Call (.Name "list" p) [a] [] pos) (fU lstO f) := by
  refine vn_un (ι := Bool) (r := fun i x H Q => if i then rListT [x] H Q else rListQ X.K [x] H Q) (fun i => ?_) fun d d' ed => ?_
  · cases i with
    | true => exact pe_callTy (call_listT hc) hg hb (by decide +kernel) (pa_cons h pa_nil he) (he := he)
    | false => exact pe_callTy (call_listK X.K) hg hb (by decide +kernel) (pa_cons h pa_nil he) (he := he)
  · cases d with
    | lst xs => cases ed; exact ⟨false, fun w ρ σ H v Q ok r k => by cases r with | lst q l t => exact ⟨_, _, rfl, .inl (ok.sub.sqL q), new_lst ok t l k⟩⟩
    | tup xs => cases ed; exact ⟨false, fun w ρ σ H v Q ok r k => by cases r with | tup q l t => exact ⟨_, _, rfl, .inr (.of (ok.sub.tup q)), new_lst ok t l k⟩⟩
    | ktp xs => cases ed; exact ⟨false, fun w ρ σ H v Q ok r k => by cases r with | ktp q l t => exact ⟨_, _, rfl, .inr (ok.sub.sqT q), new_lst ok t l k⟩⟩
    | str x => cases ed; exact ⟨true, fun w ρ σ H v Q ok r k => by
        cases r with
        | str g => exact ⟨x, rfl, g.1, new_lst ok (chD_rep g) (by unfold chV; rw [List.length_map]; exact g.1) k⟩⟩
    | _ => cases ed
theorem lstO_nb : ∀ ρ d ρ', fU lstO f ρ = some (d, ρ') → d.isBox = false := fun ρ d ρ' h => by
  obtain ⟨⟨d, ρ1⟩, e1, e2⟩ := Option.bind_eq_some_iff.mp h
  obtain ⟨d2, e3, e4⟩ := Option.map_eq_some_iff.mp e2
  cases e4
  cases d <;> cases e3 <;> rfl
theorem ve_listOf (hc : X.calm = true) (hg : Gl X "list") (hb : X.mg "list" = none) (h : VE X a f) (he : starEach [a] X.env = (false, eval a X.env) :: starEach [] X.env := by rfl) : VE X (.Call (.Name "list" p) [a] [] pos) (fU lstO f) := VN.ve (vn_listOf hc hg hb h he) lstO_nb
/-! ### all, any, sum -/
def blsOf : List D → Option (List Bool)
  | [] => some []
  | .bl b :: ds => (blsOf ds).map fun bs => b :: bs
  | _ => none
def intsOf : List D → Option (List Int)
  | [] => some []
  | .int b :: ds => (intsOf ds).map fun bs => b :: bs
  | _ => none
theorem bls_rep {K : PySem.W.Frag} {H : Hp} : ∀ {vs : List V} {ds : List D} {bs : List Bool}, RepAll K H vs ds → blsOf ds = some bs → vs = bs.map V.bl
  | _, _, _, .nil, h => by cases h; rfl
  | _, _, _, .cons r t, h => by
    cases r with
    | bl b =>
      obtain ⟨r, h1, h2⟩ := Option.map_eq_some_iff.mp h
      subst h2
      rw [bls_rep t h1]; rfl
    | _ => cases h
theorem ints_rep {K : PySem.W.Frag} {H : Hp} : ∀ {vs : List V} {ds : List D} {bs : List Int}, RepAll K H vs ds → intsOf ds = some bs → vs = bs.map V.int
  | _, _, _, .nil, h => by cases h; rfl
  | _, _, _, .cons r t, h => by
    cases r with
    | int b =>
      obtain ⟨r, h1, h2⟩ := Option.map_eq_some_iff.mp h
      subst h2
      rw [ints_rep t h1]; rfl
    | _ => cases h
def allO : D → Option D
  | .lst ds => (blsOf ds).map fun bs => .bl (bs.all id)
  | _ => none
def anyO : D → Option D
  | .lst ds => (blsOf ds).map fun bs => .bl (bs.any id)
  | _ => none
def sumO : D → Option D
  | .lst ds => (intsOf ds).map fun bs => .int bs.sum
  | _ => none
theorem ve_all (hc : X.calm = true) (hg : Gl X "all") (hb : X.mg "all" = none) (h : VE X a f) (he : starEach [a] X.env = (false, eval a X.env) :: starEach [] X.env := by rfl) : VE X (.Call (.Name "all" p) [a] [] pos) (fU allO f) := by
  refine ve_call1 (pe_callB (cr_all hc) hg hb (by decide +kernel) (pa_cons h pa_nil he) (he := he)) fun w ρ σ H v d d' Q ok r ed k => ?_
  cases r with
  | lst q l t =>
    obtain ⟨bs, h1, h2⟩ := Option.map_eq_some_iff.mp ed
    subst h2
    rw [bls_rep t h1] at q
    exact ⟨_, bs, rfl, ok.sub.sqL q, k _ w H (.refl _ _) ok (.bl _)⟩
  | _ => cases ed
theorem ve_any (hc : X.calm = true) (hg : Gl X "any") (hb : X.mg "any" = none) (h : VE X a f) (he : starEach [a] X.env = (false, eval a X.env) :: starEach [] X.env := by rfl) : VE X (.Call (.Name "any" p) [a] [] pos) (fU anyO f) := by
  refine ve_call1 (pe_callB (cr_any hc) hg hb (by decide +kernel) (pa_cons h pa_nil he) (he := he)) fun w ρ σ H v d d' Q ok r ed k => ?_
  cases r with
  | lst q l t =>
    obtain ⟨bs, h1, h2⟩ := Option.map_eq_some_iff.mp ed
    subst h2
    rw [bls_rep t h1] at q
    exact ⟨_, bs, rfl, ok.sub.sqL q, k _ w H (.refl _ _) ok (.bl _)⟩
  | _ => cases ed
theorem ve_sum (hc : X.calm = true) (hg : Gl X "sum") (hb : X.mg "sum" = none) (h : VE X a f) (he : starEach [a] X.env = (false, eval a X.env) :: starEach [] X.env := by rfl) : VE X (.Call (.Name "sum" p) [a] [] pos) (fU sumO f) := by
  refine ve_call1 (pe_callB (cr_sum hc) hg hb (by decide +kernel) (pa_cons h pa_nil he) (he := he)) fun w ρ σ H v d d' Q ok r ed k => ?_
  cases r with
  | lst q l t =>
    obtain ⟨bs, h1, h2⟩ := Option.map_eq_some_iff.mp ed
    subst h2
    rw [ints_rep t h1] at q
    exact ⟨_, bs, rfl, ok.sub.sqL q, k _ w H (.refl _ _) ok (.int _)⟩
  | _ => cases ed
/-! ### int, abs, max, min -/
def intO : D → Option D
  | .int i => some (.int i)
  | .bl b => some (.int (if b then 1 else 0))
  | _ => none
def absO : D → Option D
  | .int i => some (.int (if i < 0 then -i else i))
  | _ => none
def maxO : D → D → Option D
  | .int i, .int j => some (.int (if j > i then j else i))
  | _, _ => none
def minO : D → D → Option D
  | .int i, .int j => some (.int (if j < i then j else i))
  | _, _ => none
theorem ve_intOf (hg : Gl X "int") (hb : X.mg "int" = none) (h : VE X a f) (he : starEach [a] X.env = (false, eval a X.env) :: starEach [] X.env := by rfl) : VE X (.Call (.Name "int" p) [a] [] pos) (fU intO f) := by
  refine ve_call1 (pe_callTy call_int1 hg hb (by decide +kernel) (pa_cons h pa_nil he) (he := he)) fun w ρ σ H v d d' Q ok r ed k => ?_
  cases r with
  | int i => cases ed; exact .inl ⟨_, rfl, k _ w H (.refl _ _) ok (.int _)⟩
  | bl b => cases ed; exact .inr ⟨_, rfl, k _ w H (.refl _ _) ok (.int _)⟩
  | _ => cases ed
theorem ve_abs (hg : Gl X "abs") (hb : X.mg "abs" = none) (h : VE X a f) (he : starEach [a] X.env = (false, eval a X.env) :: starEach [] X.env := by rfl) : VE X (.Call (.Name "abs" p) [a] [] pos) (fU absO f) := by
  refine ve_call1 (pe_callB call_abs hg hb (by decide +kernel) (pa_cons h pa_nil he) (he := he)) fun w ρ σ H v d d' Q ok r ed k => ?_
  cases r with
  | int i => cases ed; exact ⟨_, rfl, k _ w H (.refl _ _) ok (.int _)⟩
  | _ => cases ed
theorem ve_max2 (hc : X.calm = true) (hg : Gl X "max") (hb : X.mg "max" = none) (h : VE X a f) (h2 : VE X b g) (he : starEach [a, b] X.env = (false, eval a X.env) :: starEach [b] X.env := by rfl) (he2 : starEach [b] X.env = (false, eval b X.env) :: starEach [] X.env := by rfl) (hpl : (backTo pos (starEach [b] X.env)).any (·.1) = false := by rfl) : VE X (.Call (.Name "max" p) [a, b] [] pos) (fB maxO f g) := by
  refine ve_bin (ι := Unit) (r := fun _ x y H Q => ∃ i j, [x, y] = [V.int i, V.int j] ∧ Q (.int (if j > i then j else i)) H) (fun _ => pe_callB (call_max2 hc) hg hb (by decide +kernel) (pa_cons h (pa_cons h2 pa_nil he2) he) (he := he) (hpl := hpl)) fun x y z ed => ⟨(), fun w ρ σ H v u Q ok rv ru k => ?_⟩
  cases x <;> try (cases ed; done)
  cases y <;> try (cases ed; done)
  cases ed
  cases rv
  cases ru
  exact ⟨_, _, rfl, k _ w H (.refl _ _) ok (.int _)⟩
theorem ve_min2 (hc : X.calm = true) (hg : Gl X "min") (hb : X.mg "min" = none) (h : VE X a f) (h2 : VE X b g) (he : starEach [a, b] X.env = (false, eval a X.env) :: starEach [b] X.env := by rfl) (he2 : starEach [b] X.env = (false, eval b X.env) :: starEach [] X.env := by rfl) (hpl : (backTo pos (starEach [b] X.env)).any (·.1) = false := by rfl) : VE X (.Call (.Name "min" p) [a, b] [] pos) (fB minO f g) := by
  refine ve_bin (ι := Unit) (r := fun _ x y H Q => ∃ i j, [x, y] = [V.int i, V.int j] ∧ Q (.int (if j < i then j else i)) H) (fun _ => pe_callB (call_min2 hc) hg hb (by decide +kernel) (pa_cons h (pa_cons h2 pa_nil he2) he) (he := he) (hpl := hpl)) fun x y z ed => ⟨(), fun w ρ σ H v u Q ok rv ru k => ?_⟩
  cases x <;> try (cases ed; done)
  cases y <;> try (cases ed; done)
  cases ed
  cases rv
  cases ru
  exact ⟨_, _, rfl, k _ w H (.refl _ _) ok (.int _)⟩
/-! ### isinstance of built-in classes -/
def tyN : D → Option String
  | .non => some "NoneType"
  | .bl _ => some "bool"
  | .int _ => some "int"
  | .str _ => some "str"
  | .lst _ => some "list"
  | .tup _ => some "tuple"
  | .ktp _ => some "tuple"
  | _ => none
theorem ty_view {K : PySem.W.Frag} {hs H : Hp} {v : V} {d : D} {T : String} (r : View K hs H v d) (h : tyN d = some T) : TyX K H v (.type T) := by
  cases r with
  | non => cases h; exact .base .non
  | bl b => cases h; exact .base (.bl b)
  | int i => cases h; exact .base (.int i)
  | str g => cases h; exact .base (.str _)
  | lst q l t =>
    cases h
    rcases q with (q | ⟨o, q⟩) | ⟨o, its, n, hk, hc, _⟩
    · exact .base (.lst q)
    · exact .base (.frz q)
    · exact .kList hk hc
  | tup q l t => cases h; exact .base (.tup q)
  | ktp q l t =>
    cases h
    rcases q with (q | ⟨o, q⟩) | ⟨o, its, n, hk, hc, _⟩
    · exact .base (.tup q)
    · exact .fTuple q
    · exact .kTuple hk hc
  | _ => cases h
def isO (T : String) (d : D) : Option D := (tyN d).bind fun t => (kitB t T).map .bl
theorem ve_isT {T : Str} {Ts : String} {p2 : Pos} (hT : bootBuiltins T = some (.type Ts)) (hg : Gl X "isinstance") (hb : X.mg "isinstance" = none) (h : VP X a f) (hgT : Gl X T) (hbT : X.mg T = none) (hn : T ≠ "__name__") (hd : (T == ("__debug__" : Str)) = false)
    (he : starEach [a, .Name T p2] X.env = (false, eval a X.env) :: starEach [.Name T p2] X.env := by rfl) (he2 : starEach [.Name T p2] X.env = (false, eval (.Name T p2) X.env) :: starEach [] X.env := by rfl) (hpl : (backTo pos (starEach [.Name T p2] X.env)).any (·.1) = false := by rfl) :
    VE X (.Call (.Name "isinstance" p) [a, .Name T p2] [] pos) (fU (isO Ts) f) := by
  refine ve_unP (ι := Unit) (r := fun _ x H Q => rIsi X.K [x, .ty Ts] H Q) (fun _ => pe_callB call_isi hg hb (by decide +kernel) (pa_cons h (pa_cons (pe_bltn (v := .ty Ts) hgT hbT hT rfl hn hd) pa_nil he2) he) (he := he) (hpl := hpl)) fun d d' ed => ⟨(), fun w ρ σ H v Q ok r k => ?_⟩
  obtain ⟨t, h1, h2⟩ := Option.bind_eq_some_iff.mp ed
  obtain ⟨b, h3, h4⟩ := Option.map_eq_some_iff.mp h2
  subst h4
  exact ⟨_, _, _, _, b, rfl, .ty _, ty_view r h1, kit_ty h3, k _ w H (.refl _ _) ok (.bl _)⟩
/-- of two built-in classes -/
def isO2 (T U : String) (d : D) : Option D := (tyN d).bind fun t => (kitB t T).bind fun b => if b then some (.bl true) else (kitB t U).map .bl
theorem ve_isT2 {T U : Str} {Ts Us : String} {p2 p3 p4 : Pos} {kk} (hT : bootBuiltins T = some (.type Ts)) (hU : bootBuiltins U = some (.type Us)) (hg : Gl X "isinstance") (hb : X.mg "isinstance" = none) (h : VP X a f) (hgT : Gl X T) (hbT : X.mg T = none) (hn : T ≠ "__name__") (hd : (T == ("__debug__" : Str)) = false)
    (hgU : Gl X U) (hbU : X.mg U = none) (hnU : U ≠ "__name__") (hdU : (U == ("__debug__" : Str)) = false)
    (he : starEach [a, .Tuple [.Name T p2, .Name U p3] kk p4] X.env = (false, eval a X.env) :: starEach [.Tuple [.Name T p2, .Name U p3] kk p4] X.env := by rfl) (he2 : starEach [.Tuple [.Name T p2, .Name U p3] kk p4] X.env = (false, eval (.Tuple [.Name T p2, .Name U p3] kk p4) X.env) :: starEach [] X.env := by rfl)
    (hpl : (backTo pos (starEach [.Tuple [.Name T p2, .Name U p3] kk p4] X.env)).any (·.1) = false := by rfl)
    (he3 : starEach [.Name T p2, .Name U p3] X.env = (false, eval (.Name T p2) X.env) :: starEach [.Name U p3] X.env := by rfl) (he4 : starEach [.Name U p3] X.env = (false, eval (.Name U p3) X.env) :: starEach [] X.env := by rfl) :
    VE X (.Call (.Name "isinstance" p) [a, .Tuple [.Name T p2, .Name U p3] kk p4] [] pos) (fU (isO2 Ts Us) f) := by
  refine ve_unP (ι := Unit) (r := fun _ x H Q => [V.ty Ts, V.ty Us].length ≤ sizeLine ∧ ∀ p, H p = none → rIsiT X.K [x, .ref p] (upd H p (.tup [V.ty Ts, V.ty Us])) Q)
    (fun _ => pe_callB call_isiT hg hb (by decide +kernel) (pa_cons h (pa_cons (pe_tup (pa_cons (pe_bltn (v := .ty Ts) hgT hbT hT rfl hn hd) (pa_cons (pe_bltn (v := .ty Us) hgU hbU hU rfl hnU hdU) pa_nil he4) he3)) pa_nil he2) he) (he := he) (hpl := hpl)) fun d d' ed => ⟨(), fun w ρ σ H v Q ok r k => ⟨by show 2 ≤ sizeLine; decide, fun q hq => ?_⟩⟩
  obtain ⟨t, h1, h2⟩ := Option.bind_eq_some_iff.mp ed
  obtain ⟨b, h3, h4⟩ := Option.bind_eq_some_iff.mp h2
  obtain ⟨f1, ok1, _⟩ := ok.new (o := .tup [V.ty Ts, V.ty Us]) hq
  have ty : TyX X.K (upd H q (.tup [V.ty Ts, V.ty Us])) v (.type t) := by
    have old : ∀ a o, H a = some o → upd H q (.tup [V.ty Ts, V.ty Us]) a = some o := fun a o z => by rw [upd_ne (ne_of_none z hq)]; exact z
    cases ty_view r h1 with
    | base b =>
      cases b with
      | non => exact .base .non
      | bl b => exact .base (.bl b)
      | int b => exact .base (.int b)
      | str b => exact .base (.str b)
      | flt b => exact .base (.flt b)
      | lst e => exact .base (.lst (old _ _ e))
      | frz e => exact .base (.frz (old _ _ e))
      | tup e => exact .base (.tup (old _ _ e))
      | dK e => exact .base (.dK (old _ _ e))
      | dT e => exact .base (.dT (old _ _ e))
    | byt b => exact .byt b
    | set e => exact .set (old _ _ e)
    | kList e c => exact .kList e c
    | kTuple e c => exact .kTuple e c
    | kDict e c => exact .kDict e c
    | fTuple e => exact .fTuple (old _ _ e)
    | fDict e => exact .fDict (old _ _ e)
  cases b with
  | true =>
    rw [if_pos rfl] at h4
    cases h4
    exact ⟨v, q, _, _, [.type Ts, .type Us], true, rfl, upd_same, .cons (.ty _) (.cons (.ty _) .nil), ty, kitAny_cons (kit_ty h3) (fun z => nomatch z) (fun _ => rfl), k _ _ _ f1 ok1 (.bl _)⟩
  | false =>
    rw [if_neg Bool.false_ne_true] at h4
    obtain ⟨c, h5, h6⟩ := Option.map_eq_some_iff.mp h4
    subst h6
    exact ⟨v, q, _, _, [.type Ts, .type Us], c, rfl, upd_same, .cons (.ty _) (.cons (.ty _) .nil), ty, kitAny_cons (kit_ty h3) (fun _ => kitAny_cons (kit_ty h5) (fun z => by rw [z]; rfl) (fun z => z)) (fun z => nomatch z), k _ _ _ f1 ok1 (.bl _)⟩
/-! ### join -/
def strsOf : List D → Option (List Str)
  | [] => some []
  | .str b :: ds => (strsOf ds).map fun bs => b :: bs
  | _ => none
theorem strs_rep {K : PySem.W.Frag} {H : Hp} : ∀ {vs : List V} {ds : List D} {bs : List Str}, RepAll K H vs ds → strsOf ds = some bs → vs = bs.map V.str ∧ ∀ b ∈ bs, SG b
  | _, _, _, .nil, h => by cases h; exact ⟨rfl, fun b hb => nomatch hb⟩
  | _, _, _, .cons r t, h => by
    cases r with
    | str g =>
      obtain ⟨r, h1, h2⟩ := Option.map_eq_some_iff.mp h
      subst h2
      obtain ⟨e1, e2⟩ := strs_rep t h1
      refine ⟨by rw [e1]; rfl, fun b hb => ?_⟩
      rcases List.mem_cons.mp hb with rfl | hb
      · exact g
      · exact e2 b hb
    | _ => cases h
def joinB (s : Str) (ys : List Str) : Option D := if (ys.map (·.length)).sum + ys.length * s.length ≤ 16777216 then some (.str (Txt.join s ys)) else none
def joinO : D → D → Option D
  | .str s, .lst ds => (strsOf ds).bind fun ys => joinB s ys
  | .str s, .tup ds => (strsOf ds).bind fun ys => joinB s ys
  | _, _ => none
theorem joinL_mem {s : List Nat} : ∀ {ys : List (List Nat)} {c : Nat}, c ∈ TL.joinL s ys → c ∈ s ∨ ∃ y ∈ ys, c ∈ y
  | [], c, h => by simp [TL.joinL] at h
  | [y], c, h => by
    simp [TL.joinL] at h
    exact .inr ⟨y, by simp, h⟩
  | y :: z :: r, c, h => by
    have h' : c ∈ y ++ s ++ TL.joinL s (z :: r) := by simpa [TL.joinL] using h
    rw [List.mem_append, List.mem_append] at h'
    rcases h' with (h' | h') | h'
    · exact .inr ⟨y, by simp, h'⟩
    · exact .inl h'
    · rcases joinL_mem h' with q | ⟨x, hx, q⟩
      · exact .inl q
      · exact .inr ⟨x, List.mem_cons_of_mem _ hx, q⟩
theorem joinL_len {s : List Nat} : ∀ {ys : List (List Nat)}, (TL.joinL s ys).length ≤ (ys.map (·.length)).sum + ys.length * s.length
  | [] => by simp [TL.joinL]
  | [y] => by simp [TL.joinL]
  | y :: z :: r => by
    have ih := joinL_len (s := s) (ys := z :: r)
    have : (TL.joinL s (y :: z :: r)).length = y.length + s.length + (TL.joinL s (z :: r)).length := by simp [TL.joinL]; omega
    rw [this]
    simp only [List.map_cons, List.sum_cons, List.length_cons] at ih ⊢
    rw [Nat.add_mul, Nat.one_mul]
    omega
theorem SG.join {s : Str} {ys : List Str} (g : SG s) (h : ∀ y ∈ ys, SG y) (hl : (ys.map (·.length)).sum + ys.length * s.length ≤ 16777216) : SG (Txt.join s ys) := by
  have e : (Txt.join s ys).cps.toList = TL.joinL s.cps.toList (ys.map fun y => y.cps.toList) := (congrArg TL.tl (TL.join_eq s ys)).trans (TL.tl_join s ys)
  refine .mk ?_ fun c hc => ?_
  · have h1 : (Txt.join s ys).length = (Txt.join s ys).cps.toList.length := by simp [Str.length]
    rw [h1, e]
    refine Nat.le_trans joinL_len ?_
    rw [List.map_map, List.length_map]
    have e2 : (ys.map ((fun l : List Nat => l.length) ∘ fun y : Str => y.cps.toList)) = ys.map (·.length) := by
      apply List.map_congr_left
      intro y _
      simp [Str.length]
    have e3 : s.cps.toList.length = s.length := by simp [Str.length]
    rw [e2, e3]
    exact hl
  · rw [e] at hc
    rcases joinL_mem hc with q | ⟨y, hy, q⟩
    · exact g.cps c q
    · obtain ⟨z, hz, rfl⟩ := List.mem_map.mp hy
      exact (h z hz).cps c q
theorem ve_join (ha : VE X a f) (hb : VE X b g) (hs : starEach [b] X.env = [(false, eval b X.env)] := by rfl) (hbase : attributeBase a "join" X.env (eval a X.env) = eval a X.env := by rfl) (hline : (apos.endLine == pos.line) = true := by rfl) :
    VE X (.Call (.Attribute a "join" apos) [b] [] pos) (fB joinO f g) := by
  refine weakE (pe_join ha hb hs hbase hline) fun σ H Q q => ?_
  obtain ⟨w, ρ, z, ρ', ok, ef, kk⟩ := q
  obtain ⟨⟨x, ρ1⟩, e1, e2⟩ := Option.bind_eq_some_iff.mp ef
  obtain ⟨⟨y, ρ2⟩, e3, e4⟩ := Option.bind_eq_some_iff.mp e2
  obtain ⟨z2, e5, e6⟩ := Option.map_eq_some_iff.mp e4
  cases e6
  refine ⟨w, ρ, x, ρ1, ok, e1, fun v w1 H1 f1 ok1 r1 => ?_⟩
  cases r1 with
  | @str s gs =>
    refine ⟨⟨_, rfl⟩, w1, ρ1, y, ρ2, ok1, e3, fun u w2 H2 f2 ok2 r2 => ?_⟩
    have main : ∀ ds ys, strsOf ds = some ys → joinB s ys = some z → ∀ {vs : List V}, RepAll X.K w2.hs vs ds → vs = ys.map V.str ∧ (ys.map (·.length)).sum + ys.length * s.length ≤ 16777216 ∧ Q (.str (Txt.join s ys)) H2 := fun ds ys h1 h2 vs t => by
      obtain ⟨q1, q2⟩ := strs_rep t h1
      unfold joinB at h2
      split at h2
      · rename_i hl
        cases h2
        exact ⟨q1, hl, kk _ w2 H2 (f1.trans f2) ok2 (.str (gs.join q2 hl))⟩
      · cases h2
    cases r2 with
    | lst q l t =>
      obtain ⟨ys, h1, h2⟩ := Option.bind_eq_some_iff.mp e5
      obtain ⟨m1, m2, m3⟩ := main _ ys h1 h2 t
      rw [m1] at q
      exact ⟨_, _, ys, rfl, rfl, .inl (ok2.sub.sqL q), m2, m3⟩
    | tup q l t =>
      obtain ⟨ys, h1, h2⟩ := Option.bind_eq_some_iff.mp e5
      obtain ⟨m1, m2, m3⟩ := main _ ys h1 h2 t
      rw [m1] at q
      exact ⟨_, _, ys, rfl, rfl, .inr (.of (ok2.sub.tup q)), m2, m3⟩
    | _ => cases e5
  | _ => cases e5
end
end VS
set_option autoImplicit false
namespace VS
open PySem PySem.Spec PyProof.Rows L2 AR
section
variable {X : Cx} {a b e o value : Expr} {f g : FE} {pos p apos pos' p2 : Pos} {ga : FA} {es : List Expr} {i : Nat} {x : Str}
/-! ### slices -/
abbrev FO := En → Option (Option Int × En)
def tOp' (K : PySem.W.Frag) (f : FO) : TO := fun σ H Q => ∃ w ρ d ρ', EnvOk K w ρ σ H ∧ f ρ = some (d, ρ') ∧ ∀ w' H', Fr w H w' H' → EnvOk K w' ρ' σ H' → Q d H'
abbrev VPt (X : Cx) (e : Option Expr) (f : FO) : Prop := PO X e (tOp' X.K f)
def oNo : FO := fun ρ => some (none, ρ)
def oSo (f : FE) : FO := fun ρ => (f ρ).bind fun p => match p.1 with
  | .int i => some (some i, p.2)
  | _ => none
theorem vo_none : VPt X none oNo := ⟨fun pins s σ H Q I q => by
  obtain ⟨w, ρ, d, ρ', ok, ef, k⟩ := q
  cases ef
  exact po_none.run pins s σ H Q I (k w H (.refl _ _) ok)⟩
theorem vo_some (h : VE X e f) : VPt X (some e) (oSo f) := ⟨fun pins s σ H Q I q => by
  obtain ⟨w, ρ, d, ρ', ok, ef, k⟩ := q
  obtain ⟨⟨x, ρ1⟩, e1, e2⟩ := Option.bind_eq_some_iff.mp ef
  refine (po_some h).run pins s σ H Q I ⟨w, ρ, x, ρ1, ok, e1, fun v w1 H1 f1 ok1 r1 => ?_⟩
  cases r1 with
  | int i => cases e2; exact ⟨i, rfl, k w1 H1 f1 ok1⟩
  | _ => cases e2⟩
def cutL {α : Type} (xs : List α) (lo hi : Option Int) : List α := (xs.drop (HT.sIx xs.length 0 lo)).take (HT.sIx xs.length xs.length hi - HT.sIx xs.length 0 lo)
theorem RepAll.cut {K : PySem.W.Frag} {H : Hp} {vs : List V} {ds : List D} (r : RepAll K H vs ds) (lo hi : Option Int) : RepAll K H (cutV vs lo hi) (cutL ds lo hi) := by
  unfold cutV cutL
  rw [r.length]
  exact (r.drop _).take _
theorem SG.cut {z : Str} (g : SG z) (lo hi : Option Int) : SG (cutS z lo hi) := by
  refine .mk ?_ fun c hc => ?_
  · have h1 : (cutS z lo hi).length ≤ z.length := by
      unfold cutS
      show (List.toArray _).size ≤ z.cps.size
      rw [List.size_toArray, List.length_take, List.length_drop, Array.length_toList]
      omega
    exact Nat.le_trans h1 g.1
  · unfold cutS at hc
    have hc' : c ∈ ((z.cps.toList.drop (HT.sIx z.length 0 lo)).take (HT.sIx z.length z.length hi - HT.sIx z.length 0 lo)) := by simpa using hc
    exact g.cps c (List.mem_of_mem_drop (List.mem_of_mem_take hc'))
def slD : D → Option Int → Option Int → Option D
  | .str z, lo, hi => some (.str (cutS z lo hi))
  | .tup xs, lo, hi => some (.tup (cutL xs lo hi))
  | .lst xs, lo, hi => some (.lst (cutL xs lo hi))
  | _, _, _ => none
def fSl (f : FE) (lo hi : FO) : FE := fun ρ => (f ρ).bind fun p => (lo p.2).bind fun q => (hi q.2).bind fun r => (slD p.1 q.1 r.1).map fun d => (d, r.2)
def fSlL (f : FE) (lo hi : FO) : FE := fun ρ => (f ρ).bind fun p => (lo p.2).bind fun q => (hi q.2).bind fun r => match p.1 with
  | .lst xs => some (.lst (cutL xs q.1 r.1), r.2)
  | _ => none
variable {lo hi : Option Expr} {fl fh : FO}
theorem cutV_le (xs : List V) (lo hi : Option Int) (h : xs.length ≤ sizeLine) : (cutV xs lo hi).length ≤ sizeLine := Nat.le_trans (cutV_length xs lo hi) h
theorem cut_whole {α : Type} {xs : List α} {lo hi : Option Int} (h : HT.sIx xs.length 0 lo = 0 ∧ HT.sIx xs.length xs.length hi = xs.length) : cutL xs lo hi = xs := by
  unfold cutL
  rw [h.1, h.2]
  simp
theorem ve_slice (h : VE X e f) (hl : VPt X lo fl) (hh : VPt X hi fh) : VE X (.Subscript e (.Slice lo hi none p2) pos) (fSl f fl fh) := by
  refine orE (ι := Fin 3) (t := fun i => if i = 0 then tSl rSlS (tV X.K f) (tOp' X.K fl) (tOp' X.K fh) else if i = 1 then tSl (rSlA X.K) (tV X.K f) (tOp' X.K fl) (tOp' X.K fh) else tSl (rSlL X.K) (tV X.K f) (tOp' X.K fl) (tOp' X.K fh)) (fun i => ?_) fun σ H Q q => ?_
  · match i with
    | 0 => exact pe_slice sl_str h hl hh
    | 1 => exact pe_slice sl_tupA h hl hh
    | 2 => exact pe_slice sl_list h hl hh
  · obtain ⟨w, ρ, z, ρ', ok, ef, kk⟩ := q
    obtain ⟨⟨x, ρ1⟩, e1, e2⟩ := Option.bind_eq_some_iff.mp ef
    obtain ⟨⟨l, ρ2⟩, e3, e4⟩ := Option.bind_eq_some_iff.mp e2
    obtain ⟨⟨u, ρ3⟩, e5, e6⟩ := Option.bind_eq_some_iff.mp e4
    obtain ⟨z2, e7, e8⟩ := Option.map_eq_some_iff.mp e6
    cases e8
    cases x with
    | str s =>
      cases e7
      refine ⟨0, w, ρ, _, _, ok, e1, fun v w1 H1 f1 ok1 r1 => ⟨w1, _, _, _, ok1, e3, fun w2 H2 f2 ok2 => ⟨w2, _, _, _, ok2, e5, fun w3 H3 f3 ok3 => ?_⟩⟩⟩
      cases r1 with
      | str g => exact ⟨_, rfl, g.1, kk _ w3 H3 (f1.trans (f2.trans f3)) ok3 (.str (g.cut l u))⟩
    | tup xs =>
      cases e7
      refine ⟨1, w, ρ, _, _, ok, e1, fun v w1 H1 f1 ok1 r1 => ⟨w1, _, _, _, ok1, e3, fun w2 H2 f2 ok2 => ⟨w2, _, _, _, ok2, e5, fun w3 H3 f3 ok3 => ?_⟩⟩⟩
      have r3 := r1.mono (.of (f2.trans f3).sh)
      cases r3 with
      | @tup a vs _ q l' t =>
        have e := t.length
        refine ⟨_, _, rfl, .of (ok3.sub.tup q), fun hw => ?_, fun _ => ?_⟩
        · have : cutL xs l u = xs := cut_whole (by rw [← e]; exact hw)
          rw [this] at kk
          exact kk _ w3 H3 (f1.trans (f2.trans f3)) ok3 (.tup q l' t)
        · exact new_tup ok3 (t.cut l u) (cutV_le _ _ _ l') fun v' w' H' f' ok' r' => kk v' w' H' ((f1.trans (f2.trans f3)).trans f') ok' r'
    | lst xs =>
      cases e7
      refine ⟨2, w, ρ, _, _, ok, e1, fun v w1 H1 f1 ok1 r1 => ⟨w1, _, _, _, ok1, e3, fun w2 H2 f2 ok2 => ⟨w2, _, _, _, ok2, e5, fun w3 H3 f3 ok3 => ?_⟩⟩⟩
      have r3 := r1.mono (.of (f2.trans f3).sh)
      cases r3 with
      | @lst a vs _ q l' t =>
        refine ⟨_, _, rfl, ok3.sub.sqL q, new_lst ok3 (t.cut l u) (cutV_le _ _ _ l') fun v' w' H' f' ok' r' => ?_⟩
        obtain ⟨w4, f4, ok4, r4⟩ := r'.share (fun p c z => nomatch z) ok' f'
        exact kk v' w4 H' ((f1.trans (f2.trans f3)).trans f4) ok4 r4
    | _ => cases e7
/-- a list's slice is new -/
theorem vn_slice (h : VE X e f) (hl : VPt X lo fl) (hh : VPt X hi fh) : VN X (.Subscript e (.Slice lo hi none p2) pos) (fSlL f fl fh) := by
  refine weakE (pe_slice sl_list h hl hh) fun σ H Q q => ?_
  obtain ⟨w, ρ, z, ρ', ok, ef, kk⟩ := q
  obtain ⟨⟨x, ρ1⟩, e1, e2⟩ := Option.bind_eq_some_iff.mp ef
  obtain ⟨⟨l, ρ2⟩, e3, e4⟩ := Option.bind_eq_some_iff.mp e2
  obtain ⟨⟨u, ρ3⟩, e5, e6⟩ := Option.bind_eq_some_iff.mp e4
  cases x with
  | lst xs =>
    cases e6
    refine ⟨w, ρ, _, _, ok, e1, fun v w1 H1 f1 ok1 r1 => ⟨w1, _, _, _, ok1, e3, fun w2 H2 f2 ok2 => ⟨w2, _, _, _, ok2, e5, fun w3 H3 f3 ok3 => ?_⟩⟩⟩
    have r3 := r1.mono (.of (f2.trans f3).sh)
    have f13 := f1.trans (f2.trans f3)
    cases r3 with
    | @lst a vs _ q l' t => exact ⟨_, _, rfl, ok3.sub.sqL q, new_lst ok3 (t.cut l u) (cutV_le _ _ _ l') fun v' w' H' f' ok' r' => kk v' w' H' (f13.trans f') ok' (r'.old f13)⟩
  | _ => cases e6
/-! ### x.append(e), x.extend(e), x.pop(), x.pop(i) -/
/-- a method that changes the slot's own list: what it gives and what is left -/
def fMuL (op : List D → List D → Option (D × List D)) (i : Nat) (a : FA) : FE := fun ρ => match ρ[i]? with
  | some (Sl.o (.lst _)) => (a ρ).bind fun p => match p.2[i]? with
    | some (Sl.o (.lst ds)) => (op ds p.1).map fun r => (r.1, p.2.set i (Sl.o (.lst r.2)))
    | _ => none
  | _ => none
def appO (ds as : List D) : Option (D × List D) := match as with
  | [d] => if ds.length < sizeLine then some (.non, ds ++ [d]) else none
  | _ => none
theorem ty_list {K : PySem.W.Frag} {H : Hp} {a : Addr} {xs : List V} (h : SqL K H a xs) : tyV K "list" (.ref a) H := .inl ⟨rfl, xs, h⟩
/-- the core of such a rule: the receiver is a list at the start -/
theorem mu_core {K : PySem.W.Frag} {op : List D → List D → Option (D × List D)} {r : V → List V → Hp → VK → Prop} {ta : TA} (hta : ta = tAs K ga) {σ : L2.St} {H : Hp} {Q : VK}
    (k : ∀ (w : Wd) (ρ : En) (H : Hp) (b : Addr) (xs : List V) (ds as : List D) (vs : List V) (d : D) (ds' : List D) (Q : VK), EnvOk K w ρ σ H → w.own b = some i → H b = some (.lst xs) → xs.length ≤ sizeLine → RepAll K w.hs xs ds → RepAll K w.hs vs as → op ds as = some (d, ds') →
      (∀ v xs', xs'.length ≤ sizeLine → RepAll K w.hs xs' ds' → Rep K w.hs v d → Q v (upd H b (.lst xs'))) → r (.ref b) vs H Q)
    (q : tV K (fMuL op i ga) σ H Q) : tBM K "list" r (tVar i) ta σ H Q := by
  subst hta
  obtain ⟨w, ρ, d, ρ', ok, ef, kk⟩ := q
  unfold fMuL at ef
  split at ef
  case h_2 => cases ef
  rename_i ds0 e0
  obtain ⟨v0, hv0, ro0⟩ := ok.ow i _ e0
  cases ro0 with
  | @lst b xs0 _ hb0 hx0 hl0 ht0 =>
    refine ⟨_, hv0, ty_list (.of hx0), ?_⟩
    obtain ⟨⟨as, ρ1⟩, e1, e2⟩ := Option.bind_eq_some_iff.mp ef
    refine ⟨w, ρ, as, ρ1, ok, e1, fun vs w1 H1 f1 ok1 r1 => ?_⟩
    split at e2
    · rename_i ds e3
      obtain ⟨⟨d', ds'⟩, e4, e5⟩ := Option.map_eq_some_iff.mp e2
      cases e5
      obtain ⟨v, hv, ro⟩ := ok1.ow i _ e3
      rw [hv0] at hv
      cases hv
      cases ro with
      | @lst b xs _ hb hx hl ht =>
        refine k w1 ρ1 H1 _ xs ds as vs d' ds' Q ok1 hb hx hl ht r1 e4 fun v xs' hl' ht' rv => ?_
        obtain ⟨f2, ok2⟩ := ok1.mut (o := .lst xs') (d := .lst ds') hb hv0 (.lst hb upd_same hl' ht') (fun _ z => nomatch z)
        exact kk v w1 _ (f1.trans f2) ok2 rv
    · cases e2
theorem ve_append (ha : PE X (.Name x p) (tVar i)) (hb : VA X [b] ga) (hbase : attributeBase (.Name x p) "append" X.env (eval (.Name x p) X.env) = eval (.Name x p) X.env := by rfl)
    (hfew : ((backTo pos (starEach [b] X.env)).all (fun x => !x.1) && (backToKw pos (keywordEach [] X.env)).all (fun x => x.1.isSome)
      && decide (([b] : List Expr).length + ([] : List Keyword).length + (if ([] : List Keyword).isEmpty then 0 else 1) < 30)) = true := by rfl)
    (hline : (apos.endLine == pos.line) = true := by rfl) (hs : starEach [b] X.env = (false, eval b X.env) :: starEach [] X.env := by rfl) (hpl : (backTo pos (starEach [] X.env)).any (·.1) = false := by rfl) :
    VE X (.Call (.Attribute (.Name x p) "append" apos) [b] [] pos) (fMuL appO i ga) := by
  refine weakE (pe_bm PySem.F.plainAttrs_list PySem.F.slot_list_append PySem.F.type_list_append mt_append ha hb hbase hfew hline hs hpl) fun σ H Q q => ?_
  refine mu_core rfl (fun w ρ H b xs ds as vs d ds' Q ok hb hx hl ht hr eo k => ?_) q
  unfold appO at eo
  split at eo
  · split at eo
    · rename_i hlt
      cases eo
      cases hr with
      | @cons v vs d ds r t =>
        cases t
        have e := ht.length
        exact ⟨b, xs, v, rfl, rfl, hx, by omega, k .non (xs ++ [v]) (by rw [List.length_append, List.length_singleton]; omega) (ht.append (.one r)) .non⟩
    · cases eo
  · cases eo
def extO (ds as : List D) : Option (D × List D) := match as with
  | [.lst es] => if ds.length + es.length ≤ sizeLine then some (.non, ds ++ es) else none
  | _ => none
def popO (ds as : List D) : Option (D × List D) := match as with
  | [] => (ds[ds.length - 1]?).map fun d => (d, ds.dropLast)
  | _ => none
theorem RepAll.dropLast {K : PySem.W.Frag} {H : Hp} {vs : List V} {ds : List D} (r : RepAll K H vs ds) : RepAll K H vs.dropLast ds.dropLast := by
  rw [List.dropLast_eq_take, List.dropLast_eq_take, r.length]
  exact r.take _
theorem RepAll.erase {K : PySem.W.Frag} {H : Hp} : ∀ {vs : List V} {ds : List D} (k : Nat), RepAll K H vs ds → RepAll K H (vs.eraseIdx k) (ds.eraseIdx k)
  | _, _, _, .nil => .nil
  | _, _, 0, .cons _ t => t
  | _, _, k + 1, .cons r t => .cons r (RepAll.erase k t)
def popAtO (ds as : List D) : Option (D × List D) := match as with
  | [.int i] => if 0 ≤ i ∧ i < ds.length ∧ ds.length ≤ 1000000 then (ds[i.toNat]?).map fun d => (d, ds.eraseIdx i.toNat) else none
  | _ => none
theorem ve_pop (ha : PE X (.Name x p) (tVar i)) (hbase : attributeBase (.Name x p) "pop" X.env (eval (.Name x p) X.env) = eval (.Name x p) X.env := by rfl) (hline : (apos.endLine == pos.line) = true := by rfl) :
    VE X (.Call (.Attribute (.Name x p) "pop" apos) [] [] pos) (fMuL popO i aN) := by
  refine weakE (pe_bm0 PySem.F.plainAttrs_list PySem.F.slot_list_pop PySem.F.type_list_pop mt_pop ha hbase hline) fun σ H Q q => ?_
  have := mu_core (ga := aN) (ta := tAs X.K aN) (r := rPop) (i := i) rfl (fun w ρ H b xs ds as vs d ds' Q ok hb hx hl ht hr eo k => ?_) q
  · obtain ⟨v, hv, ty, w, ρ, as, ρ1, ok, e1, k⟩ := this
    cases e1
    exact ⟨v, hv, ty, k [] w H (.refl _ _) ok .nil⟩
  · unfold popO at eo
    split at eo
    · obtain ⟨d', h1, h2⟩ := Option.map_eq_some_iff.mp eo
      cases h2
      cases hr
      obtain ⟨v, h3, h4⟩ := ht.get' _ h1
      rw [← ht.length] at h3
      exact ⟨b, xs, v, rfl, rfl, hx, h3, k v xs.dropLast (by rw [List.length_dropLast]; omega) ht.dropLast h4⟩
    · cases eo
theorem ve_popAt (ha : PE X (.Name x p) (tVar i)) (hb : VA X [b] ga) (hbase : attributeBase (.Name x p) "pop" X.env (eval (.Name x p) X.env) = eval (.Name x p) X.env := by rfl)
    (hfew : ((backTo pos (starEach [b] X.env)).all (fun x => !x.1) && (backToKw pos (keywordEach [] X.env)).all (fun x => x.1.isSome)
      && decide (([b] : List Expr).length + ([] : List Keyword).length + (if ([] : List Keyword).isEmpty then 0 else 1) < 30)) = true := by rfl)
    (hline : (apos.endLine == pos.line) = true := by rfl) (hs : starEach [b] X.env = (false, eval b X.env) :: starEach [] X.env := by rfl) (hpl : (backTo pos (starEach [] X.env)).any (·.1) = false := by rfl) :
    VE X (.Call (.Attribute (.Name x p) "pop" apos) [b] [] pos) (fMuL popAtO i ga) := by
  refine weakE (pe_bm PySem.F.plainAttrs_list PySem.F.slot_list_pop PySem.F.type_list_pop mt_popAt ha hb hbase hfew hline hs hpl) fun σ H Q q => ?_
  refine mu_core rfl (fun w ρ H b xs ds as vs d ds' Q ok hb hx hl ht hr eo k => ?_) q
  unfold popAtO at eo
  split at eo
  · rename_i j
    split at eo
    · rename_i hj
      obtain ⟨d', h1, h2⟩ := Option.map_eq_some_iff.mp eo
      cases h2
      cases hr with
      | cons r t =>
        cases t
        cases r
        have e := ht.length
        obtain ⟨v, h3, h4⟩ := ht.get' _ h1
        refine ⟨b, xs, j, j.toNat, v, rfl, rfl, hx, by omega, by omega, ?_, h3, k v (xs.eraseIdx j.toNat) (Nat.le_trans (List.length_eraseIdx_le _ _) hl) (ht.erase _) h4⟩
        have : ixN xs.length j = some j.toNat := by unfold ixN; rw [if_pos hj.1, if_pos (by omega)]
        exact (ixN_seq this).1
    · cases eo
  · cases eo
/-- extend by a list, wherever it stands -/
def rExtS (K : PySem.W.Frag) : V → List V → Hp → VK → Prop := fun x vs H Q => ∃ l b xs zs, x = .ref l ∧ vs = [.ref b] ∧ b ≠ l ∧ H l = some (.lst xs) ∧ H b = some (.lst zs) ∧ xs.length + zs.length ≤ sizeLine ∧ Q .non (upd H l (.lst (xs ++ zs)))
end
end VS
set_option autoImplicit false
namespace VS
open PySem PySem.Spec PyProof.Rows L2 AR
section
variable {X : Cx} {a b e o value : Expr} {f g fk fv : FE} {pos p apos pos' p2 : Pos} {ga : FA} {es : List Expr} {i : Nat} {x : Str}
/-! ### {} -/
theorem new_dK {K : PySem.W.Frag} {w : Wd} {ρ : En} {σ : L2.St} {H : Hp} {kvs : List (Key × V)} {ks vs : List D} {Q : VK} (ok : EnvOk K w ρ σ H) (hk : ks = (kvs.map fun p => keyD p.1)) (r : RepAll K w.hs (kvs.map (·.2)) vs)
    (k : ∀ v' w' H', Fr w H w' H' → EnvOk K w' ρ σ H' → Fresh K w' H H' v' (.dct 0 ks vs) → Q v' H') : ∀ p, H p = none → Q (.ref p) (upd H p (.dK kvs)) := fun p hp => by
  obtain ⟨h1, h2⟩ := ok.free hp
  obtain ⟨f1, ok1⟩ := ok.tmp (o := .dK kvs) hp (fun _ z => nomatch z)
  exact k _ w _ f1 ok1 (.dK hp h2 h1 upd_same hk r)
theorem vn_dnew0 : VN X (.Dict [] [] pos) (fC (.dct 0 [] [])) := weakE pe_dnewK fun σ H Q q => by
  obtain ⟨w, ρ, d', ρ', ok, ef, k⟩ := q
  cases ef
  exact new_dK (kvs := []) ok rfl .nil k
theorem vn_dnew1 : VN X (.Dict [] [] pos) (fC (.dct 1 [] [])) := weakE pe_dnewT fun σ H Q q => by
  obtain ⟨w, ρ, d', ρ', ok, ef, k⟩ := q
  cases ef
  intro p hp
  obtain ⟨h1, h2⟩ := ok.free hp
  obtain ⟨f1, ok1⟩ := ok.tmp (o := .dT []) hp (fun _ z => nomatch z)
  exact k _ w _ f1 ok1 (.dT (kvs := []) hp h2 h1 upd_same rfl .nil)
/-- {k: v}, the key a tuple -/
def fD1 (f g : FE) : FE := fun ρ => (f ρ).bind fun p => (g p.2).bind fun q => (keyTOf p.1).map fun _ => (.dct 1 [p.1] [q.1], q.2)
theorem vn_disp1 (hu : X.A.units < cLine) (ha : VE X a f) (hb : VE X b g) : VN X (.Dict [some a] [b] pos) (fD1 f g) := weakE (pe_disp1 hu ha hb) fun σ H Q q => by
  obtain ⟨w, ρ, z, ρ', ok, ef, kk⟩ := q
  obtain ⟨⟨x, ρ1⟩, e1, e2⟩ := Option.bind_eq_some_iff.mp ef
  obtain ⟨⟨y, ρ2⟩, e3, e4⟩ := Option.bind_eq_some_iff.mp e2
  obtain ⟨ky, e5, e6⟩ := Option.map_eq_some_iff.mp e4
  cases e6
  intro p hp
  obtain ⟨h1, h2⟩ := ok.free hp
  obtain ⟨f0, ok0⟩ := ok.tmp (o := .dT []) hp (fun _ z => nomatch z)
  refine ⟨w, ρ, x, ρ1, ok0, e1, fun v w1 H1 f1 ok1 r1 => ⟨w1, ρ1, y, ρ2, ok1, e3, fun u w2 H2 f2 ok2 r2 => ?_⟩⟩
  obtain ⟨k1, k2, k3⟩ := (f1.trans f2).kp p _ upd_same h2
  have ex := keyT_of e5
  subst ex
  obtain ⟨q, rfl, hq⟩ := rep_keyT (r1.mono (.of f2.sh))
  refine ⟨q, ky, rfl, ok2.sub.tup hq, k1, ?_⟩
  exact kk _ w2 _ ((f0.trans (f1.trans f2)).chg hp) (ok2.chg k1 k2 (k3 h1) (fun _ z => nomatch z)) (.dT (kvs := [(ky, u)]) hp k2 (k3 h1) upd_same rfl (.one r2))
/-- {k: v, ..}, the keys ints and texts -/
abbrev FPs := En → Option ((List D × List D) × En)
def pN0 : FPs := fun ρ => some (([], []), ρ)
def pCo (f g : FE) (r : FPs) : FPs := fun ρ => (f ρ).bind fun p => (g p.2).bind fun q => (r q.2).map fun s => ((p.1 :: s.1.1, q.1 :: s.1.2), s.2)
def tPs (K : PySem.W.Frag) (f : FPs) : L2.St → Hp → (List (V × V) → Hp → Prop) → Prop := fun σ H Q => ∃ w ρ d ρ', EnvOk K w ρ σ H ∧ f ρ = some (d, ρ') ∧ ∀ ps w' H', Fr w H w' H' → EnvOk K w' ρ' σ H' → RepAll K w'.hs (ps.map (·.1)) d.1 → RepAll K w'.hs (ps.map (·.2)) d.2 → Q ps H'
structure VPs (X : Cx) (pos : Pos) (keys : List (Option Expr)) (values : List Expr) (f : FPs) : Prop where
  ex : ∃ trs, PPs X pos keys values trs ∧ ∀ σ H Q, tPs X.K f σ H Q → tPairs trs σ H Q
theorem vps_nil : VPs X pos [] [] pN0 := ⟨[], pps_nil, fun σ H Q q => by
  obtain ⟨w, ρ, d, ρ', ok, ef, k⟩ := q
  cases ef
  exact k [] w H (.refl _ _) ok .nil .nil⟩
theorem vps_cons {ks : List (Option Expr)} {vs : List Expr} {r : FPs} (ha : VE X a f) (hb : VE X b g) (hr : VPs X pos ks vs r) : VPs X pos (some a :: ks) (b :: vs) (pCo f g r) := by
  obtain ⟨trs, h1, h2⟩ := hr.ex
  refine ⟨_, pps_cons ha hb h1, fun σ H Q q => ?_⟩
  obtain ⟨w, ρ, d, ρ', ok, ef, k⟩ := q
  obtain ⟨⟨x, ρ1⟩, e1, e2⟩ := Option.bind_eq_some_iff.mp ef
  obtain ⟨⟨y, ρ2⟩, e3, e4⟩ := Option.bind_eq_some_iff.mp e2
  obtain ⟨⟨ds, ρ3⟩, e5, e6⟩ := Option.map_eq_some_iff.mp e4
  cases e6
  refine ⟨w, ρ, x, ρ1, ok, e1, fun v w1 H1 f1 ok1 r1 => ⟨w1, ρ1, y, ρ2, ok1, e3, fun u w2 H2 f2 ok2 r2 => h2 σ H2 _ ⟨w2, ρ2, ds, ρ3, ok2, e5, fun ps w3 H3 f3 ok3 r3 r4 => ?_⟩⟩⟩
  exact k _ w3 H3 (f1.trans (f2.trans f3)) ok3 (.cons (r1.mono (.of (f2.trans f3).sh)) r3) (.cons (r2.mono (.of f3.sh)) r4)
/-- the pairs one behind another -/
def dmerge : List D → List D → List D → List D → List D × List D
  | k :: ks, v :: vs, aks, avs => dmerge ks vs (dputK aks k) (dputV aks avs k v)
  | _, _, aks, avs => (aks, avs)
theorem merge_rep {K : PySem.W.Frag} {H : Hp} : ∀ {kvs acc : List (Key × V)} {vs avs : List D}, RepAll K H (kvs.map (·.2)) vs → RepAll K H (acc.map (·.2)) avs →
    (dmerge (kvs.map fun p => keyD p.1) vs (acc.map fun p => keyD p.1) avs).1 = ((mergeK acc kvs).map fun p => keyD p.1) ∧ RepAll K H ((mergeK acc kvs).map (·.2)) (dmerge (kvs.map fun p => keyD p.1) vs (acc.map fun p => keyD p.1) avs).2
  | [], acc, _, avs, .nil, t => ⟨rfl, t⟩
  | (k, v) :: kvs, acc, d :: vs, avs, .cons r t, ta => by
    obtain ⟨h1, h2⟩ := dput_put (kd := keyD) (fun _ _ => keyD_inj) r k ta
    have := merge_rep (kvs := kvs) (acc := putK acc k v) t h2
    rw [List.map_cons]
    unfold dmerge
    rw [h1]
    exact this
def fDs (r : FPs) : FE := fun ρ => (r ρ).bind fun p => (keysOf p.1.1).bind fun ks => if ks.length ≤ 15 then some (.dct 0 (dmerge p.1.1 p.1.2 [] []).1 (dmerge p.1.1 p.1.2 [] []).2, p.2) else none
theorem pairs_keys {K : PySem.W.Frag} {H : Hp} : ∀ {ps : List (V × V)} {ks : List Key}, RepAll K H (ps.map (·.1)) (ks.map keyD) → ∃ kvs : List (Key × V), ps = kvs.map (fun kv => (kV kv.1, kv.2)) ∧ kvs.map (·.1) = ks
  | [], [], .nil => ⟨[], rfl, rfl⟩
  | (a, b) :: ps, k :: ks, .cons r t => by
    obtain ⟨kvs, h1, h2⟩ := pairs_keys t
    have er : a = kV k := rep_key r
    exact ⟨(k, b) :: kvs, by rw [h1, er]; rfl, by rw [List.map_cons, h2]⟩
theorem vn_disp {keys : List (Option Expr)} {values : List Expr} {r : FPs} (h : VPs X pos keys values r) (hall : keys.all (·.isSome) = true) (hl : keys.length = values.length) (h0 : keys ≠ []) (h15 : keys.length ≤ 15) : VN X (.Dict keys values pos) (fDs r) := by
  obtain ⟨trs, h1, h2⟩ := h.ex
  refine weakE (pe_disp h1 hall hl h0 h15) fun σ H Q q => ?_
  obtain ⟨w, ρ, z, ρ', ok, ef, kk⟩ := q
  obtain ⟨⟨⟨dk, dv⟩, ρ1⟩, e1, e2⟩ := Option.bind_eq_some_iff.mp ef
  obtain ⟨ks, e3, e4⟩ := Option.bind_eq_some_iff.mp e2
  split at e4
  case isFalse => cases e4
  rename_i hl15
  cases e4
  intro p hp
  obtain ⟨g1, g2⟩ := ok.free hp
  obtain ⟨f0, ok0⟩ := ok.tmp (o := .dK []) hp (fun _ z => nomatch z)
  refine h2 σ _ _ ⟨w, ρ, _, ρ1, ok0, e1, fun ps w1 H1 f1 ok1 r1 r2 => ?_⟩
  obtain ⟨k1, k2, k3⟩ := f1.kp p _ upd_same g2
  have ed := keysD_of e3
  have r1' : RepAll X.K w1.hs (ps.map (·.1)) (ks.map keyD) := by rw [← ed]; exact r1
  obtain ⟨kvs, e5, e6⟩ := pairs_keys r1'
  have hlen : kvs.length = ks.length := by rw [← e6, List.length_map]
  have r2' : RepAll X.K w1.hs (kvs.map (·.2)) dv := by
    have : ps.map (·.2) = kvs.map (·.2) := by rw [e5, List.map_map]; rfl
    rw [← this]; exact r2
  have edk : dk = kvs.map fun p => keyD p.1 := by
    have : dk = ks.map keyD := ed
    rw [this, ← e6, List.map_map]; rfl
  obtain ⟨m1, m2⟩ := merge_rep (acc := []) r2' .nil
  refine ⟨k1, kvs, e5, by omega, kk _ w1 _ ((f0.trans f1).chg hp) (ok1.chg k1 k2 (k3 g1) (fun _ z => nomatch z)) (.dK hp k2 (k3 g1) upd_same ?_ ?_)⟩
  · show (dmerge dk dv [] []).1 = _
    rw [edk]; exact m1
  · show RepAll _ _ _ (dmerge dk dv [] []).2
    rw [edk]; exact m2
/-! ### x[k] = v -/
def putSl (t : Nat) (ks vs : List D) (k v : D) : Option D := if ks.length < sizeLine then match t with
  | 0 => (keyOf k).map fun _ => .dct 0 (dputK ks k) (dputV ks vs k v)
  | 1 => (keyTOf k).map fun _ => .dct 1 (dputK ks k) (dputV ks vs k v)
  | _ => none
  else none
def sPut (i : Nat) (fk fv : FE) : FS := fun ρ => (fv ρ).bind fun p => if hasSl p.2 i then (fk p.2).bind fun q => match q.2[i]? with
  | some (Sl.o (.dct t ks vs)) => (putSl t ks vs q.1 p.1).map fun d => .nx (q.2.set i (Sl.o d))
  | _ => none
  else none
theorem vs_put (hu : X.A.units + 1 < cLine) (ho : PE X (.Name x p) (tVar i)) (hk : VE X b fk) (hv : VE X value fv) (hs : swapsWith value (some (.Subscript (.Name x p) b pos')) pos.line X.env = pure false) : VS1 X (.Assign [.Subscript (.Name x p) b pos'] value pos) (sPut i fk fv) := by
  refine weakS (ps_dput hu ho hk hv hs) fun E σ H q => ?_
  obtain ⟨w, ρ, ot, ok, ef, k⟩ := q
  obtain ⟨⟨y, ρ1⟩, e1, e2⟩ := Option.bind_eq_some_iff.mp ef
  split at e2
  case isFalse => cases e2
  rename_i hsl
  obtain ⟨⟨z, ρ2⟩, e3, e4⟩ := Option.bind_eq_some_iff.mp e2
  refine ⟨w, ρ, y, ρ1, ok, e1, fun u w1 H1 f1 ok1 r1 => ?_⟩
  obtain ⟨v0, hv0⟩ := ok1.has hsl
  refine ⟨v0, hv0, w1, ρ1, z, ρ2, ok1, e3, fun kv w2 H2 f2 ok2 r2 => ?_⟩
  split at e4
  · rename_i t ks vs e5
    obtain ⟨d, e6, e7⟩ := Option.map_eq_some_iff.mp e4
    cases e7
    obtain ⟨v, hv', ro⟩ := ok2.ow i _ e5
    rw [hv0] at hv'
    cases hv'
    unfold putSl at e6
    split at e6
    case isFalse => cases e6
    rename_i hlt
    have r1' := r1.mono (.of f2.sh)
    cases ro with
    | @dK a kvs _ _ ho' hH hks ht =>
      obtain ⟨ky, h1, h2⟩ := Option.map_eq_some_iff.mp e6
      subst h2
      have ez := keyD_of h1
      subst ez
      subst hks
      obtain ⟨m1, m2⟩ := dput_put (kd := keyD) (fun _ _ => keyD_inj) r1' ky ht
      obtain ⟨f3, ok3⟩ := ok2.mut (o := .dK (putK kvs ky u)) (d := .dct 0 (dputK (kvs.map fun p => keyD p.1) (keyD ky)) (dputV (kvs.map fun p => keyD p.1) vs (keyD ky) y)) ho' hv0 (.dK ho' upd_same m1 m2) (fun _ z => nomatch z)
      exact ⟨a, _, rfl, .inl ⟨kvs, ky, hH, rep_key r2, by rw [List.length_map] at hlt; exact hlt, rfl⟩, k σ w2 _ (f1.trans (f2.trans f3)) ok3⟩
    | @dT a kvs _ _ ho' hH hks ht =>
      obtain ⟨ky, h1, h2⟩ := Option.map_eq_some_iff.mp e6
      subst h2
      have ez := keyT_of h1
      subst ez
      subst hks
      obtain ⟨bq, rfl, hbq⟩ := rep_keyT r2
      obtain ⟨m1, m2⟩ := dput_put (kd := keyT) (fun _ _ => keyT_inj) r1' ky ht
      obtain ⟨f3, ok3⟩ := ok2.mut (o := .dT (putK kvs ky u)) (d := .dct 1 (dputK (kvs.map fun p => keyT p.1) (keyT ky)) (dputV (kvs.map fun p => keyT p.1) vs (keyT ky) y)) ho' hv0 (.dT ho' upd_same m1 m2) (fun _ z => nomatch z)
      exact ⟨a, _, rfl, .inr ⟨kvs, ky, bq, hH, rfl, ok2.sub.tup hbq, by rw [List.length_map] at hlt; exact hlt, rfl⟩, k σ w2 _ (f1.trans (f2.trans f3)) ok3⟩
  · cases e4
/-! ### dict(zip(a, b)) -/
def dzO (ds : List D) : Option D := match ds with
  | [x, .tup ys] => (itD x).bind fun xs => if xs.length ≤ sizeLine then (keysOf (xs.take ys.length)).map fun _ => .dct 0 (dmerge (xs.take ys.length) (ys.take xs.length) [] []).1 (dmerge (xs.take ys.length) (ys.take xs.length) [] []).2 else none
  | _ => none
theorem dmerge_take {ks vs aks avs : List D} : dmerge ks vs aks avs = dmerge (ks.take vs.length) (vs.take ks.length) aks avs := by
  induction ks generalizing vs aks avs with
  | nil => cases vs <;> rfl
  | cons k ks ih =>
    cases vs with
    | nil => rfl
    | cons v vs =>
      show dmerge ks vs _ _ = dmerge (ks.take vs.length) (vs.take ks.length) _ _
      exact ih
theorem vn_dictZ {p3 pos2 : Pos} (hc : X.calm = true) (hg : Gl X "dict") (hm : X.mg "dict" = none) (hg2 : Gl X "zip") (hm2 : X.mg "zip" = none) (ha : VA X [a, b] ga)
    (hs : starEach [.Call (.Name "zip" p2) [a, b] [] pos2] X.env = (false, eval (.Call (.Name "zip" p2) [a, b] [] pos2) X.env) :: starEach [] X.env := by rfl)
    (hs2 : starEach [a, b] X.env = (false, eval a X.env) :: starEach [b] X.env := by rfl) (hpl : (backTo pos2 (starEach [b] X.env)).any (·.1) = false := by rfl) :
    VN X (.Call (.Name "dict" p) [.Call (.Name "zip" p2) [a, b] [] pos2] [] pos) (fAp dzO ga) := by
  refine weakE (pe_dictZ hc hg hm hg2 hm2 ha hs hs2 hpl) fun σ H Q q => ?_
  obtain ⟨w, ρ, z, ρ', ok, ef, kk⟩ := q
  obtain ⟨⟨ds, ρ1⟩, e1, e2⟩ := Option.bind_eq_some_iff.mp ef
  obtain ⟨d2, e3, e4⟩ := Option.map_eq_some_iff.mp e2
  cases e4
  refine ⟨w, ρ, ds, ρ1, ok, e1, fun vs w1 H1 f1 ok1 r1 => ?_⟩
  unfold dzO at e3
  split at e3
  case h_2 => cases e3
  rename_i xd ys heq
  cases (show ds = [xd, .tup ys] from heq)
  obtain ⟨xs, h1, h2⟩ := Option.bind_eq_some_iff.mp e3
  split at h2
  case isFalse => cases h2
  rename_i hxl
  obtain ⟨ks, h3, h4⟩ := Option.map_eq_some_iff.mp h2
  cases r1 with
  | cons rx t =>
    cases t with
    | cons ry t =>
      cases t
      obtain ⟨s, us, rfl, hs', t1⟩ := src_of rx h1
      cases ry with
      | @tup bq ws _ q2 l2 t2 =>
        have x1 := t1.length
        have x2 := t2.length
        -- the keys and values side by side
        have tk : RepAll X.K w1.hs (us.take ys.length) (ks.map keyD) := by rw [← keysD_of h3]; exact t1.take _
        have hu : us.take ys.length = ks.map kV := rep_keys tk
        have kl : ks.length = min xs.length ys.length := by
          have := tk.length
          rw [List.length_take, List.length_map] at this
          omega
        have zl : (ks.zip (ws.take xs.length)).length = min xs.length ys.length := by
          rw [List.length_zip, List.length_take]; omega
        have z1 : (ks.zip (ws.take xs.length)).map (·.1) = ks := by
          rw [List.map_fst_zip]
          rw [List.length_take]; omega
        have z2 : (ks.zip (ws.take xs.length)).map (·.2) = ws.take xs.length := by
          by_cases hle : xs.length ≤ ys.length
          · rw [List.map_snd_zip]
            rw [List.length_take]; omega
          · rw [List.map_snd_zip]
            rw [List.length_take]; omega
        refine ⟨s, bq, us, ws, ks.zip (ws.take xs.length), rfl, hs' _ ok1.sub, .of (ok1.sub.tup q2), by omega, by rw [zl]; omega, fun j k v hj => ?_, ?_⟩
        · rw [List.getElem?_zip_eq_some] at hj
          obtain ⟨j1, j2⟩ := hj
          constructor
          · have : (us.take ys.length)[j]? = some (kV k) := by rw [hu, List.getElem?_map, j1]; rfl
            rw [List.getElem?_take] at this
            split at this
            · exact this
            · cases this
          · rw [List.getElem?_take] at j2
            split at j2
            · exact j2
            · cases j2
        · have rv : RepAll X.K w1.hs ((ks.zip (ws.take xs.length)).map (·.2)) (ys.take xs.length) := by rw [z2]; exact t2.take _
          obtain ⟨m1, m2⟩ := merge_rep (acc := []) rv .nil
          have ekd : ((ks.zip (ws.take xs.length)).map fun p => keyD p.1) = xs.take ys.length := by
            rw [keysD_of h3, ← z1, List.map_map, z1]; rfl
          rw [ekd] at m1 m2
          subst h4
          exact new_dK ok1 m1 m2 fun v' w' H' f' ok' r' => kk v' w' H' (f1.trans f') ok' (r'.old f1)
end
end VS
set_option autoImplicit false
namespace VS
open PySem PySem.Spec PyProof.Rows L2 AR
/-! ### a, b = x, y -/
/-- a value that waits to be stored -/
def Pend (K : PySem.W.Frag) (o : Bool) (w : Wd) (H0 H : Hp) (v : V) (d : D) (as : List Addr) : Prop := match o with
  | false => as = [] ∧ Rep K w.hs v d
  | true => (∀ a ∈ as, H0 a = none ∧ w.own a = none ∧ w.hs a = none ∧ ∃ o, H a = some o) ∧ ∀ (w' : Wd) (i : Nat), Same w.hs w'.hs → RepO K (w'.take i as) H i v d
section
variable {K : PySem.W.Frag} {w w' w0 : Wd} {ρ : En} {σ : L2.St} {H H' H0 : Hp} {v : V} {d : D} {as : List Addr} {o : Bool}
theorem Fresh.pend (r : Fresh K w H0 H v d) : ∃ as, Pend K true w H0 H v d as := by
  have one : ∀ {a : Addr} {P : Addr → Prop}, P a → ∀ b ∈ [a], P b := fun {a P} h b hb => by rw [List.mem_singleton.mp hb]; exact h
  cases r with
  | @lst a xs ds h0 hn hs h hl r => exact ⟨[a], one ⟨h0, hn, hs, _, h⟩, fun w' i s => .lst (Wd.take_in (List.mem_singleton_self a)) h hl (r.mono (.of s))⟩
  | @dK a kvs ks vs h0 hn hs h hk r => exact ⟨[a], one ⟨h0, hn, hs, _, h⟩, fun w' i s => .dK (Wd.take_in (List.mem_singleton_self a)) h hk (r.mono (.of s))⟩
  | @dT a kvs ks vs h0 hn hs h hk r => exact ⟨[a], one ⟨h0, hn, hs, _, h⟩, fun w' i s => .dT (Wd.take_in (List.mem_singleton_self a)) h hk (r.mono (.of s))⟩
  | @nums a xs h0 hn hs h => exact ⟨[a], one ⟨h0, hn, hs, _, h⟩, fun w' i s => .nums (fun z => nomatch z) (Wd.take_in (List.mem_singleton_self a)) h⟩
  | @flow b l ns s c b0 l0 bn ln bs ls ne hb hl hz =>
    refine ⟨[b, l], fun a ha => ?_, fun w' i s => .flow (fun z => nomatch z) (Wd.take_in (by simp)) (Wd.take_in (by simp)) ne hb hl hz⟩
    rcases List.mem_cons.mp ha with q | q
    · rw [q]; exact ⟨b0, bn, bs, _, hb⟩
    · rw [List.mem_singleton.mp q]; exact ⟨l0, ln, ls, _, hl⟩
theorem RepO.heap {i : Nat} {as : List Addr} (r : RepO K (w.take i as) H i v d) (h : ∀ a ∈ as, H' a = H a) (hn : ∀ a, w.own a = some i → H' a = H a) : RepO K (w.take i as) H' i v d :=
  r.keep ⟨rfl, rfl⟩ (Same.refl _) fun a ha => ⟨ha, by
    by_cases z : a ∈ as
    · exact h a z
    · rw [Wd.take_out z] at ha; exact hn a ha⟩
theorem Pend.fr (p : Pend K o w H0 H v d as) (f : Fr w H w' H') : Pend K o w' H0 H' v d as := by
  cases o with
  | false => exact ⟨p.1, p.2.mono (.of f.sh)⟩
  | true =>
    refine ⟨fun a ha => ?_, fun w2 i s => ?_⟩
    · obtain ⟨h1, h2, h3, u, h4⟩ := p.1 a ha
      obtain ⟨k1, k2, k3⟩ := f.kp a u h4 h2
      exact ⟨h1, k2, k3 h3, u, k1⟩
    · have r := p.2 ⟨w2.hs, fun _ => none, w2.me, w2.me2⟩ i (f.sh.trans s)
      have r' : RepO K (Wd.take ⟨w2.hs, fun _ => none, w2.me, w2.me2⟩ i as) H' i v d := r.heap (fun a ha => by
        obtain ⟨h1, h2, h3, u, h4⟩ := p.1 a ha
        rw [h4, (f.kp a u h4 h2).1]) fun a ha => nomatch ha
      refine r'.keep ⟨rfl, rfl⟩ (Same.refl _) fun a ha => ⟨?_, rfl⟩
      by_cases z : a ∈ as
      · exact Wd.take_in z
      · rw [Wd.take_out z] at ha; cases ha
/-- the slot's word -/
def slot (o : Bool) (d : D) : Sl := if o then .o d else .s d
theorem Pend.store (p : Pend K o w H0 H v d as) (i : Nat) (e : EnvOk K w ρ σ H) (f : Fr w0 H0 w H) : ∃ w', Fr w0 H0 w' H ∧ EnvOk K w' (ρ.set i (slot o d)) (σ.set i (some v)) H ∧ w'.hs = w.hs ∧ ∀ a, a ∉ as → w'.own a = w.own a := by
  cases o with
  | false => exact ⟨w, f, e.setS p.2, rfl, fun _ _ => rfl⟩
  | true =>
    obtain ⟨h1, h2⟩ := e.taken (i := i) f (fun a ha => (p.1 a ha).1) (fun a ha => (p.1 a ha).2.1) (fun a ha => (p.1 a ha).2.2.1) (fun a ha => (p.1 a ha).2.2.2) (p.2 w i (Same.refl _))
    exact ⟨w.take i as, h1, h2, rfl, fun a ha => Wd.take_out ha⟩
theorem Pend.own (p : Pend K o w H0 H v d as) (hs : w'.hs = w.hs) (ho : ∀ a ∈ as, w'.own a = w.own a) : Pend K o w' H0 H v d as := by
  cases o with
  | false => exact ⟨p.1, by rw [hs]; exact p.2⟩
  | true =>
    refine ⟨fun a ha => ?_, fun w2 i s => p.2 w2 i (by rw [← hs]; exact s)⟩
    obtain ⟨h1, h2, h3, h4⟩ := p.1 a ha
    exact ⟨h1, by rw [ho a ha]; exact h2, by rw [hs]; exact h3, h4⟩
theorem Pend.old {w1 : Wd} {H1 : Hp} (p : Pend K o w H1 H v d as) (f : Fr w0 H0 w1 H1) : Pend K o w H0 H v d as := by
  cases o with
  | false => exact p
  | true => exact ⟨fun a ha => ⟨f.free (p.1 a ha).1, (p.1 a ha).2⟩, p.2⟩
theorem Pend.apart {H1 : Hp} {o2 : Bool} {w2 : Wd} {H2 : Hp} {v2 : V} {d2 : D} {as2 : List Addr} (p : Pend K o w H0 H1 v d as) (q : Pend K o2 w2 H1 H2 v2 d2 as2) : ∀ a ∈ as2, a ∉ as := fun a ha hb => by
  cases o with
  | false => rw [p.1] at hb; cases hb
  | true =>
    cases o2 with
    | false => rw [q.1] at ha; cases ha
    | true =>
      obtain ⟨_, _, _, u, h⟩ := p.1 a hb
      rw [(q.1 a ha).1] at h; cases h
end
/-- new or shared -/
def tG (K : PySem.W.Frag) (o : Bool) (f : FE) : TE := fun σ H Q => ∃ w ρ d ρ', EnvOk K w ρ σ H ∧ f ρ = some (d, ρ') ∧ ∀ v as w' H', Fr w H w' H' → EnvOk K w' ρ' σ H' → Pend K o w' H H' v d as → Q v H'
abbrev VX (X : Cx) (e : Expr) (o : Bool) (f : FE) : Prop := PE X e (tG X.K o f)
section
variable {X : Cx} {a b c e : Expr} {f g h : FE} {pos : Pos} {i j l : Nat} {x y z : Str} {o1 o2 o3 : Bool}
theorem VE.vx (h : VE X e f) : VX X e false f := weakE h fun σ H Q q => by
  obtain ⟨w, ρ, d, ρ', ok, ef, k⟩ := q
  exact ⟨w, ρ, d, ρ', ok, ef, fun v w' H' fr ok' r => k v [] w' H' fr ok' ⟨rfl, r⟩⟩
theorem VN.vx (h : VN X e f) : VX X e true f := weakE h fun σ H Q q => by
  obtain ⟨w, ρ, d, ρ', ok, ef, k⟩ := q
  refine ⟨w, ρ, d, ρ', ok, ef, fun v w' H' fr ok' r => ?_⟩
  obtain ⟨as, p⟩ := r.pend
  exact k v as w' H' fr ok' p
def sPar (i j : Nat) (o1 o2 : Bool) (f g : FE) : FS := fun ρ => (f ρ).bind fun p => (g p.2).map fun q => .nx ((q.2.set i (slot o1 p.1)).set j (slot o2 q.1))
theorem vs_par {px py pt : Pos} {kt k2 pt2} (hc : X.calm = true) (hN : X.N.Nodup) (hi : X.N[i]? = some x) (hj : X.N[j]? = some y) (hij : i ≠ j)
    (hx : X.env.scope.names.lookup x = some .local) (hy : X.env.scope.names.lookup y = some .local) (ha : VX X a o1 f) (hb : VX X b o2 g)
    (hw : swappedStores [.Tuple [.Name x px, .Name y py] kt pt] (.Tuple [a, b] k2 pt2) X.env = pure (some [x, y]))
    (hs : swapsWithSole [.Tuple [.Name x px, .Name y py] kt pt] (.Tuple [a, b] k2 pt2) pos.line X.env = pure false := by rfl)
    (s1 : starEach [a, b] X.env = (false, eval a X.env) :: starEach [b] X.env := by rfl) (s2 : starEach [b] X.env = (false, eval b X.env) :: starEach [] X.env := by rfl) :
    VS1 X (.Assign [.Tuple [.Name x px, .Name y py] kt pt] (.Tuple [a, b] k2 pt2) pos) (sPar i j o1 o2 f g) := by
  refine weakS (ps_par hc hN hi hj hij hx hy (pa_cons ha (pa_cons hb pa_nil s2) s1) hw hs) fun E σ H q => ?_
  obtain ⟨w, ρ, ot, ok, ef, k⟩ := q
  obtain ⟨⟨d1, ρ1⟩, e1, e2⟩ := Option.bind_eq_some_iff.mp ef
  obtain ⟨⟨d2, ρ2⟩, e3, e4⟩ := Option.map_eq_some_iff.mp e2
  cases e4
  refine ⟨w, ρ, d1, ρ1, ok, e1, fun v as w1 H1 f1 ok1 p1 => ⟨w1, ρ1, d2, ρ2, ok1, e3, fun u bs w2 H2 f2 ok2 p2 => ⟨v, u, rfl, ?_⟩⟩⟩
  obtain ⟨w3, f3, ok3, h3, n3⟩ := (p1.fr f2).store i ok2 (f1.trans f2)
  obtain ⟨w4, f4, ok4, _, _⟩ := ((p2.old f1).own h3 fun a ha => n3 a (p1.apart p2 a ha)).store j ok3 f3
  exact k _ w4 H2 f4 ok4
def sPar3 (i j l : Nat) (o1 o2 o3 : Bool) (f g h : FE) : FS := fun ρ => (f ρ).bind fun p => (g p.2).bind fun q => (h q.2).map fun r => .nx (((r.2.set i (slot o1 p.1)).set j (slot o2 q.1)).set l (slot o3 r.1))
theorem vs_par3 {px py pz pt : Pos} {kt k2 pt2} (hc : X.calm = true) (hN : X.N.Nodup) (hi : X.N[i]? = some x) (hj : X.N[j]? = some y) (hl : X.N[l]? = some z) (hij : i ≠ j) (hil : i ≠ l) (hjl : j ≠ l)
    (hx : X.env.scope.names.lookup x = some .local) (hy : X.env.scope.names.lookup y = some .local) (hz : X.env.scope.names.lookup z = some .local) (ha : VX X a o1 f) (hb : VX X b o2 g) (hd : VX X c o3 h)
    (hw : swappedStores [.Tuple [.Name x px, .Name y py, .Name z pz] kt pt] (.Tuple [a, b, c] k2 pt2) X.env = pure (some [x, y, z]))
    (hs : swapsWithSole [.Tuple [.Name x px, .Name y py, .Name z pz] kt pt] (.Tuple [a, b, c] k2 pt2) pos.line X.env = pure false := by rfl)
    (s1 : starEach [a, b, c] X.env = (false, eval a X.env) :: starEach [b, c] X.env := by rfl) (s2 : starEach [b, c] X.env = (false, eval b X.env) :: starEach [c] X.env := by rfl) (s3 : starEach [c] X.env = (false, eval c X.env) :: starEach [] X.env := by rfl) :
    VS1 X (.Assign [.Tuple [.Name x px, .Name y py, .Name z pz] kt pt] (.Tuple [a, b, c] k2 pt2) pos) (sPar3 i j l o1 o2 o3 f g h) := by
  refine weakS (ps_par3 hc hN hi hj hl hij hil hjl hx hy hz (pa_cons ha (pa_cons hb (pa_cons hd pa_nil s3) s2) s1) hw hs) fun E σ H q => ?_
  obtain ⟨w, ρ, ot, ok, ef, k⟩ := q
  obtain ⟨⟨d1, ρ1⟩, e1, e2⟩ := Option.bind_eq_some_iff.mp ef
  obtain ⟨⟨d2, ρ2⟩, e3, e4⟩ := Option.bind_eq_some_iff.mp e2
  obtain ⟨⟨d3, ρ3⟩, e5, e6⟩ := Option.map_eq_some_iff.mp e4
  cases e6
  refine ⟨w, ρ, d1, ρ1, ok, e1, fun v as w1 H1 f1 ok1 p1 => ⟨w1, ρ1, d2, ρ2, ok1, e3, fun u bs w2 H2 f2 ok2 p2 => ⟨w2, ρ2, d3, ρ3, ok2, e5, fun t cs w3 H3 f3 ok3 p3 => ⟨v, u, t, rfl, ?_⟩⟩⟩⟩
  have p1' := p1.fr f2
  have f12 := f1.trans f2
  obtain ⟨w4, f4, ok4, h4, n4⟩ := (p1'.fr f3).store i ok3 (f12.trans f3)
  have q2 : Pend X.K o2 w3 H H3 u d2 bs := (p2.old f1).fr f3
  have q3 : Pend X.K o3 w3 H H3 t d3 cs := p3.old f12
  obtain ⟨w5, f5, ok5, h5, n5⟩ := (q2.own h4 fun a ha => n4 a (p1.apart p2 a ha)).store j ok4 f4
  obtain ⟨w6, f6, ok6, _, _⟩ := (q3.own (h5.trans h4) fun a ha => (n5 a (p2.apart p3 a ha)).trans (n4 a (p1'.apart p3 a ha))).store l ok5 f5
  exact k _ w6 H3 f6 ok6
/-! ### x += e -/
def sAug (op : D → D → Option D) (i : Nat) (f : FE) : FS := fun ρ => if hasSl ρ i then (f ρ).bind fun p => match p.2[i]? with
  | some (Sl.s d) => (op d p.1).map fun r => .nx (p.2.set i (Sl.s r))
  | _ => none
  else none
def addI : D → D → Option D
  | .int i, .int j => some (.int (i + j))
  | _, _ => none
theorem vs_augI {pos' : Pos} (hN : X.N.Nodup) (hi : X.N[i]? = some x) (hx : Loc X.env.scope x) (h : VE X e f) (hf : X.fn x = true ∨ X.env.scope.names.lookup x = some .local := by first | exact .inl rfl | exact .inr rfl | assumption) :
    VS1 X (.AugAssign (.Name x pos') .Add e pos) (sAug addI i f) := by
  refine weakS (ps_aug hN hi hx h ip_add hf) fun E σ H q => ?_
  obtain ⟨w, ρ, ot, ok, ef, k⟩ := q
  unfold sAug at ef
  split at ef
  case isFalse => cases ef
  rename_i hsl
  obtain ⟨v0, hv0⟩ := ok.has hsl
  obtain ⟨⟨d, ρ1⟩, e1, e2⟩ := Option.bind_eq_some_iff.mp ef
  refine ⟨v0, hv0, w, ρ, d, ρ1, ok, e1, fun u w1 H1 f1 ok1 r1 => ?_⟩
  split at e2
  · rename_i d0 e3
    obtain ⟨r, e4, e5⟩ := Option.map_eq_some_iff.mp e2
    cases e5
    obtain ⟨v, hv, rv⟩ := ok1.sh i _ e3
    rw [hv0] at hv
    cases hv
    cases d0 <;> try (cases e4; done)
    cases d <;> try (cases e4; done)
    cases e4
    cases rv
    cases r1
    exact ⟨_, _, rfl, rfl, k _ w1 H1 f1 (ok1.setS (.int _))⟩
  · cases e2
/-! ### a < b < c -/
def fCh (o o' : D → D → Option D) (f g h : FE) : FE := fun ρ => (f ρ).bind fun p => (g p.2).bind fun q => (o p.1 q.1).bind fun d => match d with
  | .bl true => (h q.2).bind fun r => (o' q.1 r.1).map fun d => (d, r.2)
  | .bl false => some (.bl false, q.2)
  | _ => none
theorem ve_chain {op op' : CmpOp} {ι ι' : Type} {r : ι → R2} {r' : ι' → R2} {o o' : D → D → Option D} (c1 : CmpV X op r o) (c2 : CmpV X op' r' o') [Inhabited ι'] (ha : VE X a f) (hb : VE X b g) (hd : VE X c h) (hm : lastMarks [op, op'] [b, c] = false := by with_unfolding_all rfl) :
    VE X (.Compare a [op, op'] [b, c] pos) (fCh o o' f g h) := by
  refine orE (ι := ι × ι') (fun i => pe_chain (c1.rule i.1) (c2.rule i.2) ha hb hd hm) fun σ H Q q => ?_
  obtain ⟨w, ρ, d, ρ', ok, ef, k⟩ := q
  obtain ⟨⟨d1, ρ1⟩, e1, e2⟩ := Option.bind_eq_some_iff.mp ef
  obtain ⟨⟨d2, ρ2⟩, e3, e4⟩ := Option.bind_eq_some_iff.mp e2
  obtain ⟨d12, e5, e6⟩ := Option.bind_eq_some_iff.mp e4
  obtain ⟨i1, k1⟩ := c1.kv.kb d1 d2 d12 e5
  split at e6
  · obtain ⟨⟨d3, ρ3⟩, e7, e8⟩ := Option.bind_eq_some_iff.mp e6
    obtain ⟨d', e9, e10⟩ := Option.map_eq_some_iff.mp e8
    cases e10
    obtain ⟨i2, k2⟩ := c2.kv.kb d2 d3 d e9
    refine ⟨(i1, i2), w, ρ, d1, ρ1, ok, e1, fun v w1 H1 f1 ok1 r1 => ⟨w1, ρ1, d2, ρ2, ok1, e3, fun u w2 H2 f2 ok2 r2 => k1 w2 ρ2 σ H2 v u _ ok2 (r1.mono (.of f2.sh)) r2 fun b w3 H3 f3 ok3 r3 => ?_⟩⟩
    cases r3
    refine ⟨true, rfl, ?_⟩
    rw [if_pos rfl]
    exact ⟨w3, ρ2, d3, ρ3, ok3, e7, fun t w4 H4 f4 ok4 r4 => k2 w4 ρ3 σ H4 u t Q ok4 (r2.mono (.of (f3.trans f4).sh)) r4 fun v' w' H' f' ok' r' => k v' w' H' (f1.trans (f2.trans (f3.trans (f4.trans f')))) ok' r'⟩
  · cases e6
    refine ⟨(i1, default), w, ρ, d1, ρ1, ok, e1, fun v w1 H1 f1 ok1 r1 => ⟨w1, ρ1, d2, ρ2, ok1, e3, fun u w2 H2 f2 ok2 r2 => k1 w2 ρ2 σ H2 v u _ ok2 (r1.mono (.of f2.sh)) r2 fun b w3 H3 f3 ok3 r3 => ?_⟩⟩
    cases r3
    refine ⟨false, rfl, ?_⟩
    rw [if_neg (by decide)]
    exact k _ w3 H3 (f1.trans (f2.trans f3)) ok3 (.bl _)
  · cases e6
theorem vt_chain {op op' : CmpOp} {ι ι' : Type} {r : ι → R2} {r' : ι' → R2} {o o' : D → D → Option D} (c1 : CmpV X op r o) (c2 : CmpV X op' r' o') [Inhabited ι'] (ha : VE X a f) (hb : VE X b g) (hd : VE X c h) (hm : lastMarks [op, op'] [b, c] = false := by with_unfolding_all rfl) :
    VT X (.Compare a [op, op'] [b, c] pos) (tF blD (fCh o o' f g h)) := by
  refine ⟨fun pins s σ H Q I q => ?_⟩
  obtain ⟨w, ρ, bb, ρ', ok, ef, k⟩ := q
  obtain ⟨⟨d, ρ9⟩, e0, e99⟩ := Option.bind_eq_some_iff.mp ef
  obtain ⟨b2, e97, e98⟩ := Option.map_eq_some_iff.mp e99
  cases e98
  obtain ⟨⟨d1, ρ1⟩, e1, e2⟩ := Option.bind_eq_some_iff.mp e0
  obtain ⟨⟨d2, ρ2⟩, e3, e4⟩ := Option.bind_eq_some_iff.mp e2
  obtain ⟨d12, e5, e6⟩ := Option.bind_eq_some_iff.mp e4
  obtain ⟨i1, k1⟩ := c1.kv.kb d1 d2 d12 e5
  split at e6
  · obtain ⟨⟨d3, ρ3⟩, e7, e8⟩ := Option.bind_eq_some_iff.mp e6
    obtain ⟨d', e9, e10⟩ := Option.map_eq_some_iff.mp e8
    cases e10
    obtain ⟨i2, k2⟩ := c2.kv.kb d2 d3 d e9
    refine (pt_chain (c1.rule i1) (c2.rule i2) ha hb hd hm).run pins s σ H Q I ⟨w, ρ, d1, ρ1, ok, e1, fun v w1 H1 f1 ok1 r1 => ⟨w1, ρ1, d2, ρ2, ok1, e3, fun u w2 H2 f2 ok2 r2 => k1 w2 ρ2 σ H2 v u _ ok2 (r1.mono (.of f2.sh)) r2 fun b w3 H3 f3 ok3 r3 => ?_⟩⟩
    cases r3
    refine ⟨true, rfl, ?_⟩
    rw [if_pos rfl]
    refine ⟨w3, ρ2, d3, ρ3, ok3, e7, fun t w4 H4 f4 ok4 r4 => k2 w4 ρ3 σ H4 u t _ ok4 (r2.mono (.of (f3.trans f4).sh)) r4 fun v' w' H' f' ok' r' => ?_⟩
    cases d <;> cases e97
    cases r'
    exact ⟨bb, rfl, k w' H' (f1.trans (f2.trans (f3.trans (f4.trans f')))) ok'⟩
  · cases e6
    cases e97
    refine (pt_chain (c1.rule i1) (c2.rule default) ha hb hd hm).run pins s σ H Q I ⟨w, ρ, d1, ρ1, ok, e1, fun v w1 H1 f1 ok1 r1 => ⟨w1, ρ1, d2, ρ2, ok1, e3, fun u w2 H2 f2 ok2 r2 => k1 w2 ρ2 σ H2 v u _ ok2 (r1.mono (.of f2.sh)) r2 fun b w3 H3 f3 ok3 r3 => ?_⟩⟩
    cases r3
    refine ⟨false, rfl, ?_⟩
    rw [if_neg (by decide)]
    exact ⟨false, rfl, k w3 H3 (f1.trans (f2.trans f3)) ok3⟩
  · cases e6
end
end VS
set_option autoImplicit false
namespace VS
open PySem PySem.Spec PyProof.Rows L2 AR
/-! ### {k: v for target in iter if test} -/
def dcL (us : List Nat) (fg : FG) (fc : FT) (fk fv : FE) : List D → En → List D → List D → Option ((List D × List D) × En)
  | [], ρ, ks, vs => some ((ks, vs), ρ)
  | x :: xs, ρ, ks, vs => (fg x (wipeE ρ us)).bind fun ρ1 => (fc ρ1).bind fun p => if p.1 then (fk p.2).bind fun q => (fv q.2).bind fun r => if ks.length < sizeLine then (keyOf q.1).bind fun _ => dcL us fg fc fk fv xs r.2 (dputK ks q.1) (dputV ks vs q.1 r.1) else none
      else dcL us fg fc fk fv xs p.2 ks vs
def fDC (us : List Nat) (fi : FI) (fg : FG) (fc : FT) (fk fv : FE) : FE := fun ρ => (fi ρ).bind fun p => (dcL us fg fc fk fv p.1 p.2 [] []).map fun q => (.dct 0 q.1.1 q.1.2, wipeE q.2 us)
section
variable {K : PySem.W.Frag} {us : List Nat} {fi : FI} {fg : FG} {fc : FT} {fk fv : FE}
theorem dc_read {σ : L2.St} {H : Hp} {Q : VK} (q : tN K (fDC us fi fg fc fk fv) σ H Q) : tDc (tIt K fi) (tGt K us fg) (tTb K fc) (tV K fk) (tV K fv) us σ H Q := by
  obtain ⟨w, ρ, d, ρ', ok, ef, k⟩ := q
  obtain ⟨⟨ds, ρ1⟩, e1, e2⟩ := Option.bind_eq_some_iff.mp ef
  obtain ⟨⟨⟨tk, tv⟩, ρ2⟩, e3, e4⟩ := Option.map_eq_some_iff.mp e2
  cases e4
  refine ⟨w, ρ, ds, ρ1, ok, e1, fun J w1 H1 f1 ok1 it => ?_⟩
  obtain ⟨G, Y, wk, hG, hY⟩ := it
  intro A hA
  obtain ⟨hA1, hA2⟩ := ok1.free hA
  let P : Nat → Hp → Prop := fun i H' => ∃ w' ρ' kvs vs, Fr w1 H1 w' H' ∧ EnvOk K w' (wipeE ρ' us) (wipe σ us) H' ∧ H' A = some (.dK kvs) ∧ RepAll K w'.hs (kvs.map (·.2)) vs ∧ w'.own A = none ∧ w'.hs A = none ∧ dcL us fg fc fk fv (ds.drop i) ρ' (kvs.map fun p => keyD p.1) vs = some ((tk, tv), ρ2)
  refine ⟨fun i m H' => m = ds.length - i ∧ i ≤ ds.length ∧ P i H', ⟨ds.length, by simp, Nat.zero_le _, ?_⟩, ?_⟩
  · obtain ⟨f2, ok2⟩ := ok1.tmp (o := .dK []) hA (fun _ z => nomatch z)
    exact ⟨w1, ρ1, [], [], f2, (ok2.wipe (us := us) (σ := σ) rfl).wipe wipe_wipe.symm |> (fun z => by rw [wipeE_wipeE] at z; exact z), upd_same, .nil, hA2, hA1, e3⟩
  · rintro i m H' ⟨rfl, hi, w', ρ', kvs, vs, f', ok', hD, hr, ho, hh, el⟩
    have gH : G H' := hG _ fun a o q => ok'.sub a o (f'.sh a o q)
    by_cases hlt : i < ds.length
    · refine .inr ⟨wk.goes i H' hlt gH, P (i + 1), fun H2 h2 => ⟨ds.length - (i + 1), by omega, rfl, by omega, h2⟩, fun x H'' y => ?_⟩
      have hd : ds[i]? = some ds[i] := List.getElem?_eq_getElem hlt
      obtain ⟨w2, f2, ok2, r2⟩ := Ity.yield (ds := ds) (i := i) ok' f'.sh (hY i H' x H'' _ (wk.yields i H' x H'' hlt gH y) hd)
      rw [List.drop_eq_getElem_cons hlt] at el
      obtain ⟨ρ3, e7, e8⟩ := Option.bind_eq_some_iff.mp el
      obtain ⟨⟨b, ρ4⟩, e9, e10⟩ := Option.bind_eq_some_iff.mp e8
      refine ⟨w2, wipeE ρ' us, ds[i], ρ3, ok2, r2, e7, fun σ3 hw ok3 => ⟨hw.trans wipe_wipe, w2, ρ3, b, ρ4, ok3, e9, fun w4 H4 f4 ok4 => ?_⟩⟩
      rw [wipe_wipe] at hw
      have f24 := f2.trans f4
      obtain ⟨hD4, ho4, hh4⟩ := f24.kp A _ hD ho
      have hr4 := hr.mono (.of f24.sh)
      cases b with
      | false =>
        refine i_if0 ?_
        exact ⟨w4, ρ4, kvs, vs, f'.trans f24, ok4.wipe (by rw [hw, wipe_wipe]), hD4, hr4, ho4, hh4 hh, e10⟩
      | true =>
        refine i_it ?_
        obtain ⟨⟨kd, ρ5⟩, e11, e12⟩ := Option.bind_eq_some_iff.mp (show (fk ρ4).bind _ = some ((tk, tv), ρ2) from e10)
        obtain ⟨⟨vd, ρ6⟩, e13, e14⟩ := Option.bind_eq_some_iff.mp e12
        refine ⟨w4, ρ4, kd, ρ5, ok4, e11, fun v w5 H5 f5 ok5 r5 => ⟨w5, ρ5, vd, ρ6, ok5, e13, fun u w6 H6 f6 ok6 r6 => ?_⟩⟩
        split at e14
        case isFalse => cases e14
        rename_i hsz
        obtain ⟨ky, e15, e16⟩ := Option.bind_eq_some_iff.mp e14
        have ez := keyD_of e15
        have ez' : kd = keyD ky := ez
        subst ez'
        have f56 := f5.trans f6
        obtain ⟨hD5, ho5, hh5⟩ := f56.kp A _ hD4 ho4
        have hr5 := hr4.mono (.of f56.sh)
        obtain ⟨m1, m2⟩ := dput_put (kd := keyD) (fun _ _ => keyD_inj) r6 ky hr5
        have e16' : dcL us fg fc fk fv (ds.drop (i + 1)) ρ6 (dputK (kvs.map fun p => keyD p.1) (keyD ky)) (dputV (kvs.map fun p => keyD p.1) vs (keyD ky) vd) = some ((tk, tv), ρ2) := e16
        rw [m1] at e16'
        refine ⟨kvs, ky, rep_key (r5.mono (.of f6.sh)), hD5, by rw [List.length_map] at hsz; exact hsz, w6, ρ6, putK kvs ky u, _, ((f'.trans f24).trans f56).chg hA, (ok6.wipe (us := us) (σ := wipe σ us) (by rw [hw, wipe_wipe])).chg hD5 ho5 (hh5 (hh4 hh)) (fun _ z => nomatch z), upd_same, m2, ho5, hh5 (hh4 hh), e16'⟩
    · have ei : i = ds.length := by omega
      subst ei
      rw [List.drop_length] at el
      cases el
      exact .inl ⟨wk.stops H' gH, k _ w' H' (f1.trans f') (ok'.wipe wipe_wipe |> fun z => by rw [wipeE_wipeE] at z; exact z) (.dK (f1.free hA) ho hh hD rfl hr)⟩
theorem fDC_nb : ∀ ρ d ρ', fDC us fi fg fc fk fv ρ = some (d, ρ') → d.isBox = false := fun ρ d ρ' h => by
  obtain ⟨⟨ds, ρ1⟩, e1, e2⟩ := Option.bind_eq_some_iff.mp h
  obtain ⟨⟨⟨tk, tv⟩, ρ2⟩, e3, e4⟩ := Option.map_eq_some_iff.mp e2
  cases e4
  rfl
end
section
variable {X : Cx} {kx vx tg iter : Expr} {ifs : List Expr} {scope : Scope} {own : List (Str × Nat)} {pos : Pos} {fi : FI} {fg : FG} {fc : FT} {fk fv : FE} {us : List Nat}
theorem vn_dc (hc : X.calm = true) (hN : X.N.Nodup) (hu : own.map (·.2) = us) (hi : VI X tg iter fi) (ok : BlkOk X.N X.env.scope scope own)
    (hg : ∀ (s : Shared) (H : Hp) (C : Addr) (cl : List (Str × Addr)) (fp : List Addr), VG (X.blk s H scope (compEnvC scope cl C X.env) fp) tg us fg) (ht : ∀ (s : Shared) (H : Hp) (C : Addr) (cl : List (Str × Addr)) (fp : List Addr), VTs (X.blk s H scope (compEnvC scope cl C X.env) fp) ifs fc)
    (hk : ∀ (s : Shared) (H : Hp) (C : Addr) (cl : List (Str × Addr)) (fp : List Addr), VE (X.blk s H scope (compEnvC scope cl C X.env) fp) kx fk)
    (he : ∀ (s : Shared) (H : Hp) (C : Addr) (cl : List (Str × Addr)) (fp : List Addr), VE (X.blk s H scope (compEnvC scope cl C X.env) fp) vx fv) (hs : ∀ x, foldedSetIterable iter X.env x = pure x := by intro _; rfl) :
    VN X (.DictComp kx vx [⟨tg, iter, ifs, 0⟩] scope pos) (fDC us fi fg fc fk fv) := by
  subst hu
  exact weakE (pe_dc (g := tGt X.K (own.map (·.2)) fg) (tt := tTb X.K fc) (tk := tV X.K fk) (tv := tV X.K fv) hc hN hi ok hg ht hk he hs) fun σ H Q q => dc_read q
end
/-! ### {(..): v for t1 in i1 for t2 in i2} -/
def inL (us : List Nat) (gj : FG) (tj : FT) (fk fv : FE) : List D → En → List D → List D → Option ((List D × List D) × En)
  | [], ρ, ks, vs => some ((ks, vs), ρ)
  | x :: xs, ρ, ks, vs => (gj x (wipeE ρ us)).bind fun ρ1 => (tj ρ1).bind fun p => if p.1 then (fk p.2).bind fun q => (fv q.2).bind fun r => if ks.length < sizeLine then (keyTOf q.1).bind fun _ => inL us gj tj fk fv xs r.2 (dputK ks q.1) (dputV ks vs q.1 r.1) else none
      else inL us gj tj fk fv xs p.2 ks vs
def dcL2 (vs us : List Nat) (fg : FG) (fc : FT) (fj : FI) (gj : FG) (tj : FT) (fk fv : FE) : List D → En → List D → List D → Option ((List D × List D) × En)
  | [], ρ, ks, ds => some ((ks, ds), ρ)
  | x :: xs, ρ, ks, ds => (fg x (wipeE ρ vs)).bind fun ρ1 => (fc ρ1).bind fun p => if p.1 then (fj p.2).bind fun q => (inL us gj tj fk fv q.1 q.2 ks ds).bind fun r => dcL2 vs us fg fc fj gj tj fk fv xs r.2 r.1.1 r.1.2
      else dcL2 vs us fg fc fj gj tj fk fv xs p.2 ks ds
def fDC2 (vs us : List Nat) (fi : FI) (fg : FG) (fc : FT) (fj : FI) (gj : FG) (tj : FT) (fk fv : FE) : FE := fun ρ => (fi ρ).bind fun p => (dcL2 vs us fg fc fj gj tj fk fv p.1 p.2 [] []).map fun q => (.dct 1 q.1.1 q.1.2, wipeE q.2 vs)
theorem wipe_sub {σ : L2.St} {vs us : List Nat} (h : ∀ i ∈ us, i ∈ vs) : wipe (wipe σ us) vs = wipe σ vs := by
  apply List.ext_getElem?
  intro j
  by_cases hj : j ∈ vs
  · by_cases hl : j < σ.length
    · rw [wipe_in hj hl, wipe_in hj (by rw [wipe_length]; exact hl)]
    · rw [List.getElem?_eq_none (by rw [wipe_length, wipe_length]; omega), List.getElem?_eq_none (by rw [wipe_length]; omega)]
  · rw [wipe_get hj, wipe_get hj, wipe_get (fun z => hj (h j z))]
theorem wipeE_sub {ρ : En} {vs us : List Nat} (h : ∀ i ∈ us, i ∈ vs) : wipeE (wipeE ρ us) vs = wipeE ρ vs := by
  apply List.ext_getElem?
  intro j
  by_cases hj : j ∈ vs
  · by_cases hl : j < ρ.length
    · rw [wipeE_in hj hl, wipeE_in hj (by rw [wipeE_length]; exact hl)]
    · rw [List.getElem?_eq_none (by rw [wipeE_length, wipeE_length]; omega), List.getElem?_eq_none (by rw [wipeE_length]; omega)]
  · rw [wipeE_get hj, wipeE_get hj, wipeE_get (fun z => hj (h j z))]
section
variable {K : PySem.W.Frag} {vs us : List Nat} {fi : FI} {fg : FG} {fc : FT} {fj : FI} {gj : FG} {tj : FT} {fk fv : FE}
theorem dc2_read (hv : ∀ i ∈ us, i ∈ vs) {σ : L2.St} {H : Hp} {Q : VK} (q : tN K (fDC2 vs us fi fg fc fj gj tj fk fv) σ H Q) : tDc2 (tIt K fi) (tGt K vs fg) (tTb K fc) (tIt K fj) (tGt K us gj) (tTb K tj) (tV K fk) (tV K fv) vs us σ H Q := by
  obtain ⟨w, ρ, d, ρ', ok, ef, k⟩ := q
  obtain ⟨⟨ds, ρ1⟩, e1, e2⟩ := Option.bind_eq_some_iff.mp ef
  obtain ⟨⟨⟨tk, tv⟩, ρ2⟩, e3, e4⟩ := Option.map_eq_some_iff.mp e2
  cases e4
  refine ⟨w, ρ, ds, ρ1, ok, e1, fun J w1 H1 f1 ok1 it => ?_⟩
  obtain ⟨G, Y, wk, hG, hY⟩ := it
  intro A hA
  obtain ⟨hA1, hA2⟩ := ok1.free hA
  let P : Nat → Hp → Prop := fun i H' => ∃ w' ρ' kvs dv, Fr w1 H1 w' H' ∧ EnvOk K w' (wipeE ρ' vs) (wipe σ vs) H' ∧ H' A = some (.dT kvs) ∧ RepAll K w'.hs (kvs.map (·.2)) dv ∧ w'.own A = none ∧ w'.hs A = none ∧ dcL2 vs us fg fc fj gj tj fk fv (ds.drop i) ρ' (kvs.map fun p => keyT p.1) dv = some ((tk, tv), ρ2)
  refine ⟨fun i m H' => m = ds.length - i ∧ i ≤ ds.length ∧ P i H', ⟨ds.length, by simp, Nat.zero_le _, ?_⟩, ?_⟩
  · obtain ⟨f2, ok2⟩ := ok1.tmp (o := .dT []) hA (fun _ z => nomatch z)
    exact ⟨w1, ρ1, [], [], f2, (ok2.wipe (us := vs) (σ := σ) rfl).wipe wipe_wipe.symm |> (fun z => by rw [wipeE_wipeE] at z; exact z), upd_same, .nil, hA2, hA1, e3⟩
  · rintro i m H' ⟨rfl, hi, w', ρ', kvs, dv, f', ok', hD, hr, ho, hh, el⟩
    have gH : G H' := hG _ fun a o q => ok'.sub a o (f'.sh a o q)
    by_cases hlt : i < ds.length
    · refine .inr ⟨wk.goes i H' hlt gH, P (i + 1), fun H2 h2 => ⟨ds.length - (i + 1), by omega, rfl, by omega, h2⟩, fun x H'' y => ?_⟩
      have hd : ds[i]? = some ds[i] := List.getElem?_eq_getElem hlt
      obtain ⟨w2, f2, ok2, r2⟩ := Ity.yield (ds := ds) (i := i) ok' f'.sh (hY i H' x H'' _ (wk.yields i H' x H'' hlt gH y) hd)
      rw [List.drop_eq_getElem_cons hlt] at el
      obtain ⟨ρ3, e7, e8⟩ := Option.bind_eq_some_iff.mp el
      obtain ⟨⟨b, ρ4⟩, e9, e10⟩ := Option.bind_eq_some_iff.mp e8
      refine ⟨w2, wipeE ρ' vs, ds[i], ρ3, ok2, r2, e7, fun σ3 hw ok3 => ⟨hw.trans wipe_wipe, w2, ρ3, b, ρ4, ok3, e9, fun w4 H4 f4 ok4 => ?_⟩⟩
      rw [wipe_wipe] at hw
      have f24 := f2.trans f4
      obtain ⟨hD4, ho4, hh4⟩ := f24.kp A _ hD ho
      have hr4 := hr.mono (.of f24.sh)
      cases b with
      | false =>
        refine i_if0 ?_
        exact ⟨w4, ρ4, kvs, dv, f'.trans f24, ok4.wipe (by rw [hw, wipe_wipe]), hD4, hr4, ho4, hh4 hh, e10⟩
      | true =>
        refine i_it ?_
        obtain ⟨⟨js, ρ5⟩, e11, e12⟩ := Option.bind_eq_some_iff.mp (show (fj ρ4).bind _ = some ((tk, tv), ρ2) from e10)
        obtain ⟨⟨⟨ik, iv⟩, ρ6⟩, e13, e14⟩ := Option.bind_eq_some_iff.mp e12
        refine ⟨w4, ρ4, js, ρ5, ok4, e11, fun L w5 H5 f5 ok5 it2 => ?_⟩
        obtain ⟨G2, Y2, wk2, hG2, hY2⟩ := it2
        obtain ⟨hD5, ho5, hh5⟩ := f5.kp A _ hD4 ho4
        have hr5 := hr4.mono (.of f5.sh)
        have f15 := (f'.trans f24).trans f5
        let P2 : Nat → Hp → Prop := fun j H' => ∃ w' ρ' kvs dv, Same w5.hs w'.hs ∧ EnvOk K w' (wipeE ρ' us) (wipe σ3 us) H' ∧ H' A = some (.dT kvs) ∧ RepAll K w'.hs (kvs.map (·.2)) dv ∧ w'.own A = none ∧ w'.hs A = none ∧ inL us gj tj fk fv (js.drop j) ρ' (kvs.map fun p => keyT p.1) dv = some ((ik, iv), ρ6) ∧ Fr w1 H1 w' H'
        refine ⟨fun j m H' => m = js.length - j ∧ j ≤ js.length ∧ P2 j H', ⟨js.length, by simp, Nat.zero_le _, ?_⟩, ?_⟩
        · exact ⟨w5, ρ5, kvs, dv, Same.refl _, (ok5.wipe (us := us) (σ := σ3) rfl).wipe wipe_wipe.symm |> (fun z => by rw [wipeE_wipeE] at z; exact z), hD5, hr5, ho5, hh5 (hh4 hh), e13, f15⟩
        · rintro j m2 H6 ⟨rfl, hj, w6, ρ7, kvs6, dv6, f6, ok6, hD6, hr6, ho6, hh6, el6, f16⟩
          have gH6 : G2 H6 := hG2 _ fun a o q => ok6.sub a o (f6 a o q)
          by_cases hlt2 : j < js.length
          · refine .inr ⟨wk2.goes j H6 hlt2 gH6, P2 (j + 1), fun H2 h2 => ⟨js.length - (j + 1), by omega, rfl, by omega, h2⟩, fun x2 H7 y2 => ?_⟩
            have hd2 : js[j]? = some js[j] := List.getElem?_eq_getElem hlt2
            obtain ⟨w7, f7, ok7, r7⟩ := Ity.yield (ds := js) (i := j) ok6 f6 (hY2 j H6 x2 H7 _ (wk2.yields j H6 x2 H7 hlt2 gH6 y2) hd2)
            rw [List.drop_eq_getElem_cons hlt2] at el6
            obtain ⟨ρ8, e17, e18⟩ := Option.bind_eq_some_iff.mp el6
            obtain ⟨⟨b2, ρ9⟩, e19, e20⟩ := Option.bind_eq_some_iff.mp e18
            refine ⟨w7, wipeE ρ7 us, js[j], ρ8, ok7, r7, e17, fun σ8 hw8 ok8 => ⟨hw8.trans wipe_wipe, w7, ρ8, b2, ρ9, ok8, e19, fun w9 H9 f9 ok9 => ?_⟩⟩
            rw [wipe_wipe] at hw8
            have f79 := f7.trans f9
            obtain ⟨hD9, ho9, hh9⟩ := f79.kp A _ hD6 ho6
            have hr9 := hr6.mono (.of f79.sh)
            cases b2 with
            | false =>
              refine i_if0 ?_
              exact ⟨w9, ρ9, kvs6, dv6, f6.trans f79.sh, ok9.wipe (by rw [hw8, wipe_wipe]), hD9, hr9, ho9, hh9 hh6, e20, f16.trans f79⟩
            | true =>
              refine i_it ?_
              obtain ⟨⟨kd, ρ10⟩, e21, e22⟩ := Option.bind_eq_some_iff.mp (show (fk ρ9).bind _ = some ((ik, iv), ρ6) from e20)
              obtain ⟨⟨vd, ρ11⟩, e23, e24⟩ := Option.bind_eq_some_iff.mp e22
              refine ⟨w9, ρ9, kd, ρ10, ok9, e21, fun v w10 H10 f10 ok10 r10 => ⟨w10, ρ10, vd, ρ11, ok10, e23, fun u w11 H11 f11 ok11 r11 => ?_⟩⟩
              split at e24
              case isFalse => cases e24
              rename_i hsz
              obtain ⟨ky, e25, e26⟩ := Option.bind_eq_some_iff.mp e24
              have ez' : kd = keyT ky := keyT_of e25
              subst ez'
              have fa := f10.trans f11
              obtain ⟨hDa, hoa, hha⟩ := fa.kp A _ hD9 ho9
              have hra := hr9.mono (.of fa.sh)
              obtain ⟨m1, m2⟩ := dput_put (kd := keyT) (fun _ _ => keyT_inj) r11 ky hra
              have e26' : inL us gj tj fk fv (js.drop (j + 1)) ρ11 (dputK (kvs6.map fun p => keyT p.1) (keyT ky)) (dputV (kvs6.map fun p => keyT p.1) dv6 (keyT ky) vd) = some ((ik, iv), ρ6) := e26
              rw [m1] at e26'
              obtain ⟨bq, rfl, hbq⟩ := rep_keyT (r10.mono (.of f11.sh))
              refine ⟨kvs6, ky, bq, rfl, ok11.sub.tup hbq, hDa, by rw [List.length_map] at hsz; exact hsz, w11, ρ11, putK kvs6 ky u, _, f6.trans (f79.trans fa).sh, (ok11.wipe (us := us) (σ := wipe σ3 us) (by rw [hw8, wipe_wipe])).chg hDa hoa (hha (hh9 hh6)) (fun _ z => nomatch z), upd_same, m2, hoa, hha (hh9 hh6), e26', ((f16.trans f79).trans fa).chg hA⟩
          · have ej : j = js.length := by omega
            subst ej
            rw [List.drop_length] at el6
            cases el6
            refine .inl ⟨wk2.stops H6 gH6, w6, _, kvs6, _, f16, ?_, hD6, hr6, ho6, hh6, e14⟩
            have := ok6.wipe (us := vs) (σ := wipe σ vs) (by rw [wipe_sub hv, hw, wipe_wipe])
            rw [wipeE_sub hv] at this
            exact this
    · have ei : i = ds.length := by omega
      subst ei
      rw [List.drop_length] at el
      cases el
      exact .inl ⟨wk.stops H' gH, k _ w' H' (f1.trans f') (ok'.wipe wipe_wipe |> fun z => by rw [wipeE_wipeE] at z; exact z) (.dT (f1.free hA) ho hh hD rfl hr)⟩
theorem fDC2_nb : ∀ ρ d ρ', fDC2 vs us fi fg fc fj gj tj fk fv ρ = some (d, ρ') → d.isBox = false := fun ρ d ρ' h => by
  obtain ⟨⟨ds, ρ1⟩, e1, e2⟩ := Option.bind_eq_some_iff.mp h
  obtain ⟨⟨⟨tk, tv⟩, ρ2⟩, e3, e4⟩ := Option.map_eq_some_iff.mp e2
  cases e4
  rfl
end
section
variable {X : Cx} {ek ev u0 j0 u1 j1 : Expr} {cs0 cs1 : List Expr} {sc : Scope} {own : List (Str × Nat)} {po : Pos} {vs us : List Nat} {fi : FI} {fg : FG} {fc : FT} {fj : FI} {gj : FG} {tj : FT} {fk fv : FE}
theorem vn_dc2 (hc : X.calm = true) (hu : X.A.units < cLine) (hN : X.N.Nodup) (hvs : own.map (·.2) = vs) (hi : VI X u0 j0 fi) (ok : BlkOk X.N X.env.scope sc own) (hv : ∀ i ∈ us, i ∈ vs)
    (hg : ∀ (s : Shared) (H : Hp) (C : Addr) (cl : List (Str × Addr)) (fp : List Addr), VG (X.blk s H sc (compEnvC sc cl C X.env) fp) u0 vs fg) (ht : ∀ (s : Shared) (H : Hp) (C : Addr) (cl : List (Str × Addr)) (fp : List Addr), VTs (X.blk s H sc (compEnvC sc cl C X.env) fp) cs0 fc)
    (hj : ∀ (s : Shared) (H : Hp) (C : Addr) (cl : List (Str × Addr)) (fp : List Addr), VI (X.blk s H sc (compEnvC sc cl C X.env) fp) u1 j1 fj) (hgj : ∀ (s : Shared) (H : Hp) (C : Addr) (cl : List (Str × Addr)) (fp : List Addr), VG (X.blk s H sc (compEnvC sc cl C X.env) fp) u1 us gj) (htj : ∀ (s : Shared) (H : Hp) (C : Addr) (cl : List (Str × Addr)) (fp : List Addr), VTs (X.blk s H sc (compEnvC sc cl C X.env) fp) cs1 tj)
    (hk : ∀ (s : Shared) (H : Hp) (C : Addr) (cl : List (Str × Addr)) (fp : List Addr), VE (X.blk s H sc (compEnvC sc cl C X.env) fp) ek fk) (he : ∀ (s : Shared) (H : Hp) (C : Addr) (cl : List (Str × Addr)) (fp : List Addr), VE (X.blk s H sc (compEnvC sc cl C X.env) fp) ev fv)
    (hs : ∀ x, foldedSetIterable j0 X.env x = pure x := by intro _; rfl) (hs1 : ∀ env x, foldedSetIterable j1 env x = pure x := by intro _ _; rfl) :
    VN X (.DictComp ek ev [⟨u0, j0, cs0, 0⟩, ⟨u1, j1, cs1, 0⟩] sc po) (fDC2 vs us fi fg fc fj gj tj fk fv) := by
  subst hvs
  exact weakE (pe_dc2 (wi := tIt X.K fi) (g := tGt X.K (own.map (·.2)) fg) (tt := tTb X.K fc) (wj := tIt X.K fj) (gj := tGt X.K us gj) (tj := tTb X.K tj) (tk := tV X.K fk) (tv := tV X.K fv) hc hu hN hi ok hv hg ht hj hgj htj hk he hs hs1) fun σ H Q q => dc2_read hv q
end
end VS
set_option autoImplicit false
namespace VS
open PySem PySem.Spec PyProof.Rows L2 AR
open C8 (Cal Met Mak)
/-- a box at b, of the addresses as -/
def BoxAt (H : Hp) (b : Addr) (as : List Addr) : BoxC → Prop
  | .flow ns s c => ∃ l, as = [b, l] ∧ b ≠ l ∧ H b = some (.lst [.ref l, .int s, .int c]) ∧ H l = some (.lst (ns.map V.int)) ∧ ns.length ≤ 1000
  | .nums xs => as = [b] ∧ H b = some (.lst (xs.map V.int))
theorem BoxAt.live {H : Hp} {b : Addr} {as : List Addr} {c : BoxC} (h : BoxAt H b as c) : (∀ a ∈ as, ∃ o, H a = some o) ∧ b ∈ as := by
  cases c with
  | flow ns s c =>
    obtain ⟨l, rfl, ne, h1, h2, _⟩ := h
    refine ⟨fun a ha => ?_, by simp⟩
    rcases List.mem_cons.mp ha with q | q
    · rw [q]; exact ⟨_, h1⟩
    · rw [List.mem_singleton.mp q]; exact ⟨_, h2⟩
  | nums xs =>
    obtain ⟨rfl, h1⟩ := h
    exact ⟨fun a ha => by rw [List.mem_singleton.mp ha]; exact ⟨_, h1⟩, by simp⟩
/-- what a def promises whose first parameter is a box -/
def spB (K : PySem.W.Frag) (n : Nat) (f : BoxC → List D → Option (D × BoxC)) : Sp := fun vs H Q _ => ∃ b vs' as c hs ds r c', vs = .ref b :: vs' ∧ BoxAt H b as c ∧ (∀ a ∈ as, hs a = none) ∧ Sub hs H ∧ AllT hs H ∧ RepAll K hs vs' ds ∧ ds.length = n ∧ f c ds = some (r, c') ∧
  ∀ v hs' H', (∀ a o, a ∉ as → H a = some o → H' a = some o) → BoxAt H' b as c' → Same hs hs' → Sub hs' H' → AllT hs' H' → (∀ a o, H a = some o → hs a = none → hs' a = none) → Rep K hs' v r → Q v H'
def startB (c : BoxC) (k : Nat) (ds : List D) : En := Sl.o (.box true c) :: (ds.map Sl.s ++ List.replicate (k - (ds.length + 1)) .u)
def boxD (ρ : En) : Option BoxC := match ρ[0]? with
  | some (Sl.o (.box true c)) => some c
  | _ => none
/-- two words of one box have one form -/
def formB : BoxC → BoxC → Bool
  | .flow _ _ _, .flow _ _ _ => true
  | .nums _, .nums _ => true
  | _, _ => false
def sameForm : BoxC → BoxC → Prop
  | .flow _ _ _, .flow _ _ _ => True
  | .nums _, .nums _ => True
  | _, _ => False
theorem formB_same {c c' : BoxC} (h : formB c c' = true) : sameForm c c' := by cases c <;> cases c' <;> first | trivial | cases h
def fnB (n k : Nat) (body : FS) (c : BoxC) (ds : List D) : Option (D × BoxC) := if ds.length = n then match body (startB c k ds) with
  | some (.rt d ρ) => (boxD ρ).bind fun c' => if formB c c' then some (d, c') else none
  | some (.nx ρ) => (boxD ρ).bind fun c' => if formB c c' then some (.non, c') else none
  | _ => none
  else none
/-- the owner's word of a box -/
theorem RepO.box {K : PySem.W.Frag} {w : Wd} {H : Hp} {i : Nat} {v : V} {p : Bool} {c : BoxC} (r : RepO K w H i v (.box p c)) : ∃ b as, v = .ref b ∧ BoxAt H b as c ∧ (∀ a ∈ as, w.own a = some i) ∧ (p = true → b = w.me) ∧ (p = true → ∀ ns s k, c = .flow ns s k → as = [w.me, w.me2]) := by
  cases r with
  | @flow b l ns s c p hp h1 h2 h3 h4 h5 h6 =>
    refine ⟨b, [b, l], rfl, ⟨l, rfl, h3, h4, h5, h6⟩, fun a ha => ?_, fun z => (hp z).1, fun z _ _ _ _ => by rw [(hp z).1, (hp z).2]⟩
    rcases List.mem_cons.mp ha with q | q
    · rw [q]; exact h1
    · rw [List.mem_singleton.mp q]; exact h2
  | @nums b xs p hp h1 h2 => exact ⟨b, [b], rfl, ⟨rfl, h2⟩, fun a ha => by rw [List.mem_singleton.mp ha]; exact h1, hp, fun _ _ _ _ e => nomatch e⟩
theorem BoxAt.own {K : PySem.W.Frag} {w : Wd} {H : Hp} {i : Nat} {b : Addr} {as : List Addr} {p : Bool} {c : BoxC} (h : BoxAt H b as c) (ho : ∀ a ∈ as, w.own a = some i) (hp : p = true → b = w.me) (hq : p = true → ∀ ns s k, c = .flow ns s k → as = [w.me, w.me2]) : RepO K w H i (.ref b) (.box p c) := by
  cases c with
  | flow ns s c =>
    obtain ⟨l, rfl, ne, h1, h2, h3⟩ := h
    exact .flow (fun z => ⟨hp z, by have := hq z _ _ _ rfl; injection this with _ this; injection this⟩) (ho b (by simp)) (ho l (by simp)) ne h1 h2 h3
  | nums xs =>
    obtain ⟨rfl, h1⟩ := h
    exact .nums hp (ho b (by simp)) h1
theorem fnB_inv {n k : Nat} {body : FS} {c c' : BoxC} {ds : List D} {r : D} (h : fnB n k body c ds = some (r, c')) : ds.length = n ∧ sameForm c c' ∧ ((∃ ρ, body (startB c k ds) = some (.rt r ρ) ∧ boxD ρ = some c') ∨ ∃ ρ, body (startB c k ds) = some (.nx ρ) ∧ boxD ρ = some c' ∧ r = .non) := by
  unfold fnB at h
  split at h
  case isFalse => cases h
  rename_i hl
  split at h
  · rename_i d ρ e
    obtain ⟨c2, h1, h2⟩ := Option.bind_eq_some_iff.mp h
    split at h2
    · rename_i hf
      cases h2
      exact ⟨hl, formB_same hf, .inl ⟨ρ, e, h1⟩⟩
    · cases h2
  · rename_i ρ e
    obtain ⟨c2, h1, h2⟩ := Option.bind_eq_some_iff.mp h
    split at h2
    · rename_i hf
      cases h2
      exact ⟨hl, formB_same hf, .inr ⟨ρ, e, h1, rfl⟩⟩
    · cases h2
  · cases h
section
variable {K : PySem.W.Frag}
theorem startB_ok {N : List Str} {b : Addr} {as : List Addr} {c : BoxC} {vs : List V} {ds : List D} {hs H : Hp} (h : BoxAt H b as c) (hx : ∀ a ∈ as, hs a = none) (s : Sub hs H) (tp : AllT hs H) (r : RepAll K hs vs ds) :
    EnvOk K ⟨hs, fun a => if a ∈ as then some 0 else none, b, as.getD 1 0⟩ (startB c N.length ds) (L2.start N (.ref b :: vs)) H := by
  have own : ∀ a i, (if a ∈ as then some 0 else none) = some i → a ∈ as ∧ i = 0 := fun a i q => by
    by_cases z : a ∈ as
    · rw [if_pos z] at q; injection q with q; exact ⟨z, q.symm⟩
    · rw [if_neg z] at q; cases q
  refine ⟨s, fun a i q => hx a (own a i q).1, fun a i q => h.live.1 a (own a i q).1, ?_, fun i d q => ?_, fun i d q => ?_, tp⟩
  · unfold startB L2.start
    simp only [List.length_cons, List.length_append, List.length_map, List.length_replicate, List.map_cons, List.cons_append]
    rw [r.length]
  · cases i with
    | zero => unfold startB at q; simp at q
    | succ i =>
      unfold startB at q
      rw [List.getElem?_cons_succ] at q
      obtain ⟨hi, d', hd, e⟩ := get_map_s q (fun z => nomatch z)
      injection e with e; subst e
      obtain ⟨v, hv, rv⟩ := r.get' i hd
      refine ⟨v, ?_, rv⟩
      unfold L2.start
      rw [List.map_cons, List.cons_append, List.getElem?_cons_succ, List.getElem?_append_left (by rw [List.length_map, r.length]; exact hi), List.getElem?_map, hv]
      rfl
  · cases i with
    | zero =>
      unfold startB at q
      have q' : d = .box true c := by simpa using q.symm
      subst q'
      refine ⟨.ref b, rfl, h.own (fun a ha => ?_) (fun _ => rfl) fun _ ns s k e => ?_⟩
      · show (if a ∈ as then some 0 else none) = some 0
        rw [if_pos ha]
      · subst e
        obtain ⟨l, rfl, _⟩ := h
        rfl
    | succ i =>
      unfold startB at q
      rw [List.getElem?_cons_succ] at q
      obtain ⟨hi, d', hd, e⟩ := get_map_s q (fun z => nomatch z)
      cases e
theorem boxD_inv {ρ : En} {c : BoxC} (h : boxD ρ = some c) : ρ[0]? = some (Sl.o (.box true c)) := by
  unfold boxD at h
  split at h
  · rename_i e; cases h; exact e
  · cases h
theorem bodyB_ok {N : List Str} {n : Nat} {body : FS} {vs : List V} {H : Hp} {Q : VK} {E : XK} (h : spB K n (fnB n N.length body) vs H Q E) : tSt K body { nx := fun _ H' => Q .non H', rt := Q } (L2.start N vs) H := by
  obtain ⟨b, vs', as, c, hs, ds, r, c', rfl, hb, hx, s, tp, rp, hl, ef, k⟩ := h
  obtain ⟨_, hform, hcase⟩ := fnB_inv ef
  have fin : ∀ v ρ' σ' w' H', boxD ρ' = some c' → Fr ⟨hs, fun a => if a ∈ as then some 0 else none, b, as.getD 1 0⟩ H w' H' → EnvOk K w' ρ' σ' H' → Rep K w'.hs v r → Q v H' := fun v ρ' σ' w' H' es f' ok' rv => by
    have nn : ∀ a, a ∉ as → (if a ∈ as then some 0 else none : Option Nat) = none := fun a ha => by rw [if_neg ha]
    obtain ⟨v0, hv, ro⟩ := ok'.ow 0 _ (boxD_inv es)
    obtain ⟨b', as', rfl, hb', ho', hp', hq'⟩ := ro.box
    have eb' : b' = b := (hp' rfl).trans f'.me.1
    subst eb'
    have eas : as' = as := by
      cases c with
      | flow ns s c0 =>
        cases c' with
        | flow ns' s' c0' =>
          obtain ⟨l, rfl, _⟩ := hb
          rw [hq' rfl _ _ _ rfl, f'.me.1, f'.me.2]
          rfl
        | nums => exact hform.elim
      | nums xs =>
        cases c' with
        | flow => exact hform.elim
        | nums xs' => rw [hb'.1, hb.1]
    subst eas
    refine k v w'.hs H' (fun a o ha q => (f'.kp a o q (nn a ha)).1) hb' f'.sh ok'.sub ok'.tups (fun a o q z => ?_) rv
    by_cases ha : a ∈ as'
    · exact ok'.disj a 0 (ho' a ha)
    · exact (f'.kp a o q (nn a ha)).2.2 z
  rcases hcase with ⟨ρ, eb, h1⟩ | ⟨ρ, eb, h1, rfl⟩
  · exact ⟨_, _, _, startB_ok hb hx s tp rp, eb, fun v σ' w' H' f' ok' r' => fin v ρ σ' w' H' h1 f' ok' r'⟩
  · exact ⟨_, _, _, startB_ok hb hx s tp rp, eb, fun σ' w' H' f' ok' => fin _ ρ σ' w' H' h1 f' ok' .non⟩
end
section
variable {P : Program} {w : World} {K : PySem.W.Frag} {mg : Str → Option Value} {base : Heap}
theorem GD.vcalB {x : Str} {st : Stmt} {N ps : List Str} {k n kk : Nat} {body : FS} (G : GD K mg x st ps) (S : FnScope N ps (defScope st)) (hn : ps.length = n + 1) (hkk : N.length = kk)
    (hbody : ∀ (f : Addr) (cdv : Value) (A : Around) (outer : List Env) (s : Shared) (H : Hp) (E : XK), Room k (A.deeper (envOfC x (defScope st) s.heap.objs.size f cdv)) →
      VSs (cxOf CX0 P w K mg base N x (defScope st) f cdv A outer s H E).nox (defBody st) body) : Cal P w K mg base (k + 1) x (spB K n (fnB n kk body)) [] := by
  subst hkk
  refine G.cal S (fun vs H Q E h => ?_) fun f cdv A outer s H vs Q E hr h => ⟨_, hbody f cdv A outer s H E hr, bodyB_ok h⟩
  obtain ⟨b, vs', as, c, hs, ds, r, c', rfl, hb, hx, s, tp, rp, hl, _⟩ := h
  rw [List.length_cons, rp.length, hl, hn]
end
/-! ### a call with a slot's box -/
def fCaB (f : BoxC → List D → Option (D × BoxC)) (i : Nat) (ga : FA) : FE := fun ρ => match ρ[i]? with
  | some (Sl.o (.box _ _)) => (ga ρ).bind fun q => match q.2[i]? with
    | some (Sl.o (.box p c)) => (f c q.1).map fun r => (r.1, q.2.set i (Sl.o (.box p r.2)))
    | _ => none
  | _ => none
section
variable {X : Cx} {a : Expr} {es : List Expr} {ga : FA} {pos p : Pos} {x y : Str} {k j n i : Nat} {f : BoxC → List D → Option (D × BoxC)}
theorem ve_callB (c : Cal X.prog X.w X.K X.mg X.base k x (spB X.K n f) []) (hlen : ∀ c ds r, f c ds = some r → ds.length = n) (hform : ∀ c ds r c', f c ds = some (r, c') → sameForm c c') (hr : Room j X.A) (hk : k ≤ j) (hg : Gl X x) (hb : PE X a (tVar i)) (ha : VA X es ga)
    (hdb : (x == ("__debug__" : Str)) = false := by decide) (he : starEach (a :: es) X.env = (false, eval a X.env) :: starEach es X.env := by rfl) (hpl : (backTo pos (starEach es X.env)).any (·.1) = false := by rfl) :
    VE X (.Call (.Name x p) (a :: es) [] pos) (fCaB f i ga) := by
  refine weakE (C8.pe_c c hr hk hg (pa_cons hb ha he) hdb he hpl) fun σ H Q q => ?_
  obtain ⟨w, ρ, d, ρ', ok, ef, kk⟩ := q
  unfold fCaB at ef
  split at ef
  case h_2 => cases ef
  rename_i p0 c0 e0
  obtain ⟨v0, hv0, _⟩ := ok.ow i _ e0
  obtain ⟨⟨ds, ρ1⟩, e1, e2⟩ := Option.bind_eq_some_iff.mp ef
  refine ⟨v0, hv0, w, ρ, ds, ρ1, ok, e1, fun vs w1 H1 f1 ok1 r1 => ?_⟩
  split at e2
  case h_2 => cases e2
  rename_i p1 c1 e3
  obtain ⟨⟨r, c'⟩, e4, e5⟩ := Option.map_eq_some_iff.mp e2
  cases e5
  obtain ⟨v, hv, ro⟩ := ok1.ow i _ e3
  rw [hv0] at hv
  cases hv
  obtain ⟨b, as, rfl, hb', ho', hp', hq'⟩ := ro.box
  show spB X.K n f ((V.ref b :: vs) ++ []) H1 Q _
  rw [List.append_nil]
  refine ⟨b, vs, as, c1, w1.hs, ds, r, c', rfl, hb', fun a ha => ok1.disj a i (ho' a ha), ok1.sub, ok1.tups, r1, hlen _ _ _ e4, e4, fun v hs' H' s1 s2 s3 s4 t4 s5 r' => ?_⟩
  have hfm := hform _ _ _ _ e4
  have fr : Fr w1 H1 ⟨hs', w1.own, w1.me, w1.me2⟩ H' := ⟨s3, fun a o q n => ⟨s1 a o (fun z => by rw [ho' a z] at n; cases n) q, n, fun z => s5 a o q z⟩, fun a o q => by
    by_cases z : a ∈ as
    · exact s2.live.1 a z
    · exact ⟨o, s1 a o z q⟩, rfl, rfl⟩
  refine kk v ⟨hs', w1.own, w1.me, w1.me2⟩ H' (f1.trans fr) ?_ r'
  have base : EnvOk X.K ⟨hs', w1.own, w1.me, w1.me2⟩ (ρ1.set i .u) σ H' := by
    refine ⟨s4, fun a j q => ?_, fun a j q => ?_, by rw [List.length_set]; exact ok1.len, fun j d' q => ?_, fun j d' q => ?_, t4⟩
    · obtain ⟨o, ho⟩ := ok1.live a j q
      exact s5 a o ho (ok1.disj a j q)
    · obtain ⟨o, ho⟩ := ok1.live a j q
      exact fr.lv a o ho
    · by_cases z : i = j
      · subst z
        by_cases hl : i < ρ1.length
        · rw [List.getElem?_set_self hl] at q; cases q
        · rw [List.getElem?_eq_none (by rw [List.length_set]; omega)] at q; cases q
      · rw [List.getElem?_set_ne z] at q
        obtain ⟨v', h1, h2⟩ := ok1.sh j d' q
        exact ⟨v', h1, h2.mono (.of s3)⟩
    · by_cases z : i = j
      · subst z
        by_cases hl : i < ρ1.length
        · rw [List.getElem?_set_self hl] at q; cases q
        · rw [List.getElem?_eq_none (by rw [List.length_set]; omega)] at q; cases q
      · rw [List.getElem?_set_ne z] at q
        obtain ⟨v', h1, h2⟩ := ok1.ow j d' q
        refine ⟨v', h1, h2.keep (w' := ⟨hs', w1.own, w1.me, w1.me2⟩) ⟨rfl, rfl⟩ s3 fun a ha => ⟨ha, ?_⟩⟩
        obtain ⟨o, ho⟩ := ok1.live a j ha
        rw [ho]
        exact s1 a o (fun m => by rw [ho' a m] at ha; injection ha with ha; exact z ha) ho
  have rb : RepO X.K ⟨hs', w1.own, w1.me, w1.me2⟩ H' i (.ref b) (.box p1 c') := s2.own ho' hp' fun z ns s k e => by
    subst e
    cases c1 with
    | flow ns1 s1 k1 => exact hq' z _ _ _ rfl
    | nums => exact hfm.elim
  have fin := base.setO' (i := i) (H' := H') hv0 s4 (fun a j q => base.live a j q) (fun _ _ _ _ => rfl) rb t4
  rw [List.set_set] at fin
  exact fin
/-- a def that makes a new box -/

def grow (hs H' : Hp) : Hp := fun a => match H' a with
  | some (.tup xs) => some (.tup xs)
  | _ => hs a
theorem grow_tup {hs H' : Hp} : AllT (grow hs H') H' := fun a xs q => by unfold grow; rw [q]
theorem grow_no {hs H' : Hp} {a : Addr} (h : ∀ xs, H' a ≠ some (.tup xs)) : grow hs H' a = hs a := by
  unfold grow
  split
  · rename_i xs q; exact absurd q (h xs)
  · rfl
theorem grow_or {hs H' : Hp} (a : Addr) : grow hs H' a = hs a ∨ ∃ xs, H' a = some (.tup xs) ∧ grow hs H' a = some (.tup xs) := by
  unfold grow
  split
  · rename_i xs q; exact .inr ⟨xs, q, rfl⟩
  · exact .inl rfl
theorem grow_sub {hs H' : Hp} (s : Sub hs H') : Sub (grow hs H') H' := fun a o q => by
  rcases grow_or (hs := hs) (H' := H') a with e | ⟨xs, e1, e2⟩
  · rw [e] at q; exact s a o q
  · rw [e2] at q; cases q; exact .inl e1
theorem grow_same {hs H' : Hp} (s : Sub hs H') : Same hs (grow hs H') := fun a o q => by
  rcases grow_or (hs := hs) (H' := H') a with e | ⟨xs, e1, e2⟩
  · rw [e]; exact q
  · rw [e2]
    rcases s a o q with z | ⟨z1, ob, z2⟩
    · rw [e1] at z; exact z
    · rw [e1] at z2; cases z2
def spNB (K : PySem.W.Frag) (n : Nat) (f : List D → Option BoxC) : Sp := fun vs H Q _ => ∃ hs ds c, Sub hs H ∧ RepAll K hs vs ds ∧ ds.length = n ∧ f ds = some c ∧
  ∀ b as H', Same H H' → (∀ a ∈ as, H a = none) → BoxAt H' b as c → Q (.ref b) H'
def fNB (f : List D → Option BoxC) (ds : List D) : Option D := (f ds).map fun c => .box false c
theorem vn_callNB {fb : List D → Option BoxC} (c : Cal X.prog X.w X.K X.mg X.base k x (spNB X.K n fb) []) (hlen : ∀ ds r, fb ds = some r → ds.length = n) (hr : Room j X.A) (hk : k ≤ j) (hg : Gl X x) (ha : VA X (a :: es) ga)
    (hdb : (x == ("__debug__" : Str)) = false := by decide) (he : starEach (a :: es) X.env = (false, eval a X.env) :: starEach es X.env := by rfl) (hpl : (backTo pos (starEach es X.env)).any (·.1) = false := by rfl) :
    VN X (.Call (.Name x p) (a :: es) [] pos) (fAp (fNB fb) ga) := by
  refine vn_ap (es := es) (ι := Unit) (r := fun _ vs H Q => spNB X.K n fb (vs ++ []) H Q C8.E0) (fun _ => C8.pe_c c hr hk hg ha hdb he hpl) fun ds d ed => ⟨(), fun w ρ σ H vs Q ok r kk => ?_⟩
  rw [List.append_nil]
  obtain ⟨cb, h1, h2⟩ := Option.map_eq_some_iff.mp ed
  subst h2
  refine ⟨w.hs, ds, cb, ok.sub, r, hlen _ _ h1, h1, fun b as H' s1 s2 s3 => ?_⟩
  have sb' : Sub w.hs H' := fun a u q => by
    rcases ok.sub a u q with z | ⟨z1, ob, z2⟩
    · exact .inl (s1 a u z)
    · exact .inr ⟨z1, ob, s1 a _ z2⟩
  have old : ∀ a o, H a = some o → grow w.hs H' a = w.hs a := fun a o q => by
    rcases grow_or (hs := w.hs) (H' := H') a with e | ⟨xs, e1, e2⟩
    · exact e
    · rw [s1 a o q] at e1
      rw [e2, ok.tups a xs (q.trans e1)]
  have fr : Fr w H ⟨grow w.hs H', w.own, w.me, w.me2⟩ H' := ⟨grow_same sb', fun a o q n => ⟨s1 a o q, n, fun z => by show grow w.hs H' a = none; rw [old a o q]; exact z⟩, (fun a o q => ⟨o, s1 a o q⟩), rfl, rfl⟩
  have ok' : EnvOk X.K ⟨grow w.hs H', w.own, w.me, w.me2⟩ ρ σ H' := ok.keep (grow_same sb') (grow_sub sb') rfl ⟨rfl, rfl⟩ (fun a i q => by
    obtain ⟨o, ho⟩ := ok.live a i q
    show grow w.hs H' a = none
    rw [old a o ho]; exact ok.disj a i q) (fun a i q => by
    obtain ⟨o, ho⟩ := ok.live a i q
    rw [ho]; exact s1 a o ho) grow_tup
  refine kk _ _ H' fr ok' ?_
  cases cb with
  | flow ns s c =>
    obtain ⟨l, rfl, ne, g1, g2, g3⟩ := s3
    have fb := ok.free (s2 b (by simp))
    have fl := ok.free (s2 l (by simp))
    exact .flow (s2 b (by simp)) (s2 l (by simp)) fb.2 fl.2 ((grow_no (fun xs z => by rw [g1] at z; cases z)).trans fb.1) ((grow_no (fun xs z => by rw [g2] at z; cases z)).trans fl.1) ne g1 g2 g3
  | nums xs =>
    obtain ⟨rfl, g1⟩ := s3
    have fb := ok.free (s2 b (by simp))
    exact .nums (s2 b (by simp)) fb.2 ((grow_no (fun xs z => by rw [g1] at z; cases z)).trans fb.1) g1
end
end VS
set_option autoImplicit false
namespace VS
open PySem PySem.Spec PyProof.Rows L2 AR
theorem u65 {A : Around} {k : Nat} (hr : Room k A) : A.units + 65 < cLine := by have := hr.un; omega
theorem u64 {A : Around} {k : Nat} (hr : Room k A) : A.units + 64 < cLine := by have := hr.un; omega
theorem u1 {A : Around} {k : Nat} (hr : Room k A) : A.units + 1 < cLine := by have := hr.un; omega
theorem u0 {A : Around} {k : Nat} (hr : Room k A) : A.units < cLine := by have := hr.un; omega
theorem fnB_len {n k : Nat} {body : FS} : ∀ c ds r, fnB n k body c ds = some r → ds.length = n := fun c ds r h => (fnB_inv (r := r.1) (c' := r.2) h).1
theorem fnB_form {n k : Nat} {body : FS} : ∀ c ds r c', fnB n k body c ds = some (r, c') → sameForm c c' := fun c ds r c' h => (fnB_inv h).2.1
instance : Inhabited InK := ⟨.deep⟩
section
variable {X : Cx} {elt tg iter : Expr} {ifs : List Expr} {scope : Scope} {own : List (Str × Nat)} {pos : Pos} {fi : FI} {fg : FG} {fc : FT} {fe : FE} {us : List Nat}
/-- y = [..], y shared -/
theorem vs_setLcS {i : Nat} {y : Str} {py spos : Pos} (hc : X.calm = true) (hN : X.N.Nodup) (hu : own.map (·.2) = us) (hy : X.N[i]? = some y) (hyl : X.env.scope.names.lookup y = some .local)
    (hsw : swapsWith (.ListComp elt [⟨tg, iter, ifs, 0⟩] scope pos) (some (.Name y py)) spos.line X.env = pure true) (hi : VI X tg iter fi) (ok : BlkOk X.N X.env.scope scope own)
    (hg : ∀ (s : Shared) (H : Hp) (C : Addr) (cl : List (Str × Addr)) (fp : List Addr), VG (X.blk s H scope (compEnvC scope cl C X.env) fp) tg us fg) (ht : ∀ (s : Shared) (H : Hp) (C : Addr) (cl : List (Str × Addr)) (fp : List Addr), VTs (X.blk s H scope (compEnvC scope cl C X.env) fp) ifs fc)
    (he : ∀ (s : Shared) (H : Hp) (C : Addr) (cl : List (Str × Addr)) (fp : List Addr), VE (X.blk s H scope (compEnvC scope cl C X.env) fp) elt fe) (hs : ∀ x, foldedSetIterable iter X.env x = pure x := by intro _; rfl) :
    VS1 X (.Assign [.Name y py] (.ListComp elt [⟨tg, iter, ifs, 0⟩] scope pos) spos) (sSet i (fLC us fi fg fc fe)) := by
  subst hu
  refine weakS (ps_setLc (g := tGt X.K (own.map (·.2)) fg) (tt := tTb X.K fc) (te := tV X.K fe) hc hN hy hyl hsw hi ok hg ht he hs) fun E σ H q => ?_
  obtain ⟨w, ρ, o, okE, ef, k⟩ := q
  obtain ⟨⟨d, ρ1⟩, e1, e2⟩ := Option.map_eq_some_iff.mp ef
  cases e2
  refine lc_read ⟨w, ρ, d, ρ1, okE, e1, fun v w1 H1 f1 ok1 r1 => ?_⟩
  have nb := fLC_nb _ _ _ e1
  obtain ⟨w2, f2, ok2, r2⟩ := r1.share (fun p c z => by rw [z] at nb; cases nb) ok1 f1
  exact k _ w2 H1 f2 (ok2.setS r2)
end
/-! ### a, b = x, y by a tuple (some name is a cell) -/
section
variable {X : Cx} {a b c e : Expr} {f g h : FE} {pos : Pos} {i j l : Nat} {x y z : Str} {o1 o2 o3 : Bool}
theorem vs_parT {px py pt : Pos} {kt k2 pt2} (hc : X.calm = true) (ha : VX X a o1 f) (hb : VX X b o2 g) (hx : PG X (.Name x px) (gName i)) (hy : PG X (.Name y py) (gName j))
    (hs : swapsWithSole [.Tuple [.Name x px, .Name y py] kt pt] (.Tuple [a, b] k2 pt2) pos.line X.env = pure false := by rfl) (hw : swappedStores [.Tuple [.Name x px, .Name y py] kt pt] (.Tuple [a, b] k2 pt2) X.env = pure none := by rfl)
    (h1 : (assignEach [.Tuple [.Name x px, .Name y py] kt pt] X.env).map (·.2) = [assign (.Tuple [.Name x px, .Name y py] kt pt) X.env] := by rfl)
    (s1 : starEach [a, b] X.env = (false, eval a X.env) :: starEach [b] X.env := by rfl) (s2 : starEach [b] X.env = (false, eval b X.env) :: starEach [] X.env := by rfl)
    (t1 : (assignEach [.Name x px, .Name y py] X.env).map (·.2) = assign (.Name x px) X.env :: (assignEach [.Name y py] X.env).map (·.2) := by rfl) (t2 : (assignEach [.Name y py] X.env).map (·.2) = assign (.Name y py) X.env :: (assignEach [] X.env).map (·.2) := by rfl)
    (hn : (assignEach [.Name x px, .Name y py] X.env).length = 2 := by rfl) (hst : (assignEach [.Name x px, .Name y py] X.env).findIdx? (·.1) = none := by rfl) :
    VS1 X (.Assign [.Tuple [.Name x px, .Name y py] kt pt] (.Tuple [a, b] k2 pt2) pos) (sPar i j o1 o2 f g) := by
  refine weakS (ps_asg (pe_tup (pa_cons ha (pa_cons hb pa_nil s2) s1)) (pg_tup hc (pgs_cons hx (pgs_cons hy pgs_nil t2) t1) hn hst) hs hw h1) fun E σ H q => ?_
  obtain ⟨w, ρ, ot, ok, ef, k⟩ := q
  obtain ⟨⟨d1, ρ1⟩, e1, e2⟩ := Option.bind_eq_some_iff.mp ef
  obtain ⟨⟨d2, ρ2⟩, e3, e4⟩ := Option.map_eq_some_iff.mp e2
  cases e4
  refine ⟨w, ρ, d1, ρ1, ok, e1, fun v as w1 H1 f1 ok1 p1 => ⟨w1, ρ1, d2, ρ2, ok1, e3, fun u bs w2 H2 f2 ok2 p2 => ⟨by show 2 ≤ sizeLine; decide, fun p hp => ?_⟩⟩⟩
  obtain ⟨ft, okt, _⟩ := ok2.new (o := .tup [v, u]) hp
  have f12 := (f1.trans f2).trans ft
  obtain ⟨w3, f3, ok3, h3, n3⟩ := ((p1.fr f2).fr ft).store i okt f12
  obtain ⟨w4, f4, ok4, _, _⟩ := (((p2.fr ft).old f1).own h3 fun a ha => n3 a (p1.apart p2 a ha)).store j ok3 f3
  exact ⟨p, [v, u], rfl, .of upd_same, rfl, v, [u], rfl, u, [], rfl, rfl, k _ w4 _ f4 ok4⟩
theorem vs_parT3 {px py pz pt : Pos} {kt k2 pt2} (hc : X.calm = true) (ha : VX X a o1 f) (hb : VX X b o2 g) (hd : VX X c o3 h) (hx : PG X (.Name x px) (gName i)) (hy : PG X (.Name y py) (gName j)) (hz : PG X (.Name z pz) (gName l))
    (hs : swapsWithSole [.Tuple [.Name x px, .Name y py, .Name z pz] kt pt] (.Tuple [a, b, c] k2 pt2) pos.line X.env = pure false := by rfl) (hw : swappedStores [.Tuple [.Name x px, .Name y py, .Name z pz] kt pt] (.Tuple [a, b, c] k2 pt2) X.env = pure none := by rfl)
    (h1 : (assignEach [.Tuple [.Name x px, .Name y py, .Name z pz] kt pt] X.env).map (·.2) = [assign (.Tuple [.Name x px, .Name y py, .Name z pz] kt pt) X.env] := by rfl)
    (s1 : starEach [a, b, c] X.env = (false, eval a X.env) :: starEach [b, c] X.env := by rfl) (s2 : starEach [b, c] X.env = (false, eval b X.env) :: starEach [c] X.env := by rfl) (s3 : starEach [c] X.env = (false, eval c X.env) :: starEach [] X.env := by rfl)
    (t1 : (assignEach [.Name x px, .Name y py, .Name z pz] X.env).map (·.2) = assign (.Name x px) X.env :: (assignEach [.Name y py, .Name z pz] X.env).map (·.2) := by rfl) (t2 : (assignEach [.Name y py, .Name z pz] X.env).map (·.2) = assign (.Name y py) X.env :: (assignEach [.Name z pz] X.env).map (·.2) := by rfl) (t3 : (assignEach [.Name z pz] X.env).map (·.2) = assign (.Name z pz) X.env :: (assignEach [] X.env).map (·.2) := by rfl)
    (hn : (assignEach [.Name x px, .Name y py, .Name z pz] X.env).length = 3 := by rfl) (hst : (assignEach [.Name x px, .Name y py, .Name z pz] X.env).findIdx? (·.1) = none := by rfl) :
    VS1 X (.Assign [.Tuple [.Name x px, .Name y py, .Name z pz] kt pt] (.Tuple [a, b, c] k2 pt2) pos) (sPar3 i j l o1 o2 o3 f g h) := by
  refine weakS (ps_asg (pe_tup (pa_cons ha (pa_cons hb (pa_cons hd pa_nil s3) s2) s1)) (pg_tup hc (pgs_cons hx (pgs_cons hy (pgs_cons hz pgs_nil t3) t2) t1) hn hst) hs hw h1) fun E σ H q => ?_
  obtain ⟨w, ρ, ot, ok, ef, k⟩ := q
  obtain ⟨⟨d1, ρ1⟩, e1, e2⟩ := Option.bind_eq_some_iff.mp ef
  obtain ⟨⟨d2, ρ2⟩, e3, e4⟩ := Option.bind_eq_some_iff.mp e2
  obtain ⟨⟨d3, ρ3⟩, e5, e6⟩ := Option.map_eq_some_iff.mp e4
  cases e6
  refine ⟨w, ρ, d1, ρ1, ok, e1, fun v as w1 H1 f1 ok1 p1 => ⟨w1, ρ1, d2, ρ2, ok1, e3, fun u bs w2 H2 f2 ok2 p2 => ⟨w2, ρ2, d3, ρ3, ok2, e5, fun t cs w3 H3 f3 ok3 p3 => ⟨by show 3 ≤ sizeLine; decide, fun p hp => ?_⟩⟩⟩⟩
  obtain ⟨ft, okt, _⟩ := ok3.new (o := .tup [v, u, t]) hp
  have f12 := f1.trans f2
  have p1' := p1.fr f2
  obtain ⟨w4, f4, ok4, h4, n4⟩ := ((p1'.fr f3).fr ft).store i okt ((f12.trans f3).trans ft)
  have q2 := ((p2.old f1).fr f3).fr ft
  have q3 := (p3.old f12).fr ft
  obtain ⟨w5, f5, ok5, h5, n5⟩ := (q2.own h4 fun a ha => n4 a (p1.apart p2 a ha)).store j ok4 f4
  obtain ⟨w6, f6, ok6, _, _⟩ := (q3.own (h5.trans h4) fun a ha => (n5 a (p2.apart p3 a ha)).trans (n4 a (p1'.apart p3 a ha))).store l ok5 f5
  exact ⟨p, [v, u, t], rfl, .of upd_same, rfl, v, [u, t], rfl, u, [t], rfl, t, [], rfl, rfl, k _ w6 _ f6 ok6⟩
end
end VS
namespace VS
open PySem PySem.Spec PyProof.Rows L2 AR
section
variable {f g : FE} {ga : FA} {fl fh : FO} {r : FPs}
theorem dzO_nb : ∀ ρ d ρ', fAp dzO ga ρ = some (d, ρ') → d.isBox = false := fun ρ d ρ' h => by
  obtain ⟨⟨ds, ρ1⟩, e1, e2⟩ := Option.bind_eq_some_iff.mp h
  obtain ⟨d2, e3, e4⟩ := Option.map_eq_some_iff.mp e2
  cases e4
  unfold dzO at e3
  split at e3
  case h_2 => cases e3
  obtain ⟨xs, h1, h2⟩ := Option.bind_eq_some_iff.mp e3
  split at h2
  case isFalse => cases h2
  obtain ⟨ks, h3, h4⟩ := Option.map_eq_some_iff.mp h2
  subst h4
  rfl
theorem fD1_nb : ∀ ρ d ρ', fD1 f g ρ = some (d, ρ') → d.isBox = false := fun ρ d ρ' h => by
  obtain ⟨⟨x, ρ1⟩, e1, e2⟩ := Option.bind_eq_some_iff.mp h
  obtain ⟨⟨y, ρ2⟩, e3, e4⟩ := Option.bind_eq_some_iff.mp e2
  obtain ⟨ky, e5, e6⟩ := Option.map_eq_some_iff.mp e4
  cases e6
  rfl
theorem fDs_nb : ∀ ρ d ρ', fDs r ρ = some (d, ρ') → d.isBox = false := fun ρ d ρ' h => by
  obtain ⟨⟨⟨dk, dv⟩, ρ1⟩, e1, e2⟩ := Option.bind_eq_some_iff.mp h
  obtain ⟨ks, e3, e4⟩ := Option.bind_eq_some_iff.mp e2
  split at e4 <;> cases e4
  rfl
theorem fSlL_nb : ∀ ρ d ρ', fSlL f fl fh ρ = some (d, ρ') → d.isBox = false := fun ρ d ρ' h => by
  obtain ⟨⟨x, ρ1⟩, e1, e2⟩ := Option.bind_eq_some_iff.mp h
  obtain ⟨⟨l, ρ2⟩, e3, e4⟩ := Option.bind_eq_some_iff.mp e2
  obtain ⟨⟨u, ρ3⟩, e5, e6⟩ := Option.bind_eq_some_iff.mp e4
  split at e6 <;> cases e6
  rfl
end
end VS
set_option autoImplicit false
namespace VS
open PySem PySem.Spec PyProof.Rows L2 AR
/-! ### a dict locked while it is walked -/
section
variable {K : PySem.W.Frag} {h H H' : Hp} {d : Addr} {od : Obj} {u : HO}
theorem sub_lock (e : h d = some u) (hu : IsDct u) : Sub h (upd h d (.frz od u)) := fun a o q => by
  by_cases z : a = d
  · subst z; rw [e] at q; cases q; exact .inr ⟨hu, od, upd_same⟩
  · exact .inl (by rw [upd_ne z]; exact q)
theorem rd_unl (e : h d = some (.frz od u)) {a : Addr} {o : HO} (nf : ∀ ob x, o ≠ .frz ob x) (r : Rd h a o) : Rd (upd h d u) a o := by
  by_cases z : a = d
  · subst z
    rcases r with r | ⟨ob, r⟩
    · rw [e] at r; cases r; exact absurd rfl (nf _ _)
    · rw [e] at r; cases r; exact .inl upd_same
  · rcases r with r | ⟨ob, r⟩
    · exact .inl (by rw [upd_ne z]; exact r)
    · exact .inr ⟨ob, by rw [upd_ne z]; exact r⟩
theorem sqL_unl (e : h d = some (.frz od u)) {a : Addr} {xs : List V} (r : SqL K h a xs) : SqL K (upd h d u) a xs := by
  rcases r with r | r
  · exact .inl (rd_unl e (fun _ _ z => nomatch z) r)
  · exact .inr r
theorem sqT_unl (e : h d = some (.frz od u)) {a : Addr} {xs : List V} (r : SqT K h a xs) : SqT K (upd h d u) a xs := by
  rcases r with r | r
  · exact .inl (rd_unl e (fun _ _ z => nomatch z) r)
  · exact .inr r
theorem at_unl (e : h d = some (.frz od u)) {a : Addr} {o : HO} (nf : ∀ ob x, o ≠ .frz ob x) (r : h a = some o) : upd h d u a = some o := by
  have ne : a ≠ d := fun z => by subst z; rw [e] at r; cases r; exact nf _ _ rfl
  rw [upd_ne ne]; exact r
theorem nf_tup {xs : List V} : ∀ ob x, HO.tup xs ≠ .frz ob x := fun _ _ z => nomatch z
theorem nf_dK {xs : List (Key × V)} : ∀ ob x, HO.dK xs ≠ .frz ob x := fun _ _ z => nomatch z
theorem nf_dT {xs : List (List Key × V)} : ∀ ob x, HO.dT xs ≠ .frz ob x := fun _ _ z => nomatch z
theorem nf_ins {C dx : Addr} {xs : List (Str × V)} : ∀ ob x, HO.ins C dx xs ≠ .frz ob x := fun _ _ z => nomatch z
mutual
theorem Rep.unl {K : PySem.W.Frag} {h : Hp} {d : Addr} {od : Obj} {u : HO} (e : h d = some (.frz od u)) : ∀ {v : V} {x : D}, Rep K h v x → Rep K (upd h d u) v x
  | _, _, .non => .non
  | _, _, .bl b => .bl b
  | _, _, .int i => .int i
  | _, _, .str g => .str g
  | _, _, .lst q l r => .lst (sqL_unl e q) l (RepAll.unl e r)
  | _, _, .tup q l r => .tup (at_unl e nf_tup q) l (RepAll.unl e r)
  | _, _, .ktp q l r => .ktp (sqT_unl e q) l (RepAll.unl e r)
  | _, _, .dK q k r => .dK (rd_unl e nf_dK q) k (RepAll.unl e r)
  | _, _, .dT q k r => .dT (rd_unl e nf_dT q) k (RepAll.unl e r)
  | _, _, .ins q c n r => .ins (at_unl e nf_ins q) c n (RepAll.unl e r)
theorem RepAll.unl {K : PySem.W.Frag} {h : Hp} {d : Addr} {od : Obj} {u : HO} (e : h d = some (.frz od u)) : ∀ {vs : List V} {ds : List D}, RepAll K h vs ds → RepAll K (upd h d u) vs ds
  | _, _, .nil => .nil
  | _, _, .cons r t => .cons (Rep.unl e r) (RepAll.unl e t)
end
end
section
variable {K : PySem.W.Frag} {w w' : Wd} {ρ ρ' : En} {σ : L2.St} {H H' H0 : Hp} {d : Addr} {od : Obj} {u : HO}
def Wd.lk (w : Wd) (d : Addr) (o : HO) : Wd := ⟨upd w.hs d o, w.own, w.me, w.me2⟩
theorem RepO.lk {i : Nat} {v : V} {x : D} {w : Wd} {H H' : Hp} {d : Addr} {o : HO} (r : RepO K w H i v x) (ho : w.own d = none) (hm : ∀ {vs : List V} {ds : List D}, RepAll K w.hs vs ds → RepAll K (w.lk d o).hs vs ds) (hH : ∀ a, a ≠ d → H' a = H a) : RepO K (w.lk d o) H' i v x := by
  have ne : ∀ {a}, w.own a = some i → a ≠ d := fun {a} q z => by subst z; rw [ho] at q; cases q
  cases r with
  | lst h1 h2 hl h3 => exact .lst h1 (by rw [hH _ (ne h1)]; exact h2) hl (hm h3)
  | dK h1 h2 h3 h4 => exact .dK h1 (by rw [hH _ (ne h1)]; exact h2) h3 (hm h4)
  | dT h1 h2 h3 h4 => exact .dT h1 (by rw [hH _ (ne h1)]; exact h2) h3 (hm h4)
  | ins h0 h1 h2 h3 h4 h5 => exact .ins h0 h1 (by rw [hH _ (ne h1)]; exact h2) h3 h4 (hm h5)
  | flow p h1 h2 h3 h4 h5 h6 => exact .flow p h1 h2 h3 (by rw [hH _ (ne h1)]; exact h4) (by rw [hH _ (ne h2)]; exact h5) h6
  | nums p h1 h2 => exact .nums p h1 (by rw [hH _ (ne h1)]; exact h2)
/-- locked -/
theorem EnvOk.lk (e : EnvOk K w ρ σ H) (hd : w.hs d = some u) (hu : IsDct u) (hH : H' = upd H d (.frz od u)) : EnvOk K (w.lk d (.frz od u)) ρ σ H' := by
  subst hH
  have ho : w.own d = none := by
    cases q : w.own d with
    | none => rfl
    | some i => rw [e.disj d i q] at hd; cases hd
  refine ⟨fun a o q => ?_, fun a i q => ?_, fun a i q => ?_, e.len, fun i x q => ?_, fun i x q => ?_, fun a xs q => ?_⟩
  · by_cases z : a = d
    · subst z; rw [show (w.lk a (.frz od u)).hs a = _ from upd_same] at q; cases q; exact .inl upd_same
    · rw [upd_ne z]; exact e.sub a o (by rw [← q]; exact (upd_ne z).symm)
  · have z : a ≠ d := fun z => by subst z; rw [show w.own a = some i from q] at ho; cases ho
    show upd w.hs d _ a = none
    rw [upd_ne z]; exact e.disj a i q
  · have z : a ≠ d := fun z => by subst z; rw [show w.own a = some i from q] at ho; cases ho
    rw [upd_ne z]; exact e.live a i q
  · obtain ⟨v, h1, h2⟩ := e.sh i x q
    exact ⟨v, h1, h2.mono (sub_lock hd hu)⟩
  · obtain ⟨v, h1, h2⟩ := e.ow i x q
    exact ⟨v, h1, h2.lk ho (fun r => r.mono (sub_lock hd hu)) fun a z => upd_ne z⟩
  · have z : a ≠ d := fun z => by subst z; rw [upd_same] at q; cases q
    rw [upd_ne z] at q
    show upd w.hs d _ a = _
    rw [upd_ne z]; exact e.tups a xs q
/-- unlocked: the heap is H' with u at d, or H' itself -/
theorem EnvOk.unl (e : EnvOk K w ρ σ H) (hd : w.hs d = some (.frz od u)) (hu : IsDct u) (hH : H' = upd H d u ∨ H' = H) : EnvOk K (w.lk d u) ρ σ H' := by
  have ho : w.own d = none := by
    cases q : w.own d with
    | none => rfl
    | some i => rw [e.disj d i q] at hd; cases hd
  have hHd : H d = some (.frz od u) := by
    rcases e.sub d _ hd with q | ⟨n, _⟩
    · exact q
    · exact n.elim
  have hne : ∀ a, a ≠ d → H' a = H a := fun a z => by rcases hH with q | q <;> rw [q]; exact upd_ne z
  have hat : H' d = some u ∨ H' d = some (.frz od u) := by rcases hH with q | q <;> rw [q]; exact .inl upd_same; exact .inr hHd
  refine ⟨fun a o q => ?_, fun a i q => ?_, fun a i q => ?_, e.len, fun i x q => ?_, fun i x q => ?_, fun a xs q => ?_⟩
  · by_cases z : a = d
    · subst z; rw [show (w.lk a u).hs a = _ from upd_same] at q; cases q
      rcases hat with q | q
      · exact .inl q
      · exact .inr ⟨hu, od, q⟩
    · rw [hne a z]; exact e.sub a o (by rw [← q]; exact (upd_ne z).symm)
  · have z : a ≠ d := fun z => by subst z; rw [show w.own a = some i from q] at ho; cases ho
    show upd w.hs d _ a = none
    rw [upd_ne z]; exact e.disj a i q
  · have z : a ≠ d := fun z => by subst z; rw [show w.own a = some i from q] at ho; cases ho
    rw [hne a z]; exact e.live a i q
  · obtain ⟨v, h1, h2⟩ := e.sh i x q
    exact ⟨v, h1, h2.unl hd⟩
  · obtain ⟨v, h1, h2⟩ := e.ow i x q
    exact ⟨v, h1, h2.lk ho (fun r => r.unl hd) hne⟩
  · have z : a ≠ d := fun z => by
      subst z
      rcases hat with t | t <;> rw [q] at t <;> cases t
      exact hu.elim
    rw [hne a z] at q
    show upd w.hs d _ a = _
    rw [upd_ne z]; exact e.tups a xs q
theorem Fr.unl (f : Fr (w.lk d (.frz od u)) H w' H') (hd : w.hs d = some u) (hHd : H d = some (.frz od u)) {HB HB' : Hp} (hb : ∀ a, a ≠ d → H a = HB a) (hb' : ∀ a, a ≠ d → HB' a = H' a) (hk : HB' d = HB d) : Fr w HB (w'.lk d u) HB' :=
  ⟨fun a o q => by
    by_cases z : a = d
    · subst z; rw [hd] at q; cases q; exact upd_same
    · show upd w'.hs d u a = _
      rw [upd_ne z]; exact f.sh a o (by rw [← q]; exact upd_ne z), fun a o q n => by
    by_cases z : a = d
    · subst z
      refine ⟨by rw [hk]; exact q, ?_, fun t => by rw [hd] at t; cases t⟩
      exact (f.kp a _ hHd n).2.1
    · obtain ⟨k1, k2, k3⟩ := f.kp a o (by rw [hb a z]; exact q) n
      refine ⟨by rw [hb' a z]; exact k1, k2, fun t => ?_⟩
      show upd w'.hs d u a = none
      rw [upd_ne z]
      exact k3 (by rw [← t]; exact upd_ne z), fun a o q => by
    by_cases z : a = d
    · subst z; exact ⟨o, by rw [hk]; exact q⟩
    · rw [hb' a z]; exact f.lv a o (by rw [hb a z]; exact q), f.me⟩
theorem Fresh.unl {v : V} {x : D} (f : Fresh K w H0 H v x) (hd : w.hs d = some (.frz od u)) {HB HB' : Hp} (hb : ∀ a, H0 a = none → HB a = none) (hb' : ∀ a, a ≠ d → HB' a = H a) : Fresh K (w.lk d u) HB HB' v x := by
  have ne : ∀ {a}, w.hs a = none → a ≠ d := fun {a} q z => by subst z; rw [hd] at q; cases q
  have hn : ∀ {a}, w.hs a = none → (w.lk d u).hs a = none := fun {a} q => by show upd w.hs d u a = none; rw [upd_ne (ne q)]; exact q
  cases f with
  | lst h1 h2 h3 h4 h5 h6 => exact .lst (hb _ h1) h2 (hn h3) (by rw [hb' _ (ne h3)]; exact h4) h5 (h6.unl hd)
  | dK h1 h2 h3 h4 h5 h6 => exact .dK (hb _ h1) h2 (hn h3) (by rw [hb' _ (ne h3)]; exact h4) h5 (h6.unl hd)
  | dT h1 h2 h3 h4 h5 h6 => exact .dT (hb _ h1) h2 (hn h3) (by rw [hb' _ (ne h3)]; exact h4) h5 (h6.unl hd)
  | flow h1 h2 h3 h4 h5 h6 h7 h8 h9 h10 => exact .flow (hb _ h1) (hb _ h2) h3 h4 (hn h5) (hn h6) h7 (by rw [hb' _ (ne h5)]; exact h8) (by rw [hb' _ (ne h6)]; exact h9) h10
  | nums h1 h2 h3 h4 => exact .nums (hb _ h1) h2 (hn h3) (by rw [hb' _ (ne h3)]; exact h4)
end
/-! ### list comprehensions over a dict's keys -/
def ItyL (K : PySem.W.Frag) (J : It) (w : Wd) (ds : List D) : Prop := ∃ (G : Hp → Prop) (Y : Nat → Hp → V → Hp → Prop), Walk J ds.length G Y ∧ (∀ H, Sub w.hs H → G H) ∧
  ∀ i H x H' d, Y i H x H' → ds[i]? = some d → H' = H ∧ (Rep K w.hs x d ∨ ∃ T xs ds', x = .ref T ∧ H T = some (.tup xs) ∧ xs.length ≤ sizeLine ∧ RepAll K w.hs xs ds' ∧ d = .tup ds')
theorem ItyL.yield {K : PySem.W.Frag} {w0 w : Wd} {ρ : En} {σ : L2.St} {ds : List D} {i : Nat} {H H' : Hp} {x : V} {d : D} (ok : EnvOk K w ρ σ H) (sm : Same w0.hs w.hs)
    (h : H' = H ∧ (Rep K w0.hs x d ∨ ∃ T xs ds', x = .ref T ∧ H T = some (.tup xs) ∧ xs.length ≤ sizeLine ∧ RepAll K w0.hs xs ds' ∧ d = .tup ds')) : ∃ w', Fr w H w' H' ∧ EnvOk K w' ρ σ H' ∧ Rep K w'.hs x d := by
  obtain ⟨rfl, h⟩ := h
  rcases h with r | ⟨T, xs, ds', rfl, hT, hl, r, rfl⟩
  · exact ⟨w, .refl _ _, ok, r.mono (.of sm)⟩
  · exact ⟨w, .refl _ _, ok, .tup (ok.tups _ _ hT) hl (r.mono (.of sm))⟩
def tItL (K : PySem.W.Frag) (L : Wd → L2.St → Prop) (f : FI) : TI := fun σ H R => ∃ w ρ ds ρ', EnvOk K w ρ σ H ∧ L w σ ∧ f ρ = some (ds, ρ') ∧ ∀ J w' H', Fr w H w' H' → EnvOk K w' ρ' σ H' → ItyL K J w' ds → R J H'
def tNL (K : PySem.W.Frag) (L : Wd → L2.St → Prop) (f : FE) : TE := fun σ H Q => ∃ w ρ d ρ', EnvOk K w ρ σ H ∧ L w σ ∧ f ρ = some (d, ρ') ∧ ∀ v w' H', Fr w H w' H' → EnvOk K w' ρ' σ H' → Fresh K w' H H' v d → Q v H'
section
variable {K : PySem.W.Frag} {us : List Nat} {fi : FI} {fg : FG} {fc : FT} {fe : FE}
theorem lc_readL {L : Wd → L2.St → Prop} {σ : L2.St} {H : Hp} {Q : VK} (q : tNL K L (fLC us fi fg fc fe) σ H Q) : tLc (tItL K L fi) (tGt K us fg) (tTb K fc) (tV K fe) us σ H Q := by
  obtain ⟨w, ρ, d, ρ', ok, hL, ef, k⟩ := q
  obtain ⟨⟨ds, ρ1⟩, e1, e2⟩ := Option.bind_eq_some_iff.mp ef
  obtain ⟨⟨ts, ρ2⟩, e3, e4⟩ := Option.bind_eq_some_iff.mp e2
  obtain ⟨d', e5, e6⟩ := Option.map_eq_some_iff.mp e4
  cases e6
  unfold mkL at e5
  split at e5
  case isFalse => cases e5
  rename_i hl
  have ed : D.lst ts = d := Option.some.inj e5
  subst ed
  refine ⟨w, ρ, ds, ρ1, ok, hL, e1, fun J w1 H1 f1 ok1 it => ?_⟩
  obtain ⟨G, Y, wk, hG, hY⟩ := it
  intro A hA
  obtain ⟨hA1, hA2⟩ := ok1.free hA
  refine lc_it wk (Qd := fun H' => Q (.ref A) H') (fun i H' => ∃ w' ρ' acc dacc rest, Fr w1 H1 w' H' ∧ EnvOk K w' (wipeE ρ' us) (wipe σ us) H' ∧ H' A = some (.lst acc) ∧ RepAll K w'.hs acc dacc ∧ w'.own A = none ∧ w'.hs A = none ∧ lcL us fg fc fe (ds.drop i) ρ' = some (rest, ρ2) ∧ ts = dacc ++ rest) ?_ (fun i H' _ h => ?_) (fun i x H' H'' hi h y => ?_) fun H' h => ?_
  · obtain ⟨f2, ok2⟩ := ok1.tmp (o := .lst []) hA (fun _ z => nomatch z)
    exact ⟨w1, ρ1, [], [], ts, f2, (ok2.wipe (us := us) (σ := σ) rfl).wipe wipe_wipe.symm |> (fun z => by rw [wipeE_wipeE] at z; exact z), upd_same, .nil, hA2, hA1, e3, rfl⟩
  · obtain ⟨w', ρ', acc, dacc, rest, f', ok', _⟩ := h
    exact hG _ fun a o q => ok'.sub a o (f'.sh a o q)
  · obtain ⟨w', ρ', acc, dacc, rest, f', ok', hD, hr, ho, hh, el, et⟩ := h
    have hd : ds[i]? = some ds[i] := List.getElem?_eq_getElem hi
    obtain ⟨w2, f2, ok2, r2⟩ := ItyL.yield (ds := ds) (i := i) ok' f'.sh (hY i H' x H'' _ y hd)
    rw [List.drop_eq_getElem_cons hi] at el
    obtain ⟨ρ3, e7, e8⟩ := Option.bind_eq_some_iff.mp el
    obtain ⟨⟨b, ρ4⟩, e9, e10⟩ := Option.bind_eq_some_iff.mp e8
    refine ⟨w2, wipeE ρ' us, ds[i], ρ3, ok2, r2, e7, fun σ3 hw ok3 => ⟨hw.trans wipe_wipe, w2, ρ3, b, ρ4, ok3, e9, fun w4 H4 f4 ok4 => ?_⟩⟩
    rw [wipe_wipe] at hw
    have f24 := f2.trans f4
    obtain ⟨hD4, ho4, hh4⟩ := f24.kp A _ hD ho
    have hr4 := hr.mono (.of f24.sh)
    cases b with
    | false =>
      refine i_if0 ?_
      have e10' : lcL us fg fc fe (ds.drop (i + 1)) ρ4 = some (rest, ρ2) := e10
      exact ⟨w4, ρ4, acc, dacc, rest, f'.trans f24, ok4.wipe (by rw [hw, wipe_wipe]), hD4, hr4, ho4, hh4 hh, e10', et⟩
    | true =>
      refine i_it ?_
      obtain ⟨⟨z, ρ5⟩, e11, e12⟩ := Option.bind_eq_some_iff.mp (show (fe ρ4).bind _ = some (rest, ρ2) from e10)
      obtain ⟨⟨rs, ρ6⟩, e13, e14⟩ := Option.map_eq_some_iff.mp e12
      cases e14
      refine ⟨w4, ρ4, z, ρ5, ok4, e11, fun v w5 H5 f5 ok5 r5 => ?_⟩
      obtain ⟨hD5, ho5, hh5⟩ := f5.kp A _ hD4 ho4
      have hr5 := hr4.mono (.of f5.sh)
      have hlen : acc.length < sizeLine := by
        have e1' := hr5.length
        rw [et, List.length_append, List.length_cons] at hl
        omega
      refine ⟨acc, hD5, hlen, w5, ρ5, acc ++ [v], dacc ++ [z], rs, ((f'.trans f24).trans f5).chg hA, (ok5.wipe (us := us) (σ := wipe σ us) (by rw [hw, wipe_wipe])).chg hD5 ho5 (hh5 (hh4 hh)) (fun _ z => nomatch z), upd_same, hr5.append (.one r5), ho5, hh5 (hh4 hh), e13, by rw [et]; simp⟩
  · obtain ⟨w', ρ', acc, dacc, rest, f', ok', hD, hr, ho, hh, el, et⟩ := h
    rw [List.drop_length] at el
    cases el
    rw [List.append_nil] at et
    subst et
    exact k _ w' H' (f1.trans f') (ok'.wipe wipe_wipe |> fun z => by rw [wipeE_wipeE] at z; exact z) (.lst (f1.free hA) ho hh hD (by rw [hr.length]; exact hl) hr)

end
def gKb : D → Bool
  | .int _ => true
  | .str x => decide (x.length ≤ sizeLine) && PyData.strOk x
  | _ => false
def gTb : D → Bool
  | .tup ds => decide (ds.length ≤ sizeLine) && ds.all gKb
  | _ => false
/-- the keys of the dict in slot i -/
def iK (i : Nat) : FI := fun ρ => match ρ[i]? with
  | some (.s (.dct 0 ks _)) => if ks.all gKb then some (ks, ρ) else none
  | some (.s (.dct 1 ks _)) => if ks.all gTb then some (ks, ρ) else none
  | _ => none
def LK (i : Nat) (w : Wd) (σ : L2.St) : Prop := ∃ d od u, σ[i]? = some (some (.ref d)) ∧ w.hs d = some (.frz od u)
theorem kV_rep {K : PySem.W.Frag} {H : Hp} {k : Key} (h : gKb (keyD k) = true) : Rep K H (kV k) (keyD k) := by
  cases k with
  | inl i => exact .int i
  | inr x => exact .str (SG.of h)
theorem kVs_rep {K : PySem.W.Frag} {H : Hp} : ∀ {ks : List Key}, (ks.map keyD).all gKb = true → RepAll K H (ks.map kV) (ks.map keyD)
  | [], _ => .nil
  | k :: ks, h => by
    rw [List.map_cons, List.all_cons, Bool.and_eq_true] at h
    exact .cons (kV_rep h.1) (kVs_rep h.2)
section
variable {X : Cx} {tg : Expr} {pos : Pos} {x : Str} {i : Nat}
theorem vi_keys (h : PE X (.Name x pos) (tVar i)) : PI X tg (.Name x pos) (tItL X.K (LK i) (iK i)) := by
  have h0 : PI X tg (.Name x pos) (iKeys (tVar i)) := pi_keys h
  refine orI (ι := Unit) (fun _ => h0) fun σ H R q => ⟨(), ?_⟩
  obtain ⟨w, ρ, ds, ρ', ok, ⟨d, od, u, hσ, hd⟩, ef, k⟩ := q
  have hHd : H d = some (.frz od u) := by
    rcases ok.sub d _ hd with q | ⟨n, _⟩
    · exact q
    · exact n.elim
  unfold iK at ef
  split at ef
  · rename_i ks vs e
    split at ef
    case isFalse => cases ef
    rename_i hg
    cases ef
    obtain ⟨v, h1, h2⟩ := ok.sh i _ e
    rw [hσ] at h1; cases h1
    refine ⟨_, hσ, d, od, rfl, ?_⟩
    cases h2 with
    | @dK _ kvs _ _ q1 q2 q3 =>
      have eu : u = .dK kvs := by
        rcases q1 with q1 | ⟨ob, q1⟩
        · rw [hd] at q1; cases q1
        · rw [hd] at q1; cases q1; rfl
      subst eu
      refine .inl ⟨kvs, hHd, k _ w H (.refl _ _) ok ?_⟩
      refine ⟨_, fun i H x H' => H' = H ∧ ∃ k v, kvs[i]? = some (k, v) ∧ x = kV k, by rw [q2, List.length_map]; exact walk_keys, fun H' s => ?_, fun j H1 y H2 dd yy hdd => ⟨yy.1, .inl ?_⟩⟩
      · rcases s d _ hd with q | ⟨n, _⟩
        · exact q
        · exact n.elim
      · obtain ⟨_, kk, vv, e1, rfl⟩ := yy
        rw [q2, List.getElem?_map, e1] at hdd
        cases hdd
        refine kV_rep ?_
        rw [q2, List.all_map] at hg
        exact List.all_eq_true.mp hg _ (List.mem_of_getElem? e1)
  · rename_i ks vs e
    split at ef
    case isFalse => cases ef
    rename_i hg
    cases ef
    obtain ⟨v, h1, h2⟩ := ok.sh i _ e
    rw [hσ] at h1; cases h1
    refine ⟨_, hσ, d, od, rfl, ?_⟩
    cases h2 with
    | @dT _ kvs _ _ q1 q2 q3 =>
      have eu : u = .dT kvs := by
        rcases q1 with q1 | ⟨ob, q1⟩
        · rw [hd] at q1; cases q1
        · rw [hd] at q1; cases q1; rfl
      subst eu
      refine .inr ⟨kvs, hHd, k _ w H (.refl _ _) ok ?_⟩
      refine ⟨_, fun i H x H' => H' = H ∧ ∃ (k : List Key) (v : V) (q : Addr), kvs[i]? = some (k, v) ∧ x = .ref q ∧ H q = some (.tup (k.map kV)), by rw [q2, List.length_map]; exact walk_keysT, fun H' s => ?_, fun j H1 y H2 dd yy hdd => ⟨yy.1, .inr ?_⟩⟩
      · rcases s d _ hd with q | ⟨n, _⟩
        · exact q
        · exact n.elim
      · obtain ⟨_, kk, vv, q, e1, rfl, e2⟩ := yy
        rw [q2, List.getElem?_map, e1] at hdd
        cases hdd
        rw [q2, List.all_map] at hg
        have g := List.all_eq_true.mp hg _ (List.mem_of_getElem? e1)
        have g' : (decide ((kk.map keyD).length ≤ sizeLine) && (kk.map keyD).all gKb) = true := g
        rw [Bool.and_eq_true] at g'
        exact ⟨q, _, _, rfl, e2, by have := of_decide_eq_true g'.1; simpa using this, kVs_rep g'.2, rfl⟩
  · cases ef
/-- the comprehension over the keys of a dict that a slot shares -/
theorem vn_lcK {elt : Expr} {ifs : List Expr} {scope : Scope} {own : List (Str × Nat)} {fg : FG} {fc : FT} {fe : FE} {us : List Nat} {p : Pos} (hc : X.calm = true) (hN : X.N.Nodup) (hu : own.map (·.2) = us) (h : PE X (.Name x p) (tVar i)) (ok : BlkOk X.N X.env.scope scope own)
    (hg : ∀ (s : Shared) (H : Hp) (C : Addr) (cl : List (Str × Addr)) (fp : List Addr), VG (X.blk s H scope (compEnvC scope cl C X.env) fp) tg us fg) (ht : ∀ (s : Shared) (H : Hp) (C : Addr) (cl : List (Str × Addr)) (fp : List Addr), VTs (X.blk s H scope (compEnvC scope cl C X.env) fp) ifs fc)
    (he : ∀ (s : Shared) (H : Hp) (C : Addr) (cl : List (Str × Addr)) (fp : List Addr), VE (X.blk s H scope (compEnvC scope cl C X.env) fp) elt fe) (hs : ∀ y, foldedSetIterable (.Name x p) X.env y = pure y := by intro _; rfl) :
    VN X (.ListComp elt [⟨tg, .Name x p, ifs, 0⟩] scope pos) (fLC us (iK i) fg fc fe) := by
  subst hu
  have core := pe_lc (pos := pos) (g := tGt X.K (own.map (·.2)) fg) (tt := tTb X.K fc) (te := tV X.K fe) hc hN (vi_keys (tg := tg) h) ok hg ht he hs
  refine orE (ι := Bool) (t := fun b => match b with | true => tLockE _ | false => _) (fun b => match b with | true => pe_lock core | false => core) fun σ H Q q => ?_
  obtain ⟨w, ρ, d, ρ', ok, ef, k⟩ := q
  have hi : ∃ t ks vs, ρ[i]? = some (.s (.dct t ks vs)) := by
    obtain ⟨⟨ds, ρ1⟩, e1, e2⟩ := Option.bind_eq_some_iff.mp ef
    unfold iK at e1
    split at e1
    · rename_i e; exact ⟨_, _, _, e⟩
    · rename_i e; exact ⟨_, _, _, e⟩
    · cases e1
  obtain ⟨t, ks, vs, e⟩ := hi
  obtain ⟨v, hv, r⟩ := ok.sh i _ e
  have hr : ∃ a u, v = .ref a ∧ IsDct u ∧ Rd w.hs a u := by
    cases r with
    | @dK _ kvs _ _ q1 q2 q3 => exact ⟨_, .dK kvs, rfl, trivial, q1⟩
    | @dT _ kvs _ _ q1 q2 q3 => exact ⟨_, .dT kvs, rfl, trivial, q1⟩
  obtain ⟨a, u, rfl, hu, hd⟩ := hr
  have mu : Mut (some u) := by cases u <;> first | trivial | exact hu.elim
  rcases hd with hd | ⟨od, hd⟩
  · have ho : w.own a = none := by
      cases q : w.own a with
      | none => rfl
      | some j => rw [ok.disj a j q] at hd; cases hd
    rcases ok.sub a u hd with hH | ⟨_, od, hH⟩
    · refine ⟨true, a, u, hH, mu, fun od => ?_⟩
      refine lc_readL (L := LK i) ⟨w.lk a (.frz od u), ρ, d, ρ', ok.lk hd hu rfl, ⟨a, od, u, hv, upd_same⟩, ef, fun v' w' H' f' ok' fr' => ?_⟩
      have hd' : w'.hs a = some (.frz od u) := f'.sh a _ upd_same
      refine ⟨(f'.kp a _ upd_same ho).1, ?_⟩
      refine k v' (w'.lk a u) (upd H' a u) (f'.unl hd upd_same (fun b z => upd_ne z) (fun b z => upd_ne z) (by rw [upd_same, hH])) (ok'.unl hd' hu (.inl rfl)) (fr'.unl hd' (fun b z => ?_) fun b z => upd_ne z)
      by_cases zz : b = a
      · subst zz; rw [upd_same] at z; cases z
      · rw [upd_ne zz] at z; exact z
    · refine ⟨false, ?_⟩
      have eH : H = upd H a (.frz od u) := funext fun b => by
        by_cases z : b = a
        · subst z; rw [upd_same, hH]
        · rw [upd_ne z]
      refine lc_readL (L := LK i) ⟨w.lk a (.frz od u), ρ, d, ρ', ok.lk hd hu eH, ⟨a, od, u, hv, upd_same⟩, ef, fun v' w' H' f' ok' fr' => ?_⟩
      have hd' : w'.hs a = some (.frz od u) := f'.sh a _ upd_same
      exact k v' (w'.lk a u) H' (f'.unl hd hH (fun b z => rfl) (fun b z => rfl) (by rw [(f'.kp a _ hH ho).1, hH])) (ok'.unl hd' hu (.inr rfl)) (fr'.unl hd' (fun b z => z) fun b z => rfl)
  · refine ⟨false, ?_⟩
    exact lc_readL (L := LK i) ⟨w, ρ, d, ρ', ok, ⟨a, od, u, hv, hd⟩, ef, k⟩
end
end VS
/-! promises kept where nothing is being shown (A.guards is empty): wanted for repr of lists and tuples -/
namespace AR
open PySem PySem.Spec PyProof.Rows L2
structure FnG (pr : Program) (wo : World) (K : PySem.W.Frag) (mg : Str → Option Value) (base : Heap) (k : Nat) (f : Addr) (fd : FuncData) (ps : List Str) (sp : Sp) : Prop where
  len : ∀ vs H Q E, sp vs H Q E → vs.length = ps.length
  run : ∀ (A : Around) (up : List Env) (st : Shared) (H : Hp) (args : Args) (us : List Value) (vs : List V) (Q : VK) (E : XK), Room k A → A.guards = some [] → Env0 pr wo K mg base A up st H → BindsTo st fd args (ps.zip us) → Vals vs us → sp vs H Q E →
    codeAny (model pr wo) A (.call (.ref f) args) (CR L2.CX0 up pr wo H st Q E) st
section
variable {pr : Program} {wo : World} {K : PySem.W.Frag} {mg : Str → Option Value} {base : Heap}
theorem okG {x qual : Str} {params : Arguments} {body : List Stmt} {sc : Scope} {f : Addr} {fd : FuncData} {N ps : List Str} {k : Nat} {sp : Sp} {dvs : List V} {kws : List (Str × V)} (F : FunD K x qual params body sc dvs kws f fd) (S : FnScope N ps sc) (len : ∀ vs H Q E, sp vs H Q E → vs.length = ps.length)
    (hbody : ∀ (cdv : Value) (A : Around) (up : List Env) (st : Shared) (H : Hp) (vs : List V) (Q : VK) (E : XK), Room k (A.deeper (envOfC qual sc st.heap.objs.size f cdv)) → A.guards = some [] → sp vs H Q E →
      ∃ t, PSs (cxOf L2.CX0 pr wo K mg base N qual sc f cdv A up st H E).nox body t ∧ t { nx := fun _ H' => Q .non H', rt := Q } (start N vs) H) : FnG pr wo K mg base (k + 1) f fd ps sp := by
  obtain ⟨oc, od, dV, kV, doc, pm, an, cdv, ct, osl, rfl, lk, hcd, _, _⟩ := F.ex
  refine ⟨len, fun A up st H args us vs Q E room gu e0 bind rel want => ?_⟩
  have kin : K.In st.heap := e0.mod.kin.keeps fun b o e => (e0.bs b o e).1
  have nolim : st.heap.NoLimit := e0.mod.nolimit.keeps fun b o e => (e0.bs b o e).1
  have kinds : ∀ y ∈ ps.zip us, sc.names.lookup y.1 = some .local ∨ (sc.names.lookup y.1 = some .cell ∧ ((cellsFrom (st.heap.objs.size + 1) sc.names []).lookup y.1).isSome = true) := fun ⟨n, v⟩ hy =>
    (S.par n (List.of_mem_zip hy).1).elim .inl fun q => .inr ⟨q, PySem.W.cellsFrom_some _ _ _ (.inl q)⟩
  refine codeAny_call_function room.depth (kin _ _ lk) rfl S.co S.gen rfl (PySem.W.codeRec_of kin hcd) (bind _ _ _ _ ?_)
  refine wpAny_newFunctionEnv_cells S.kind kinds fun env he t1 x => ?_
  subst he
  refine ⟨nolim.keeps x.toInCall.keep, codeAny_func ?_⟩
  obtain ⟨t, ht, hq⟩ := hbody cdv A up st H vs Q E (room.deeper _) gu want
  have I : Inv (cxOf L2.CX0 pr wo K mg base N qual sc f cdv A up st H E) [] (start N vs) H t1 := inv_start S room.hd e0 (len _ _ _ _ want) rel x
  refine wpAny_mono (ht.nox.run [] t1 (start N vs) H _ I hq) (fun fl z hz => ?_) fun e z hz => hz
  have done : ∀ {σ' : L2.St} {H' : Hp} {v : V} {u : Value}, Inv (cxOf L2.CX0 pr wo K mg base N qual sc f cdv A up st H E) [] σ' H' z → RelV v u → Q v H' → CE up pr wo H st Q u z := fun {σ' H' v u} J rv q => ⟨v, H', J.os, J.bare, J.base, J.hok, rv, q⟩
  cases fl with
  | next => obtain ⟨σ', H', J, q⟩ := hz; exact done (v := V.non) (u := Value.none) J rfl q
  | ret u => obtain ⟨v, σ', H', J, rv, q⟩ := hz; exact done J rv q
  | brk => obtain ⟨_, _, _, q⟩ := hz; exact q.elim
  | cont => obtain ⟨_, _, _, q⟩ := hz; exact q.elim
/-- a promise kept everywhere is kept there -/
theorem FnG.of {k : Nat} {f : Addr} {fd : FuncData} {ps : List Str} {sp : Sp} (F : FnOk pr wo K mg base L2.CX0 k f fd ps sp) : FnG pr wo K mg base k f fd ps sp := ⟨F.len, fun A up st H args us vs Q E r _ => F.run A up st H args us vs Q E r⟩
end
/-- a def of the module that keeps such a promise -/
structure CalG (pr : Program) (wo : World) (K : PySem.W.Frag) (mg : Str → Option Value) (base : Heap) (k : Nat) (x : Str) (sp : Sp) : Prop where
  ex : ∃ (f : Addr) (fd : FuncData) (ps : List Str), FnG pr wo K mg base k f fd ps sp ∧ mg x = some (.ref f) ∧ PySem.W.keepIn K (.ref f) = true ∧ Binds K fd ps []
section
variable {X : Cx}
theorem pass0 : Passes L2.CX0 X C8.E0 := C8.pass0
theorem pe_cG {k j : Nat} {x : Str} {sp : Sp} {e : Expr} {es : List Expr} {t : TA} {p pos : Pos} (c : CalG X.prog X.w X.K X.mg X.base k x sp) (hr : Room j X.A) (hgu : X.A.guards = some []) (hk : k ≤ j) (hg : Gl X x) (ha : PA X (e :: es) t)
    (hdb : (x == ("__debug__" : Str)) = false := by decide) (he : starEach (e :: es) X.env = (false, eval e X.env) :: starEach es X.env := by rfl) (hpl : (backTo pos (starEach es X.env)).any (·.1) = false := by rfl) :
    PE X (.Call (.Name x p) (e :: es) [] pos) (tCall sp [] C8.E0 t) := by
  obtain ⟨f, fd, ps, F, hm, kp, b⟩ := c.ex
  refine ⟨fun pins st σ H Q I h => ?_⟩
  refine wpAny_Call_Name_kw (ld_glob I hg hm ?_ hdb)
  refine PySem.W.callWith_K (h₀ := X.base) I.ok.mod.kin kp (thn (ha.run pos pins st σ H _ I h) fun us t1 ⟨vs, H1, I1, r, q⟩ => ⟨I1.kIn, ?_⟩) he hpl
  replace q : sp vs H1 Q C8.E0 := by simpa using q
  have hl : (us ++ []).length = ps.length := by rw [List.append_nil, ← r.length]; exact F.len _ _ _ _ q
  have bd := b t1 us I1.kIn hl
  rw [List.append_nil] at bd
  refine wpAny_call (codeAny_mono (F.run X.A X.stack t1 H1 ⟨us, []⟩ us vs Q C8.E0 (hr.mono hk) hgu I1.env0 bd r q) fun r z hq => ?_)
  cases r with
  | error e => exact pass0 pins σ H1 t1 e z I1 hq
  | ok fl => cases fl with
    | ret u => exact I1.after hq
    | next => exact hq.elim
    | brk => exact hq.elim
    | cont => exact hq.elim
end
/-! ### the end of a law whose promise is kept where nothing is being shown -/
section
variable {pr : Program} {wo : World} {K : PySem.W.Frag} {mg mb : Str → Option Value} {k : Nat} {fa a : Addr} {fd : FuncData} {x : Str} {sp : Sp} {t0 : Shared} {vs : List Value} {ns : List Int}
theorem lawG (KX : K.In t0.heap) (hns : t0.heap.Ns mainGlobals mg) (hb : t0.heap.Ns builtinsNs mb) (hbb : ∀ x : Str, x ≠ "__name__" → mb x = bootBuiltins x) (hlim : t0.heap.NoLimit) (hg : t0.gens = #[])
    (ha : t0.heap.get? a = some { cls := .type "list", data := .seq vs.toArray }) (hi : IntsAre vs ns) (hl : ns.length ≤ sizeLine) (hr : Room k callerA)
    (F : ∀ base : Heap, K.In base → base.Ns mainGlobals mg → FnG pr wo K mg base k fa fd [x] sp) (hbind : ∀ (s : Shared) (u : Value), BindsTo s fd ⟨[u], []⟩ [(x, u)])
    (hsp : ∀ H : Hp, Only H → SqL K H a (ns.map V.int) → sp [.ref a] H (fun v _ => v = .bl true) fun _ _ _ => False) :
    codeAny (model pr wo) callerA (.call (.ref fa) ⟨[.ref a], []⟩) (fun r z => r = .ok (.ret (.bool true)) ∧ OldK t0.heap z.heap ∧ z.os = t0.os ∧ AllBare z.gens) t0 := by
  have rel := vals_ints hi
  have from_ : ∀ H : Hp, Only H → SqL K H a (ns.map V.int) → HOk pr wo H t0.heap → (∀ b u, H b = some u → b = a) → (∀ u, H a = some u → K.lookup a = none) →
      codeAny (model pr wo) callerA (.call (.ref fa) ⟨[.ref a], []⟩) (fun r z => r = .ok (.ret (.bool true)) ∧ OldK t0.heap z.heap ∧ z.os = t0.os ∧ AllBare z.gens) t0 := by
    intro H only sq hok one notK
    have ns' : ∀ {b : Addr} {m : Str → Option Value}, t0.heap.Ns b m → (hidT t0.heap H).Ns b m := fun {b m} ⟨o, es, ep, e, d, r⟩ => by
      refine ⟨o, es, ep, hidT_get e ?_, d, r⟩
      cases q : H b with
      | none => rfl
      | some u =>
        have e2 := one b u q
        subst e2
        rw [ha] at e
        cases e
        cases d
    have kin : K.In (hidT t0.heap H) := fun b o e => hidT_get (KX b o e) (by
      cases q : H b with
      | none => rfl
      | some u =>
        have e2 := one b u q
        subst e2
        rw [notK u q] at e
        cases e)
    obtain ⟨mc, lim1, lim2⟩ := hlim
    have e0 : Env0 pr wo K mg (hidT t0.heap H) callerA [] t0 H := ⟨rfl, ⟨kin, ns' hns, ⟨mb, ns' hb, hbb⟩, ⟨mc, ns' lim1, lim2⟩⟩, fun b o e => of_hidT e, Nat.le_of_eq (hidT_size _ _), trivial, fun b hb => (by cases hb), hok, .of_eq hg⟩
    refine codeAny_mono ((F _ kin (ns' hns)).run callerA [] t0 H ⟨[.ref a], []⟩ [.ref a] [.ref a] _ _ hr rfl e0 (hbind t0 (.ref a)) (.cons rfl .nil) (hsp H only sq)) fun r z h => ?_
    match r, h with
    | .error e, h => exact (show False from h).elim
    | .ok (.ret u), ⟨v, H', os, bare, un, hok', r', q⟩ =>
      replace q : v = .bl true := q
      subst q
      obtain rfl : u = Value.bool true := r'
      refine ⟨rfl, OldK.of_keep fun b o e => ?_, os, bare⟩
      cases q : H b with
      | none => exact un.keep b o e q (fun zz => by cases zz) (by simp)
      | some u =>
        rcases only b with zz | ⟨ob, xs, zz⟩
        · rw [q] at zz; cases zz
        · obtain ⟨g1, _⟩ := hok b _ zz
          obtain ⟨g2, _⟩ := hok' b _ (un.frzs b ob _ zz)
          rw [e] at g1
          cases g1
          exact g2
  cases hk : K.lookup a with
  | some o =>
    have e := KX a o hk
    rw [ha] at e
    cases e
    exact from_ (fun _ => none) (fun _ => .inl rfl) (.inr ⟨_, vs.toArray, _, hk, rfl, rfl, rfl, by rw [List.size_toArray, hi.length]; exact hl, by simpa using rel⟩) (fun b u zz => nomatch zz) (fun b u zz => nomatch zz) fun u zz => nomatch zz
  | none =>
    have here : ∀ b u, (if b = a then some (HO.frz { cls := .type "list", data := .seq vs.toArray } (.lst (ns.map V.int))) else none) = some u → b = a ∧ u = .frz { cls := .type "list", data := .seq vs.toArray } (.lst (ns.map V.int)) := fun b u e => by
      by_cases hb : b = a
      · rw [if_pos hb] at e; cases e; exact ⟨hb, rfl⟩
      · rw [if_neg hb] at e; cases e
    refine from_ (fun b => if b = a then some (.frz { cls := .type "list", data := .seq vs.toArray } (.lst (ns.map V.int))) else none) (fun b => ?_) (.inl (.inr ⟨_, if_pos rfl⟩)) (fun b u zz => ?_) (fun b u zz => (here b u zz).1) fun _ _ => hk
    · by_cases hb : b = a
      · exact .inr ⟨_, _, if_pos hb⟩
      · exact .inl (if_neg hb)
    · obtain ⟨rfl, rfl⟩ := here b u zz
      exact ⟨ha, by rw [List.length_map]; exact hl, vs, _, rel, ha⟩
end
theorem walkG {l : PySem.W.OpenLaw} {n k : Nat} {q : Program} {loose : List Str} {XP : (Str → Option Value) → Heap → Prop} {YP : World → Heap → Prop} {d : DefRec} {x : Str} (hn : l.most = some n) (hn2 : n ≤ sizeLine) (hdf : d.params.defaults = []) (hr : Room k callerA)
    (F : ∀ (w : World) (mg : Str → Option Value) (fa : Addr) (h : Heap), YP w h → h.Ns mainGlobals mg → mg d.name = some (.ref fa) →
      ∃ (K : PySem.W.Frag) (fd : FuncData) (sp : Sp), K.In h ∧ (∀ (s : Shared) (u : Value), BindsTo s fd ⟨[u], []⟩ [(x, u)]) ∧
        (∀ (H : Hp) (a : Addr) (ns : List Int), ns.length ≤ n → Only H → SqL K H a (ns.map V.int) → sp [.ref a] H (fun v _ => v = .bl true) fun _ _ _ => False) ∧ ∀ base : Heap, K.In base → base.Ns mainGlobals mg → FnG l.prog w K mg base k fa fd [x] sp) :
    PySem.W.WalkO q loose XP YP l.row.toRowW d [] (fun f vs => PySem.call f vs) := by
  refine Att.attach_call hn hdf fun w s0 s1 mg mb fa o pm cd doc a vs ns G Y ho hd hcd hmg hobj hints hlen hg => ?_
  obtain ⟨K, fd, sp, KX, hb, want, hF⟩ := F w mg fa _ Y G.T.g hmg
  exact lawG KX G.T.g G.T.b G.T.builtins G.T.nolimit hg hobj hints (Nat.le_trans hlen hn2) hr hF hb fun H hO hS => want H a ns hlen hO hS
end AR
namespace AR
open PySem PySem.Spec PyProof.Rows L2
section
variable (K : PySem.W.Frag) {X : Cx}
/-- repr of a list, a tuple of data of any depth -/
def rRepr : List V → Hp → VK → Prop := fun xs H Q => ∃ (a : Addr) (d : PyData), xs = [.ref a] ∧ Dp K H (.ref a) d ∧ d.showable = true ∧ d.hasDict = false ∧ d.depth ≤ 64 ∧ d.shown.length ≤ sizeLine ∧ Q (.str d.shown) H
theorem call_reprK (hgu : X.A.guards = some []) (hu : X.A.units + 66 < cLine) (hK : X.K = K := by rfl) : CallR X (.builtin "repr") (rRepr K) := by
  subst hK
  intro pins st σ H xs us Q I r h
  obtain ⟨a, d, rfl, hd, sh, nd, dep, sz, q⟩ := h
  obtain ⟨u, rfl, ru⟩ := vals1 r
  cases (show u = Value.ref a from ru)
  obtain ⟨as, hr⟩ := Dp.reads I d _ _ hd rfl
  refine repr_of_reads' hr sh (fun e => by rw [nd] at e; cases e) hgu (by omega) (fun b o e => e) (fun h' t tk kp => ?_) sz
  exact ⟨.str d.shown, H, I.kept kp, ⟨t, rfl⟩, q⟩
end
end AR
set_option autoImplicit false
namespace VS
open PySem PySem.Spec PyProof.Rows L2 AR
def isSq : D → Bool
  | .lst _ => true
  | .tup _ => true
  | _ => false
def shO (p : PyData) : Bool := p.showable && !p.hasDict && decide (p.depth ≤ 64) && (decide (p.shown.length ≤ sizeLine) && PyData.strOk p.shown)
def reprO (d : D) : Option D := (toP d).bind fun p => if isSq d && shO p then some (.str p.shown) else none
section
variable {X : Cx} {a : Expr} {f : FE} {pos p : Pos} {k : Nat}
theorem ve_repr (hgu : X.A.guards = some []) (hu : X.A.units + 66 < cLine) (hg : Gl X "repr") (hb : X.mg "repr" = none) (h : VE X a f) (he : starEach [a] X.env = (false, eval a X.env) :: starEach [] X.env := by rfl) : VE X (.Call (.Name "repr" p) [a] [] pos) (fU reprO f) := by
  refine ve_call1 (pe_callB (call_reprK X.K hgu hu) hg hb (by decide +kernel) (pa_cons h pa_nil he) (he := he)) fun w ρ σ H v d d' Q ok r ed k => ?_
  obtain ⟨q, e1, e2⟩ := Option.bind_eq_some_iff.mp ed
  split at e2
  case isFalse => cases e2
  rename_i hc
  cases e2
  unfold shO at hc
  simp only [Bool.and_eq_true, decide_eq_true_eq, Bool.not_eq_true'] at hc
  obtain ⟨hs, ⟨⟨h1, h2⟩, h3⟩, h4, h5⟩ := hc
  have ha : ∃ b, v = .ref b := by cases r <;> first | exact ⟨_, rfl⟩ | cases hs
  obtain ⟨b, rfl⟩ := ha
  exact ⟨b, q, rfl, (toP_rep (r.mono ok.sub) e1).1, h1, h2, h3, h4, k _ w H (.refl _ _) ok (.str ⟨h4, h5⟩)⟩
theorem u66 {A : Around} {k : Nat} (hr : Room k A) : A.units + 66 < cLine := by have := hr.un; omega
end
section
variable {X : Cx} {tg : Expr} {pos : Pos} {x : Str} {i : Nat}
theorem ve_lcK {elt : Expr} {ifs : List Expr} {scope : Scope} {own : List (Str × Nat)} {fg : FG} {fc : FT} {fe : FE} {us : List Nat} {p : Pos} (hc : X.calm = true) (hN : X.N.Nodup) (hu : own.map (·.2) = us) (h : PE X (.Name x p) (tVar i)) (ok : BlkOk X.N X.env.scope scope own)
    (hg : ∀ (s : Shared) (H : Hp) (C : Addr) (cl : List (Str × Addr)) (fp : List Addr), VG (X.blk s H scope (compEnvC scope cl C X.env) fp) tg us fg) (ht : ∀ (s : Shared) (H : Hp) (C : Addr) (cl : List (Str × Addr)) (fp : List Addr), VTs (X.blk s H scope (compEnvC scope cl C X.env) fp) ifs fc)
    (he : ∀ (s : Shared) (H : Hp) (C : Addr) (cl : List (Str × Addr)) (fp : List Addr), VE (X.blk s H scope (compEnvC scope cl C X.env) fp) elt fe) (hs : ∀ y, foldedSetIterable (.Name x p) X.env y = pure y := by intro _; rfl) :
    VE X (.ListComp elt [⟨tg, .Name x p, ifs, 0⟩] scope pos) (fLC us (iK i) fg fc fe) := VN.ve (vn_lcK hc hN hu h ok hg ht he hs) fLC_nb
end
section
variable {P : Program} {w : World} {K : PySem.W.Frag} {mg : Str → Option Value} {base : Heap}
/-- the law itself: called where nothing is being shown -/
theorem vfnG {x : Str} {st : Stmt} {N ps : List Str} {k n kk : Nat} {body : FS} {f : Addr} {fd : FuncData} (F : FunD K x x (defArgs st) (defBody st) (defScope st) [] [] f fd) (S : FnScope N ps (defScope st)) (hn : ps.length = n) (hkk : N.length = kk)
    (hbody : ∀ (cdv : Value) (A : Around) (outer : List Env) (s : Shared) (H : Hp) (E : XK), Room k (A.deeper (envOfC x (defScope st) s.heap.objs.size f cdv)) → (A.deeper (envOfC x (defScope st) s.heap.objs.size f cdv)).guards = some [] →
      VSs (cxOf CX0 P w K mg base N x (defScope st) f cdv A outer s H E).nox (defBody st) body) : FnG P w K mg base (k + 1) f fd ps (spF K n (fnD n kk body)) := by
  subst hkk
  refine okG F S (fun vs H Q E h => ?_) fun cdv A outer s H vs Q E hr hgu h => ⟨_, hbody cdv A outer s H E hr hgu, body_ok h⟩
  obtain ⟨hs, ds, r, s, tp, rp, hl, _⟩ := h
  rw [rp.length, hl, hn]
end
end VS
namespace VS
open PySem PySem.Spec PyProof.Rows L2 AR
/-- the law's own argument -/
theorem law_sp {K : PySem.W.Frag} {H : Hp} {a : Addr} {ns : List Int} {f : List D → Option D} {E : XK} (o : Only H) (hS : SqL K H a (ns.map V.int)) (hl : ns.length ≤ sizeLine) (hf : f [.lst (ns.map D.int)] = some (.bl true)) : spF K 1 f [.ref a] H (fun v _ => v = .bl true) E := by
  have hr : ∀ l : List Int, RepAll K H (l.map V.int) (l.map D.int) := fun l => by
    induction l with
    | nil => exact .nil
    | cons x l ih => exact .cons (.int x) ih
  refine ⟨H, [.lst (ns.map D.int)], .bl true, .refl _, fun a xs q => q, .one (.lst hS (by rw [List.length_map]; exact hl) (hr ns)), rfl, hf, fun v hs' H' _ _ _ _ _ r => ?_⟩
  cases r
  rfl
end VS
set_option autoImplicit false
namespace VS
open PySem PySem.Spec PyProof.Rows L2 AR
/-! ### the law's draws -/
/-- the great cells without the used ones at the end -/
def dropZ (ns : List Int) : List Int := (ns.reverse.dropWhile (· == 0)).reverse
def lessN (ns : List Int) (s c n : Int) : Int × BoxC :=
  if dropZ ns = [] then (((s * 39373 + 113 * (c + 1)) % 2147483629 / 32) % n, .flow [] ((s * 39373 + 113 * (c + 1)) % 2147483629) (c + 1))
  else ((dropZ ns).getLastD 0 % n, .flow ((dropZ ns).dropLast ++ [(dropZ ns).getLastD 0 / n]) s c)
def lessF (b : BoxC) (ds : List D) : Option (D × BoxC) := match b, ds with
  | .flow ns s c, [.int n] => if 0 < n ∧ n < 1073741824 then some (.int (lessN ns s c n).1, (lessN ns s c n).2) else none
  | _, _ => none
theorem lessF_len : ∀ c ds r, lessF c ds = some r → ds.length = 1 := fun c ds r h => by
  unfold lessF at h
  split at h
  · rfl
  · cases h
theorem lessF_form : ∀ c ds r c', lessF c ds = some (r, c') → sameForm c c' := fun c ds r c' h => by
  unfold lessF at h
  split at h
  · split at h
    · cases h
      unfold lessN
      split <;> trivial
    · cases h
  · cases h
def stir (cs : List Int) (t : Int) : Int := cs.foldl (fun t c => (t * 39373 + c % 2147483579 + 17) % 2147483629) t
def flowB (ns : List Int) (k : Int) : BoxC :=
  .flow (((cutL ns (some k) (some 58)).map fun c => if c < 0 then -c else c).filter (fun c => decide (c ≥ 10 ^ 18))).reverse (stir ((cutL ns (some k) (some 58)).map fun c => if c < 0 then -c else c) (24036583 + 71 * k)) 0
def flowF (ds : List D) : Option BoxC := match ds with
  | [.lst xs, .int k] => (intsOf xs).bind fun ns => if ns.length ≤ 1000 ∧ 0 ≤ k ∧ k < 1000 then some (flowB ns k) else none
  | _ => none
theorem flowF_len : ∀ ds r, flowF ds = some r → ds.length = 2 := fun ds r h => by
  unfold flowF at h
  split at h
  · rfl
  · cases h
end VS
namespace K21
open PySem PySem.Spec PyProof.Rows L2 AR VS
open C8 (Cal Met Mak)
def top (i : Nat) : Stmt := PySem.Challenge.pw_allrows_k21_acts_of_rows.main.body.getD i (.Pass ⟨0, 0, 0, 0⟩)
abbrev s_w_less : Stmt := top 28
theorem sc_w_less : FnScope ["_law_flow_here", "_law_wide", "_law_great"] ["_law_flow_here", "_law_wide"] (defScope s_w_less) := ⟨rfl, rfl, rfl, by decide +kernel, rfl, by decide +kernel, by decide +kernel⟩
abbrev s_w_flow : Stmt := top 27
theorem sc_w_flow : FnScope ["_law_script", "_law_base", "_law_cells", "_law_stirred", "_law_cell"] ["_law_script", "_law_base"] (defScope s_w_flow) := ⟨rfl, rfl, rfl, by decide +kernel, rfl, by decide +kernel, by decide +kernel⟩
abbrev s_w_any_of : Stmt := top 29
theorem sc_w_any_of : FnScope ["_law_flow_here", "_law_some"] ["_law_flow_here", "_law_some"] (defScope s_w_any_of) := ⟨rfl, rfl, rfl, by decide +kernel, rfl, by decide +kernel, by decide +kernel⟩
abbrev s_w_shaken : Stmt := top 30
theorem sc_w_shaken : FnScope ["_law_flow_here", "_law_some", "_law_left", "_law_found", "_law_turn"] ["_law_flow_here", "_law_some"] (defScope s_w_shaken) := ⟨rfl, rfl, rfl, by decide +kernel, rfl, by decide +kernel, by decide +kernel⟩
abbrev s_w_letters : Stmt := top 31
theorem sc_w_letters : FnScope ["_law_flow_here", "_law_most", "_law_some"] ["_law_flow_here", "_law_most"] (defScope s_w_letters) := ⟨rfl, rfl, rfl, by decide +kernel, rfl, by decide +kernel, by decide +kernel⟩
abbrev s_w_draft : Stmt := top 32
theorem sc_w_draft : FnScope ["_law_flow_here", "_law_signs_here", "_law_most", "_law_marks_here", "_law_goes", "_law_form", "_law_mark", "_law_sign", "_law_turned", "_law_other"] ["_law_flow_here", "_law_signs_here", "_law_most"] (defScope s_w_draft) := ⟨rfl, rfl, rfl, by decide +kernel, rfl, by decide +kernel, by decide +kernel⟩
abbrev s_w_line : Stmt := top 36
theorem sc_w_line : FnScope ["_law_flow_here", "_law_signs_here", "_law_most", "_law_turn"] ["_law_flow_here", "_law_signs_here", "_law_most"] (defScope s_w_line) := ⟨rfl, rfl, rfl, by decide +kernel, rfl, by decide +kernel, by decide +kernel⟩
abbrev s_first_act : Stmt := top 2
theorem sc_first_act : FnScope ["reader"] ["reader"] (defScope s_first_act) := ⟨rfl, rfl, rfl, by decide +kernel, rfl, by decide +kernel, by decide +kernel⟩
abbrev s_sign_acts : Stmt := top 3
theorem sc_sign_acts : FnScope ["reader", "row", "at", "sign"] ["reader"] (defScope s_sign_acts) := ⟨rfl, rfl, rfl, by decide +kernel, rfl, by decide +kernel, by decide +kernel⟩
abbrev s_act_then : Stmt := top 4
theorem sc_act_then : FnScope ["reader", "one", "other", "goes", "mark"] ["reader", "one", "other"] (defScope s_act_then) := ⟨rfl, rfl, rfl, by decide +kernel, rfl, by decide +kernel, by decide +kernel⟩
abbrev s_act : Stmt := top 5
theorem sc_act : FnScope ["reader", "row", "found", "steps", "sign"] ["reader", "row"] (defScope s_act) := ⟨rfl, rfl, rfl, by decide +kernel, rfl, by decide +kernel, by decide +kernel⟩
abbrev s_acts : Stmt := top 6
theorem sc_acts : FnScope ["reader", "steps", "known", "waiting", "at", "here", "sign", "later", "one"] ["reader"] (defScope s_acts) := ⟨rfl, rfl, rfl, by decide +kernel, rfl, by decide +kernel, by decide +kernel⟩
abbrev s_is_sequence : Stmt := top 15
theorem sc_is_sequence : FnScope ["value"] ["value"] (defScope s_is_sequence) := ⟨rfl, rfl, rfl, by decide +kernel, rfl, by decide +kernel, by decide +kernel⟩
abbrev s_are_signs : Stmt := top 16
theorem sc_are_signs : FnScope ["value", "sign", "one", "other"] ["value"] (defScope s_are_signs) := ⟨rfl, rfl, rfl, by decide +kernel, rfl, by decide +kernel, by decide +kernel⟩
abbrev s_is_row : Stmt := top 17
theorem sc_is_row : FnScope ["signs", "value", "sign"] ["signs", "value"] (defScope s_is_row) := ⟨rfl, rfl, rfl, by decide +kernel, rfl, by decide +kernel, by decide +kernel⟩
abbrev s_is_some_row : Stmt := top 18
theorem sc_is_some_row : FnScope ["value"] ["value"] (defScope s_is_some_row) := ⟨rfl, rfl, rfl, by decide +kernel, rfl, by decide +kernel, by decide +kernel⟩
abbrev s_is_name : Stmt := top 19
theorem sc_is_name : FnScope ["value"] ["value"] (defScope s_is_name) := ⟨rfl, rfl, rfl, by decide +kernel, rfl, by decide +kernel, by decide +kernel⟩
abbrev s_are_marks : Stmt := top 21
theorem sc_are_marks : FnScope ["value", "mark"] ["value"] (defScope s_are_marks) := ⟨rfl, rfl, rfl, by decide +kernel, rfl, by decide +kernel, by decide +kernel⟩
abbrev s_are_steps : Stmt := top 22
theorem sc_are_steps : FnScope ["signs", "marks", "value", "row", "mark"] ["signs", "marks", "value"] (defScope s_are_steps) := ⟨rfl, rfl, rfl, by decide +kernel, rfl, by decide +kernel, by decide +kernel⟩
abbrev s_wrong_word : Stmt := top 23
theorem sc_wrong_word : FnScope ["signs", "marks", "first", "steps"] ["signs", "marks", "first", "steps"] (defScope s_wrong_word) := ⟨rfl, rfl, rfl, by decide +kernel, rfl, by decide +kernel, by decide +kernel⟩
abbrev s_ReaderD_initD : Stmt := inClass (top 24) 0
theorem sc_ReaderD_initD : FnScope ["self", "signs", "marks", "first", "steps", "word", "row", "mark", "sign", "to"] ["self", "signs", "marks", "first", "steps"] (defScope s_ReaderD_initD) := ⟨rfl, rfl, rfl, by decide +kernel, rfl, by decide +kernel, by decide +kernel⟩
abbrev s_w_reader : Stmt := top 33
theorem sc_w_reader : FnScope ["_law_signs_here", "_law_draft_here", "_law_marks_here", "_law_begin", "_law_goes", "_law_rows_here", "_law_sign", "_law_mark"] ["_law_signs_here", "_law_draft_here"] (defScope s_w_reader) := ⟨rfl, rfl, rfl, by decide +kernel, rfl, by decide +kernel, by decide +kernel⟩
abbrev s_w_leads : Stmt := top 34
theorem sc_w_leads : FnScope ["_law_draft_here", "_law_mark", "_law_line_here", "_law_here", "_law_sign"] ["_law_draft_here", "_law_mark", "_law_line_here"] (defScope s_w_leads) := ⟨rfl, rfl, rfl, by decide +kernel, rfl, by decide +kernel, by decide +kernel⟩
abbrev s_w_deed : Stmt := top 35
theorem sc_w_deed : FnScope ["_law_draft_here", "_law_line_here", "_law_mark"] ["_law_draft_here", "_law_line_here"] (defScope s_w_deed) := ⟨rfl, rfl, rfl, by decide +kernel, rfl, by decide +kernel, by decide +kernel⟩
abbrev s_w_deeds : Stmt := top 37
theorem sc_w_deeds : FnScope ["_law_draft_here", "_law_signs_here", "_law_found", "_law_rows", "_law_turn", "_law_sign", "_law_line_here", "_law_deed_here"] ["_law_draft_here", "_law_signs_here"] (defScope s_w_deeds) := ⟨rfl, rfl, rfl, by decide +kernel, rfl, by decide +kernel, by decide +kernel⟩
abbrev s_law : Stmt := top 38
theorem sc_law : FnScope ["_law_script", "_law_base", "_law_flow_here", "_law_signs_here", "_law_draft_here", "_law_made", "_law_turn", "_law_one", "_law_two", "_law_due", "_law_some", "_law_deed_here", "_law_odd", "_law_mark"] ["_law_script"] (defScope s_law) := ⟨rfl, rfl, rfl, by decide +kernel, rfl, by decide +kernel, by decide +kernel⟩
def keptL : List Str := ["back", "is", "not", "and", "or", "if", "then", "for", "all", "some"]
def b_w_any_of : FS := (sRt (fB getD (fN 1) (fCaB lessF 0 (aC (fU lenD (pN 1)) aN))))
def b_w_shaken : FS := (sSeq (sPar 2 3 true true (fU lstO (fN 1)) (fAp mkL aN))
      (sSeq (sFor (iR1 (aC (fU lenD (pN 1)) aN)) (gN 4)
      (sEx (fMuL appO 3 (aC (fMuL popAtO 2 (aC (fCaB lessF 0 (aC (fU lenD (pN 2)) aN)) aN)) aN))))
      (sRt (fN 3))))
def b_w_letters : FS := (sSeq (sSet 2 (fCaB (fnB 1 2 b_w_any_of) 0 (aC (fAp mkL (aC (fC (.str "abc")) (aC (fC (.str "abz")) (aC (fC (.str "xyz")) (aC (fC (.str "amn")) (aC (fC (.str "bcd")) aN)))))) aN)))
      (sRt (fSl (fN 2) oNo (oSo (fB addO (fC (.int 1)) (fCaB lessF 0 (aC (fN 1) aN)))))))
def b_w_draft : FS := (sSeq (sSet 3 (fSl (fCaB (fnB 1 5 b_w_shaken) 0 (aC (fAp mkL (aC (fC (.str "no")) (aC (fC (.str "yes")) (aC (fC (.str "ma")) (aC (fC (.str "odd")) (aC (fC (.str "far")) aN)))))) aN)) oNo (oSo (fB addO (fC (.int 1)) (fCaB lessF 0 (aC (fN 2) aN))))))
      (sSeq (sPar 4 5 true false (fC (.dct 1 [] [])) (fCaB lessF 0 (aC (fC (.int 4)) aN)))
      (sSeq (sFor (iS (fN 3)) (gN 6)
      (sFor (iS (fN 1)) (gN 7)
      (sPut 4 (fAp mkT (aC (fN 6) (aC (fN 7) aN))) (fCaB (fnB 1 2 b_w_any_of) 0 (aC (fN 3) aN)))))
      (sSeq (sIf (tF blD (fB eqO (fN 5) (fC (.int 0)))) (sSeq (sSet 8 (fCaB (fnB 1 5 b_w_shaken) 0 (aC (fN 3) aN)))
      (sFor (iZp (aC (fN 3) (aC (fN 8) aN))) (gTu 2 (gCo (gN 6) (gCo (gN 9) gNi)))
      (sPut 4 (fAp mkT (aC (fN 6) (aC (fB getD (fN 1) (fC (.int 0))) aN))) (fN 9)))) sNx)
      (sRt (fAp mkT (aC (fU tupO (fN 3)) (aC (fCaB (fnB 1 2 b_w_any_of) 0 (aC (fN 3) aN)) (aC (fN 4) aN)))))))))
def b_w_line : FS := (sRt (fB joinO (fC (.str "")) (fLC [3] (iR1 (aC (fCaB lessF 0 (aC (fB addO (fN 2) (fC (.int 1))) aN)) aN)) (gN 3) cYes (fCaB (fnB 1 2 b_w_any_of) 0 (aC (fN 1) aN)))))
def b_first_act : FS := (sRt (fU (attrD ["Reader"] "marks") (pN 0)))
def b_sign_acts : FS := (sRt (fDC [2, 3] (iEn (fU (attrD ["Reader"] "signs") (pN 0))) (gTu 2 (gCo (gN 2) (gCo (gN 3) gNi))) cYes (fN 3) (fU tupO (fLC [1] (iS (fU (attrD ["Reader"] "steps") (pN 0))) (gN 1) cYes (fB getD (fN 1) (fN 2))))))
def b_act_then : FS := (sSeq (sSet 3 (fAp dzO (aC (fU (attrD ["Reader"] "marks") (pN 0)) (aC (fN 2) aN))))
      (sRt (fU tupO (fLC [4] (iS (fN 1)) (gN 4) cYes (fB getD (fN 3) (fN 4))))))
def b_act : FS := (sSeq (sPar 2 3 false false (fAp (fnD 1 1 b_first_act) (aC (fN 0) aN)) (fAp (fnD 1 4 b_sign_acts) (aC (fN 0) aN)))
      (sSeq (sFor (iS (fN 1)) (gN 4)
      (sSet 2 (fAp (fnD 3 5 b_act_then) (aC (fN 0) (aC (fN 2) (aC (fB getD (fN 3) (fN 4)) aN))))))
      (sRt (fN 2))))
def b_acts : FS := (sSeq (sPar3 1 2 3 false true true (fAp (fnD 1 4 b_sign_acts) (aC (fN 0) aN)) (fD1 (fAp (fnD 1 1 b_first_act) (aC (fN 0) aN)) (fC (.str ""))) (fAp mkL (aC (fAp (fnD 1 1 b_first_act) (aC (fN 0) aN)) aN)))
      (sSeq (sSet 4 (fC (.int 0)))
      (sSeq (sWh 100000 (tF blD (fB ltO (fN 4) (fU lenD (pN 3))))
      (sSeq (sSet 5 (fBN getD 3 (fN 4)))
      (sSeq (sAug addI 4 (fC (.int 1)))
      (sFor (iS (fU (attrD ["Reader"] "signs") (pN 0))) (gN 6)
      (sSeq (sSet 7 (fAp (fnD 3 5 b_act_then) (aC (fN 0) (aC (fN 5) (aC (fB getD (fN 1) (fN 6)) aN)))))
      (sIf (tF blD (fB notInO (fN 7) (pN 2))) (sSeq (sPut 2 (fN 7) (fB addO (fBN getD 2 (fN 5)) (fN 6)))
      (sEx (fMuL appO 3 (aC (fN 7) aN)))) sNx))))))
      (sRt (fU tupO (fLC [8] (iS (fN 3)) (gN 8) cYes (fAp mkT (aC (fN 8) (aC (fBN getD 2 (fN 8)) aN)))))))))
def b_is_sequence : FS := (sRt (fU (isO2 "list" "tuple") (pN 0)))
def b_are_signs : FS := (sSeq (sIf (cOr (cNot (tF blD (fU (isO "str") (pN 0)))) (cOr (cNot (tF blD (fCh leO leO (fC (.int 1)) (fU lenD (pN 0)) (fC (.int 3))))) (cNot (tF blD (fU allO (fLC [1] (iS (fN 0)) (gN 1) cYes (fB inO (fN 1) (fC (.str "abcdefghijklmnopqrstuvwxyz"))))))))) (sRt (fC (.bl false))) sNx)
      (sRt (fU allO (fLC [2, 3] (iZp (aC (fN 0) (aC (fSl (fN 0) (oSo (fC (.int 1))) oNo) aN))) (gTu 2 (gCo (gN 2) (gCo (gN 3) gNi))) cYes (fB ltO (fN 2) (fN 3))))))
def b_is_row : FS := (sRt (fAnd (fU (isO "str") (pN 1)) (fU allO (fLC [2] (iS (fN 1)) (gN 2) cYes (fB inO (fN 2) (pN 0))))))
def b_is_some_row : FS := (sRt (fAp (fnD 2 3 b_is_row) (aC (fC (.str "abcdefghijklmnopqrstuvwxyz")) (aC (fN 0) aN))))
def b_is_name : FS := (sRt (fAnd (fAp (fnD 1 1 b_is_some_row) (aC (fN 0) aN)) (fAnd (fCh leO leO (fC (.int 2)) (fU lenD (pN 0)) (fC (.int 6))) (fB notInO (fN 0) (fC (.ktp (keptL.map D.str)))))))
def b_are_marks : FS := (sSeq (sIf (cOr (cNot (tF blD (fAp (fnD 1 1 b_is_sequence) (aC (fN 0) aN)))) (cOr (tF blD (fB eqO (fU lenD (pN 0)) (fC (.int 0)))) (cNot (tF blD (fU allO (fLC [1] (iS (fN 0)) (gN 1) cYes (fAp (fnD 1 1 b_is_name) (aC (fN 1) aN)))))))) (sRt (fC (.bl false))) sNx)
      (sRt (fB eqO (fU lenD (fDC [1] (iS (fN 0)) (gN 1) cYes (fN 1) (fC (.bl true)))) (fU lenD (pN 0)))))
def b_are_steps : FS := (sSeq (sIf (cOr (cNot (tF blD (fAp (fnD 1 1 b_is_sequence) (aC (fN 2) aN)))) (tF blD (fB neO (fU lenD (pN 2)) (fU lenD (pN 1))))) (sRt (fC (.bl false))) sNx)
      (sSeq (sFor (iS (fN 2)) (gN 3)
      (sSeq (sIf (cOr (cNot (tF blD (fAp (fnD 1 1 b_is_sequence) (aC (fN 3) aN)))) (tF blD (fB neO (fU lenD (pN 3)) (fU lenD (pN 0))))) (sRt (fC (.bl false))) sNx)
      (sIf (cNot (tF blD (fU allO (fLC [4] (iS (fN 3)) (gN 4) cYes (fAnd (fU (isO "str") (pN 4)) (fB inO (fN 4) (pN 1))))))) (sRt (fC (.bl false))) sNx)))
      (sRt (fC (.bl true)))))
def b_wrong_word : FS := (sSeq (sIf (cNot (tF blD (fAp (fnD 1 4 b_are_signs) (aC (fN 0) aN)))) (sRt (fC (.str "signs"))) sNx)
      (sSeq (sIf (cNot (tF blD (fAp (fnD 1 2 b_are_marks) (aC (fN 1) aN)))) (sRt (fC (.str "marks"))) sNx)
      (sSeq (sIf (cOr (cNot (tF blD (fU (isO "str") (pN 2)))) (tF blD (fB notInO (fN 2) (pN 1)))) (sRt (fC (.str "first"))) sNx)
      (sRt (fIf (tF blD (fAp (fnD 3 5 b_are_steps) (aC (fN 0) (aC (fN 1) (aC (fN 3) aN))))) (fC .non) (fC (.str "steps")))))))
def b_ReaderD_initD : FS := (sSeq (sSet 5 (fAp (fnD 4 4 b_wrong_word) (aC (fN 1) (aC (fN 2) (aC (fN 3) (aC (fN 4) aN))))))
      (sSeq (sIf (tF blD (fB notNO (fN 5) (fC .non))) sNo sNx)
      (sSeq (sFl ["Reader"] 0 "signs" (fN 1))
      (sSeq (sFl ["Reader"] 0 "marks" (fU tupO (fN 2)))
      (sSeq (sFl ["Reader"] 0 "first" (fN 3))
      (sSeq (sFl ["Reader"] 0 "steps" (fU tupO (fLC [6] (iS (fN 4)) (gN 6) cYes (fU tupO (fN 6)))))
      (sFl ["Reader"] 0 "leads" (fDC2 [7, 6, 8, 9] [8, 9] (iZp (aC (fU (attrD ["Reader"] "marks") (pN 0)) (aC (fU (attrD ["Reader"] "steps") (pN 0)) aN))) (gTu 2 (gCo (gN 7) (gCo (gN 6) gNi))) cYes (iZp (aC (fN 1) (aC (fN 6) aN))) (gTu 2 (gCo (gN 8) (gCo (gN 9) gNi))) cYes (fAp mkT (aC (fN 7) (aC (fN 8) aN))) (fN 9)))))))))
def b_w_reader : FS := (sSeq (sAs (fN 1) (gTu 3 (gCo (gN 2) (gCo (gN 3) (gCo (gN 4) gNi)))))
      (sSeq (sSet 5 (fLC [7] (iS (fN 2)) (gN 7) cYes (fLC [6] (iS (fN 0)) (gN 6) cYes (fB getD (fN 4) (fAp mkT (aC (fN 7) (aC (fN 6) aN)))))))
      (sRt (fAp (iniD "Reader" 4 10 b_ReaderD_initD) (aC (fN 0) (aC (fU lstO (fN 2)) (aC (fN 3) (aC (fN 5) aN))))))))
def b_w_leads : FS := (sSeq (sSet 3 (fN 1))
      (sSeq (sFor (iS (fN 2)) (gN 4)
      (sSet 3 (fB getD (fB getD (fN 0) (fC (.int 2))) (fAp mkT (aC (fN 3) (aC (fN 4) aN))))))
      (sRt (fN 3))))
def b_w_deed : FS := (sRt (fU tupO (fLC [2] (iS (fB getD (fN 0) (fC (.int 0)))) (gN 2) cYes (fAp (fnD 3 5 b_w_leads) (aC (fN 0) (aC (fN 2) (aC (fN 1) aN)))))))
def b_w_deeds : FS := (sSeq (sPar 2 3 true true (fD1 (fB getD (fN 0) (fC (.int 0))) (fC (.str ""))) (fAp mkL (aC (fC (.str "")) aN)))
      (sSeq (sFor (iR1 (aC (fC (.int 300)) aN)) (gN 4)
      (sSeq (sIf (tF blD (fB eqO (fN 4) (fU lenD (pN 3)))) sBk sNx)
      (sFor (iS (fN 1)) (gN 5)
      (sSeq (sSet 6 (fB addO (fBN getD 3 (fN 4)) (fN 5)))
      (sSeq (sSet 7 (fAp (fnD 2 3 b_w_deed) (aC (fN 0) (aC (fN 6) aN))))
      (sIf (tF blD (fB notInO (fN 7) (pN 2))) (sSeq (sPut 2 (fN 7) (fN 6))
      (sEx (fMuL appO 3 (aC (fN 6) aN)))) sNx))))))
      (sRt (fN 2))))
def b_law : FS := (sSeq (sFor (iR1 (aC (fB maxO (fC (.int 1)) (fB minO (fC (.int 3)) (fU lenD (pN 0)))) aN)) (gN 1)
      (sSeq (sSetO 2 (fAp (fNB flowF) (aC (fN 0) (aC (fN 1) aN))))
      (sSeq (sSet 3 (fCaB (fnB 1 3 b_w_letters) 2 (aC (fC (.int 3)) aN)))
      (sSeq (sSet 4 (fCaB (fnB 2 10 b_w_draft) 2 (aC (fN 3) (aC (fB subO (fC (.int 4)) (fU intO (fB gtO (fU lenD (pN 3)) (fC (.int 2))))) aN))))
      (sSeq (sSet 5 (fAp (fnD 2 8 b_w_reader) (aC (fN 3) (aC (fN 4) aN))))
      (sSeq (sFor (iR1 (aC (fC (.int 5)) aN)) (gN 6)
      (sSeq (sPar 7 8 false false (fCaB (fnB 2 4 b_w_line) 2 (aC (fN 3) (aC (fC (.int 9)) aN))) (fCaB (fnB 2 4 b_w_line) 2 (aC (fN 3) (aC (fC (.int 9)) aN))))
      (sSeq (sIf (cOr (tF blD (fB neO (fAp (fnD 2 5 b_act) (aC (fN 5) (aC (fN 7) aN))) (fAp (fnD 2 3 b_w_deed) (aC (fN 4) (aC (fN 7) aN))))) (tF blD (fB neO (fAp (fnD 2 5 b_act) (aC (fN 5) (aC (fB addO (fN 7) (fN 8)) aN))) (fAp (fnD 2 3 b_w_deed) (aC (fN 4) (aC (fB addO (fN 7) (fN 8)) aN)))))) (sRt (fC (.bl false))) sNx)
      (sIf (tF blD (fB neO (fAp (fnD 3 5 b_act_then) (aC (fN 5) (aC (fAp (fnD 2 5 b_act) (aC (fN 5) (aC (fN 7) aN))) (aC (fAp (fnD 2 5 b_act) (aC (fN 5) (aC (fN 8) aN))) aN)))) (fAp (fnD 2 5 b_act) (aC (fN 5) (aC (fB addO (fN 7) (fN 8)) aN))))) (sRt (fC (.bl false))) sNx))))
      (sSeq (sSet 9 (fAp (fnD 2 8 b_w_deeds) (aC (fN 4) (aC (fN 3) aN))))
      (sSeq (sSet 10 (fU tupO (fLC [11] (iK 9) (gN 11) cYes (fAp mkT (aC (fN 11) (aC (fB getD (fN 9) (fN 11)) aN))))))
      (sSeq (sIf (cOr (tF blD (fB neO (fU reprO (fAp (fnD 1 9 b_acts) (aC (fN 5) aN))) (fU reprO (fN 10)))) (tF blD (fB neO (fAp (fnD 1 1 b_first_act) (aC (fN 5) aN)) (fB getD (fN 4) (fC (.int 0)))))) (sRt (fC (.bl false))) sNx)
      (sSeq (sIf (tF blD (fB neO (fB getD (fAp (fnD 1 9 b_acts) (aC (fN 5) aN)) (fC (.int 0))) (fAp mkT (aC (fAp (fnD 1 1 b_first_act) (aC (fN 5) aN)) (aC (fC (.str "")) aN))))) (sRt (fC (.bl false))) sNx)
      (sSeq (sSet 12 (fU tupO (fLC [13] (iS (fB getD (fN 4) (fC (.int 0)))) (gN 13) cYes (fCaB (fnB 1 2 b_w_any_of) 2 (aC (fB getD (fN 4) (fC (.int 0))) aN)))))
      (sIf (cOr (tF blD (fB neO (fAp (fnD 3 5 b_act_then) (aC (fN 5) (aC (fN 12) (aC (fAp (fnD 1 1 b_first_act) (aC (fN 5) aN)) aN)))) (fN 12))) (tF blD (fB neO (fAp (fnD 3 5 b_act_then) (aC (fN 5) (aC (fAp (fnD 1 1 b_first_act) (aC (fN 5) aN)) (aC (fN 12) aN)))) (fN 12)))) (sRt (fC (.bl false))) sNx))))))))))))
      (sRt (fC (.bl true))))
structure Tx (K : PySem.W.Frag) (mg : Str → Option Value) : Prop where
  b_len : mg "len" = none
  b_list : mg "list" = none
  b_range : mg "range" = none
  b_zip : mg "zip" = none
  b_tuple : mg "tuple" = none
  b_enumerate : mg "enumerate" = none
  b_dict : mg "dict" = none
  b_isinstance : mg "isinstance" = none
  b_str : mg "str" = none
  b_all : mg "all" = none
  b_int : mg "int" = none
  b_abs : mg "abs" = none
  b_max : mg "max" = none
  b_min : mg "min" = none
  b_repr : mg "repr" = none
  k_LETTERS : ∃ u v, mg "LETTERS" = some u ∧ RelV v u ∧ ∀ H, Rep K H v (.str "abcdefghijklmnopqrstuvwxyz")
  k_KEPT : ∃ u v, mg "KEPT" = some u ∧ RelV v u ∧ ∀ H, Rep K H v (.ktp (keptL.map D.str))
  at_marks : ∀ c ∈ (["Reader"] : List Str), Cls K (He.ga K c) ∧ NoAttr K (He.ga K c) "marks"
  at_signs : ∀ c ∈ (["Reader"] : List Str), Cls K (He.ga K c) ∧ NoAttr K (He.ga K c) "signs"
  at_steps : ∀ c ∈ (["Reader"] : List Str), Cls K (He.ga K c) ∧ NoAttr K (He.ga K c) "steps"
  at_first : ∀ c ∈ (["Reader"] : List Str), Cls K (He.ga K c) ∧ NoAttr K (He.ga K c) "first"
  at_leads : ∀ c ∈ (["Reader"] : List Str), Cls K (He.ga K c) ∧ NoAttr K (He.ga K c) "leads"
  cl_Reader : Cls K (He.ga K "Reader")
  d_less : GD K mg "_law_less" s_w_less ["_law_flow_here", "_law_wide"]
  d_flow : GD K mg "_law_flow" s_w_flow ["_law_script", "_law_base"]
  d_any_of : GD K mg "_law_any_of" s_w_any_of ["_law_flow_here", "_law_some"]
  d_shaken : GD K mg "_law_shaken" s_w_shaken ["_law_flow_here", "_law_some"]
  d_letters : GD K mg "_law_letters" s_w_letters ["_law_flow_here", "_law_most"]
  d_draft : GD K mg "_law_draft" s_w_draft ["_law_flow_here", "_law_signs_here", "_law_most"]
  d_line : GD K mg "_law_line" s_w_line ["_law_flow_here", "_law_signs_here", "_law_most"]
  d_first_act : GD K mg "first_act" s_first_act ["reader"]
  d_sign_acts : GD K mg "sign_acts" s_sign_acts ["reader"]
  d_act_then : GD K mg "act_then" s_act_then ["reader", "one", "other"]
  d_act : GD K mg "act" s_act ["reader", "row"]
  d_acts : GD K mg "acts" s_acts ["reader"]
  d_is_sequence : GD K mg "is_sequence" s_is_sequence ["value"]
  d_are_signs : GD K mg "are_signs" s_are_signs ["value"]
  d_is_row : GD K mg "is_row" s_is_row ["signs", "value"]
  d_is_some_row : GD K mg "is_some_row" s_is_some_row ["value"]
  d_is_name : GD K mg "is_name" s_is_name ["value"]
  d_are_marks : GD K mg "are_marks" s_are_marks ["value"]
  d_are_steps : GD K mg "are_steps" s_are_steps ["signs", "marks", "value"]
  d_wrong_word : GD K mg "wrong_word" s_wrong_word ["signs", "marks", "first", "steps"]
  i_Reader : ID K mg "Reader" (He.ga K "Reader") "Reader.__init__" s_ReaderD_initD ["self", "signs", "marks", "first", "steps"]
  d_reader : GD K mg "_law_reader" s_w_reader ["_law_signs_here", "_law_draft_here"]
  d_leads : GD K mg "_law_leads" s_w_leads ["_law_draft_here", "_law_mark", "_law_line_here"]
  d_deed : GD K mg "_law_deed" s_w_deed ["_law_draft_here", "_law_line_here"]
  d_deeds : GD K mg "_law_deeds" s_w_deeds ["_law_draft_here", "_law_signs_here"]
end K21
namespace K21
open PySem PySem.Spec PyProof.Rows L2 AR VS
def dD_w_less : He.DefD := ⟨("_law_less", none), "_law_less", "_law_less", defArgs s_w_less, defBody s_w_less, defScope s_w_less, [], []⟩
def dD_w_flow : He.DefD := ⟨("_law_flow", none), "_law_flow", "_law_flow", defArgs s_w_flow, defBody s_w_flow, defScope s_w_flow, [], []⟩
def dD_w_any_of : He.DefD := ⟨("_law_any_of", none), "_law_any_of", "_law_any_of", defArgs s_w_any_of, defBody s_w_any_of, defScope s_w_any_of, [], []⟩
def dD_w_shaken : He.DefD := ⟨("_law_shaken", none), "_law_shaken", "_law_shaken", defArgs s_w_shaken, defBody s_w_shaken, defScope s_w_shaken, [], []⟩
def dD_w_letters : He.DefD := ⟨("_law_letters", none), "_law_letters", "_law_letters", defArgs s_w_letters, defBody s_w_letters, defScope s_w_letters, [], []⟩
def dD_w_draft : He.DefD := ⟨("_law_draft", none), "_law_draft", "_law_draft", defArgs s_w_draft, defBody s_w_draft, defScope s_w_draft, [], []⟩
def dD_w_line : He.DefD := ⟨("_law_line", none), "_law_line", "_law_line", defArgs s_w_line, defBody s_w_line, defScope s_w_line, [], []⟩
def dD_first_act : He.DefD := ⟨("first_act", none), "first_act", "first_act", defArgs s_first_act, defBody s_first_act, defScope s_first_act, [], []⟩
def dD_sign_acts : He.DefD := ⟨("sign_acts", none), "sign_acts", "sign_acts", defArgs s_sign_acts, defBody s_sign_acts, defScope s_sign_acts, [], []⟩
def dD_act_then : He.DefD := ⟨("act_then", none), "act_then", "act_then", defArgs s_act_then, defBody s_act_then, defScope s_act_then, [], []⟩
def dD_act : He.DefD := ⟨("act", none), "act", "act", defArgs s_act, defBody s_act, defScope s_act, [], []⟩
def dD_acts : He.DefD := ⟨("acts", none), "acts", "acts", defArgs s_acts, defBody s_acts, defScope s_acts, [], []⟩
def dD_is_sequence : He.DefD := ⟨("is_sequence", none), "is_sequence", "is_sequence", defArgs s_is_sequence, defBody s_is_sequence, defScope s_is_sequence, [], []⟩
def dD_are_signs : He.DefD := ⟨("are_signs", none), "are_signs", "are_signs", defArgs s_are_signs, defBody s_are_signs, defScope s_are_signs, [], []⟩
def dD_is_row : He.DefD := ⟨("is_row", none), "is_row", "is_row", defArgs s_is_row, defBody s_is_row, defScope s_is_row, [], []⟩
def dD_is_some_row : He.DefD := ⟨("is_some_row", none), "is_some_row", "is_some_row", defArgs s_is_some_row, defBody s_is_some_row, defScope s_is_some_row, [], []⟩
def dD_is_name : He.DefD := ⟨("is_name", none), "is_name", "is_name", defArgs s_is_name, defBody s_is_name, defScope s_is_name, [], []⟩
def dD_are_marks : He.DefD := ⟨("are_marks", none), "are_marks", "are_marks", defArgs s_are_marks, defBody s_are_marks, defScope s_are_marks, [], []⟩
def dD_are_steps : He.DefD := ⟨("are_steps", none), "are_steps", "are_steps", defArgs s_are_steps, defBody s_are_steps, defScope s_are_steps, [], []⟩
def dD_wrong_word : He.DefD := ⟨("wrong_word", none), "wrong_word", "wrong_word", defArgs s_wrong_word, defBody s_wrong_word, defScope s_wrong_word, [], []⟩
def dD_w_reader : He.DefD := ⟨("_law_reader", none), "_law_reader", "_law_reader", defArgs s_w_reader, defBody s_w_reader, defScope s_w_reader, [], []⟩
def dD_w_leads : He.DefD := ⟨("_law_leads", none), "_law_leads", "_law_leads", defArgs s_w_leads, defBody s_w_leads, defScope s_w_leads, [], []⟩
def dD_w_deed : He.DefD := ⟨("_law_deed", none), "_law_deed", "_law_deed", defArgs s_w_deed, defBody s_w_deed, defScope s_w_deed, [], []⟩
def dD_w_deeds : He.DefD := ⟨("_law_deeds", none), "_law_deeds", "_law_deeds", defArgs s_w_deeds, defBody s_w_deeds, defScope s_w_deeds, [], []⟩
def dD_law : He.DefD := ⟨("law", none), "law", "law", defArgs s_law, defBody s_law, defScope s_law, [], []⟩
def dD_Reader_init : He.DefD := ⟨("Reader", some "__init__"), "__init__", "Reader.__init__", defArgs s_ReaderD_initD, defBody s_ReaderD_initD, defScope s_ReaderD_initD, [], []⟩
def fnL : List He.DefD := [dD_w_less, dD_w_flow, dD_w_any_of, dD_w_shaken, dD_w_letters, dD_w_draft, dD_w_line, dD_first_act, dD_sign_acts, dD_act_then, dD_act, dD_acts, dD_is_sequence, dD_are_signs, dD_is_row, dD_is_some_row, dD_is_name, dD_are_marks, dD_are_steps, dD_wrong_word, dD_w_reader, dD_w_leads, dD_w_deed, dD_w_deeds, dD_law, dD_Reader_init]
def faL : List He.Fa := [.glo "KEPT", .free "len", .free "list", .free "range", .free "zip", .free "tuple", .free "enumerate", .free "dict", .free "isinstance", .free "str", .free "all", .free "int", .free "abs", .free "max", .free "min", .free "repr", .str "LETTERS" "abcdefghijklmnopqrstuvwxyz", .glo "_law_less", .glo "_law_flow", .glo "_law_any_of", .glo "_law_shaken", .glo "_law_letters", .glo "_law_draft", .glo "_law_line", .glo "first_act", .glo "sign_acts", .glo "act_then", .glo "act", .glo "acts", .glo "is_sequence", .glo "are_signs", .glo "is_row", .glo "is_some_row", .glo "is_name", .glo "are_marks", .glo "are_steps", .glo "wrong_word", .glo "_law_reader", .glo "_law_leads", .glo "_law_deed", .glo "_law_deeds", .glo "law", .glo "Reader", .cls "Reader", .noat "Reader" "marks", .noat "Reader" "signs", .noat "Reader" "steps", .noat "Reader" "first", .noat "Reader" "leads", .mkr "Reader"]
def exL (K : PySem.W.Frag) : Bool := He.tupB K "KEPT" [.str "back", .str "is", .str "not", .str "and", .str "or", .str "if", .str "then", .str "for", .str "all", .str "some"]
abbrev RL : PySem.W.OpenRow := PySem.W.OpenLaw.row PySem.Challenge.rw_allrows_k21_acts_of_rows
abbrev hkL : PySem.W.Hook := He.hookX 6 faL fnL [] [] exL
def obL (s : PySem.W.SharedT) : He.AlX := He.obsX 6 faL fnL [] [] exL (HandSHeadRun.getT s)
theorem ob_eq (s : PySem.W.SharedT) : obL s = hkL.obs s.abs := He.obsX_eq (HandSHeadRun.getT_eq s)
def looseL : List Str := [("_wall" : Str), ("first_act" : Str), ("sign_acts" : Str), ("act_then" : Str), ("act" : Str), ("acts" : Str), ("RowError" : Str), ("InvalidReader" : Str), ("InvalidRow" : Str), ("NoMark" : Str), ("LETTERS" : Str), ("KEPT" : Str), ("is_sequence" : Str), ("are_signs" : Str), ("is_row" : Str), ("is_some_row" : Str), ("is_name" : Str), ("are_marks" : Str), ("are_steps" : Str), ("wrong_word" : Str), ("Reader" : Str), ("need_mark" : Str), ("_law_flow" : Str), ("_law_less" : Str), ("_law_any_of" : Str), ("_law_shaken" : Str), ("_law_letters" : Str), ("_law_draft" : Str), ("_law_reader" : Str), ("_law_leads" : Str), ("_law_deed" : Str), ("_law_line" : Str), ("_law_deeds" : Str)]
theorem runL (w : World) : HandSHeadRun.RunEq RL (PySem.W.view RL.prog [38]) hkL obL 4000 looseL w := by
  intro os
  kernel_rfl
end K21
/-! a flow [list of ints, int, int] that is drawn from: it and its list change, all else stays -/
namespace AR
open PySem PySem.Spec PyProof.Rows L2
def FlowAt (H : Hp) (b l : Addr) : Prop := ∃ (ns : List Int) (s c : Int), H b = some (.lst [.ref l, .int s, .int c]) ∧ H l = some (.lst (ns.map V.int)) ∧ ns.length ≤ 1000
/-- a thing that may be such a list -/
def FL (o : HO) : Prop := (∃ p s c, o = .lst [.ref p, .int s, .int c]) ∨ ∃ ns : List Int, o = .lst (ns.map V.int)
theorem FlowAt.ne {H : Hp} {b l : Addr} (f : FlowAt H b l) : b ≠ l := fun e => by
  obtain ⟨ns, s, c, h1, h2, h3⟩ := f
  rw [e, h2] at h1
  injection h1 with h1
  injection h1 with h1
  cases ns with
  | nil => cases h1
  | cons n r => rw [List.map_cons] at h1; injection h1 with h1; cases h1
theorem FlowAt.off {H : Hp} {b l a : Addr} {o : HO} (f : FlowAt H b l) (h : H a = some o) (n : ¬ FL o) : a ≠ b ∧ a ≠ l := by
  obtain ⟨ns, s, c, h1, h2, h3⟩ := f
  refine ⟨fun e => ?_, fun e => ?_⟩
  · rw [e, h1] at h; cases h; exact n (.inl ⟨_, _, _, rfl⟩)
  · rw [e, h2] at h; cases h; exact n (.inr ⟨_, rfl⟩)
theorem FlowAt.fresh {H : Hp} {b l a : Addr} (f : FlowAt H b l) (h : H a = none) : a ≠ b ∧ a ≠ l := by
  obtain ⟨ns, s, c, h1, h2, h3⟩ := f
  exact ⟨fun e => (by rw [e, h1] at h; cases h), fun e => (by rw [e, h2] at h; cases h)⟩
structure KeepF (b l : Addr) (H H' : Hp) : Prop where
  st : ∀ a o, H a = some o → a ≠ b → a ≠ l → H' a = some o
  f : FlowAt H b l
  f' : FlowAt H' b l
section
variable {b l : Addr} {H H1 H2 : Hp}
theorem KeepF.refl (f : FlowAt H b l) : KeepF b l H H := ⟨fun _ _ h _ _ => h, f, f⟩
theorem KeepF.trans (x : KeepF b l H H1) (y : KeepF b l H1 H2) : KeepF b l H H2 := ⟨fun a o h n1 n2 => y.st a o (x.st a o h n1 n2) n1 n2, x.f, y.f'⟩
theorem KeepF.same (f : FlowAt H b l) (e : Same H H1) : KeepF b l H H1 := by
  refine ⟨fun a o h _ _ => e a o h, f, ?_⟩
  obtain ⟨ns, s, c, h1, h2, h3⟩ := f
  exact ⟨ns, s, c, e _ _ h1, e _ _ h2, h3⟩
theorem KeepF.seq (x : KeepF b l H H1) (e : Same H1 H2) : KeepF b l H H2 := x.trans (KeepF.same x.f' e)
/-- what is off the flow stays -/
theorem KeepF.at {a : Addr} {o : HO} (x : KeepF b l H H1) (h : H a = some o) (n : (a ≠ b ∧ a ≠ l) ∨ ¬ FL o) : H1 a = some o := by
  rcases n with n | n
  · exact x.st a o h n.1 n.2
  · exact x.st a o h (x.f.off h n).1 (x.f.off h n).2
theorem KeepF.free {a : Addr} (x : KeepF b l H H1) (h : H1 a = none) : H a = none := by
  cases q : H a with
  | none => rfl
  | some o =>
    obtain ⟨n1, n2⟩ := x.f'.fresh h
    rw [x.st a o q n1 n2] at h
    cases h
/-- an object that H does not know may change -/
theorem KeepF.mut {p : Addr} {o : HO} (x : KeepF b l H H1) (h : H p = none) : KeepF b l H (upd H1 p o) := by
  obtain ⟨n1, n2⟩ := x.f.fresh h
  refine ⟨fun a u ha m1 m2 => by rw [upd_ne (ne_of_none ha h)]; exact x.st a u ha m1 m2, x.f, ?_⟩
  obtain ⟨ns, s, c, h1, h2, h3⟩ := x.f'
  exact ⟨ns, s, c, by rw [upd_ne (Ne.symm n1)]; exact h1, by rw [upd_ne (Ne.symm n2)]; exact h2, h3⟩
theorem KeepF.new {p : Addr} {o : HO} (f : FlowAt H b l) (h : H p = none) : KeepF b l H (upd H p o) := (KeepF.refl f).mut h
theorem KeepF.rd {a : Addr} {u : HO} (x : KeepF b l H H1) (n : (a ≠ b ∧ a ≠ l) ∨ ¬ FL u) (h : Rd H a u) : Rd H1 a u := by
  rcases h with h | ⟨o, h⟩
  · exact .inl (x.at h n)
  · exact .inr ⟨o, x.at h (.inr fun z => by rcases z with ⟨_, _, _, z⟩ | ⟨_, z⟩ <;> cases z)⟩
end
theorem fl_tup {xs : List V} : ¬ FL (.tup xs) := fun z => by rcases z with ⟨_, _, _, z⟩ | ⟨_, z⟩ <;> cases z
theorem fl_ins {C dx : Addr} {fs : List (Str × V)} : ¬ FL (.ins C dx fs) := fun z => by rcases z with ⟨_, _, _, z⟩ | ⟨_, z⟩ <;> cases z
theorem fl_dK {kvs : List (Key × V)} : ¬ FL (.dK kvs) := fun z => by rcases z with ⟨_, _, _, z⟩ | ⟨_, z⟩ <;> cases z
theorem fl_dT {kvs : List (List Key × V)} : ¬ FL (.dT kvs) := fun z => by rcases z with ⟨_, _, _, z⟩ | ⟨_, z⟩ <;> cases z
theorem fl_frz {o : Obj} {u : HO} : ¬ FL (.frz o u) := fun z => by rcases z with ⟨_, _, _, z⟩ | ⟨_, z⟩ <;> cases z
theorem fl_own {a : Addr} : ¬ FL (.own a) := fun z => by rcases z with ⟨_, _, _, z⟩ | ⟨_, z⟩ <;> cases z
theorem fl_str1 {s : Str} {r : List V} : ¬ FL (.lst (V.str s :: r)) := fun z => by
  rcases z with ⟨_, _, _, z⟩ | ⟨ns, z⟩
  · injection z with z; injection z with z; cases z
  · injection z with z
    cases ns with
    | nil => cases z
    | cons n q => rw [List.map_cons] at z; injection z with z; cases z
theorem fl_strs {ys : List Str} (h : ys ≠ []) : ¬ FL (.lst (ys.map V.str)) := by
  cases ys with
  | nil => exact absurd rfl h
  | cons y r => exact fl_str1
theorem KeepF.sqT {K : PySem.W.Frag} {b l a : Addr} {H H1 : Hp} {xs : List V} (x : KeepF b l H H1) (h : SqT K H a xs) : SqT K H1 a xs := by
  rcases h with h | h
  · exact .inl (x.rd (.inr fl_tup) h)
  · exact .inr h
theorem KeepF.sqL {K : PySem.W.Frag} {b l a : Addr} {H H1 : Hp} {xs : List V} (x : KeepF b l H H1) (n : (a ≠ b ∧ a ≠ l) ∨ ¬ FL (.lst xs)) (h : SqL K H a xs) : SqL K H1 a xs := by
  rcases h with h | h
  · exact .inl (x.rd n h)
  · exact .inr h
/-- the flow itself is written -/
theorem KeepF.setl {b l : Addr} {H H1 : Hp} (x : KeepF b l H H1) (ns : List Int) (hn : ns.length ≤ 1000) : KeepF b l H (upd H1 l (.lst (ns.map V.int))) := by
  refine ⟨fun a o h n1 n2 => by rw [upd_ne n2]; exact x.st a o h n1 n2, x.f, ?_⟩
  obtain ⟨ms, s, c, h1, h2, h3⟩ := id x.f'
  exact ⟨ns, s, c, by rw [upd_ne x.f'.ne]; exact h1, upd_same, hn⟩
theorem KeepF.setb {b l : Addr} {H H1 : Hp} (x : KeepF b l H H1) (s c : Int) : KeepF b l H (upd H1 b (.lst [.ref l, .int s, .int c])) := by
  refine ⟨fun a o h n1 n2 => by rw [upd_ne n1]; exact x.st a o h n1 n2, x.f, ?_⟩
  obtain ⟨ms, s', c', h1, h2, h3⟩ := id x.f'
  exact ⟨ms, s, c, upd_same, by rw [upd_ne (Ne.symm x.f'.ne)]; exact h2, h3⟩
section
variable {K : PySem.W.Frag} {H : Hp} {Q : VK}
theorem dpAll_ints : ∀ ns : List Int, DpAll K H (ns.map V.int) (ns.map PyData.int)
  | [] => .nil
  | n :: r => .cons (.int n) (dpAll_ints r)
theorem lay_ints : ∀ ns : List Int, PyData.canLayAll0 (ns.map PyData.int) = true
  | [] => by simp [PyData.canLayAll0]
  | n :: r => by simp [PyData.canLayAll0, PyData.canLay0, lay_ints r]
theorem depth_ints : ∀ ns : List Int, PyData.depthAll (ns.map PyData.int) = 0
  | [] => by simp [PyData.depthAll]
  | n :: r => by simp [PyData.depthAll, PyData.depth, depth_ints r]
theorem shaped_ints (ns : List Int) : SeqAt.shaped (.list (ns.map PyData.int)) = true := by
  unfold SeqAt.shaped
  have h1 : PyData.canLay0 (.list (ns.map PyData.int)) = true := by simpa [PyData.canLay0] using lay_ints ns
  have h2 : PyData.depth (.list (ns.map PyData.int)) = 1 := by simp [PyData.depth, depth_ints ns]
  rw [h1, h2]; rfl
/-- a list of ints against the empty list -/
theorem i_neNil {a p : Addr} {ns : List Int} (h1 : SqL K H a (ns.map V.int)) (h2 : H p = some (.lst [])) (k : Q (.bl (!ns.isEmpty)) H) : rNeD K (.ref a) (.ref p) H Q := by
  refine ⟨.list (ns.map PyData.int), .list [], .lst h1 (dpAll_ints ns), .lst (SqL.of h2) .nil, shaped_ints ns, shaped_ints [], ?_⟩
  have e : PyData.eqv (.list (ns.map PyData.int)) (.list []) = ns.isEmpty := by
    cases ns <;> simp [PyData.eqv, PyData.eqvAll]
  rw [e]
  exact k
end
section
variable {J : It} {n : Nat} {G : Hp → Prop} {Y : Nat → Hp → V → Hp → Prop} {g : TG} {tt : TT} {te : TE} {vs : List Nat} {σ : L2.St} {H1 : Hp} {Qd : Addr → Hp → Prop} {b l : Addr}
/-- a comprehension whose elements draw from a flow: Pe tells of each, in the heap -/
theorem lcKF (w : Walk J n G Y) (Pe : Addr → Nat → Hp → V → Prop) (hn : n ≤ sizeLine) (hf : FlowAt H1 b l) (hk : ∀ D i H H' y, KeepF b l H H' → Pe D i H y → Pe D i H' y) (hm : ∀ D i H o y, Pe D i H y → Pe D i (upd H D o) y)
    (hG : ∀ H, KeepF b l H1 H → G H)
    (hs : ∀ D acc i x H H' (C : VK) (N : Hp → Prop), i < n → KeepF b l H1 H → H1 D = none → H D = some (.lst acc) → Y i H x H' → (∀ y H4, Pe D i H4 y → KeepF b l H H4 → C y H4) →
      g x (wipe σ vs) H' fun σ2 H2 => wipe σ2 vs = wipe σ vs ∧ tt σ2 H2 fun b H3 => if b = true then te σ2 H3 C else N H3)
    (hd : ∀ D H' (ys : List V), H1 D = none → KeepF b l H1 H' → H' D = some (.lst ys) → ys.length = n → (∀ (j : Nat) y, ys[j]? = some y → Pe D j H' y) → Qd D H') : LcAsk J g tt te vs σ H1 Qd := by
  intro D hD
  have off := hf.fresh hD
  refine lc_it w (Qd := Qd D) (fun i H => KeepF b l H1 H ∧ ∃ ys : List V, H D = some (.lst ys) ∧ ys.length = i ∧ ∀ (j : Nat) y, ys[j]? = some y → Pe D j H y) ⟨KeepF.new hf hD, [], upd_same, rfl, fun j y h => by simp at h⟩ (fun i H _ p => hG H p.1) (fun i x H H' hi p y => ?_) fun H p => ?_
  · obtain ⟨kp, ys, hys, hl, hp⟩ := p
    refine hs D ys i x H H' _ _ hi kp hD hys y fun y' H4 pe k4 => ?_
    refine ⟨ys, k4.at hys (.inl off), by omega, (kp.trans k4).mut hD, ys ++ [y'], upd_same, by rw [List.length_append, hl]; rfl, fun j v hv => ?_⟩
    rcases Nat.lt_trichotomy j ys.length with h1 | h1 | h1
    · rw [List.getElem?_append_left h1] at hv; exact hm _ _ _ _ _ (hk _ _ _ _ _ k4 (hp j v hv))
    · subst h1
      have e : y' = v := by simpa using hv
      subst e; rw [hl]; exact hm _ _ _ _ _ pe
    · have hnone : (ys ++ [y'])[j]? = none := List.getElem?_eq_none (by rw [List.length_append, List.length_singleton]; omega)
      rw [hnone] at hv; cases hv
  · obtain ⟨kp, ys, hys, hl, hp⟩ := p
    exact hd D H ys hD kp hys hl hp
end
/-- signs of a text, as a list of texts of one sign -/
theorem chars_of {z : Str} {ys : List V} (h : ∀ (j : Nat) y, ys[j]? = some y → ∃ c ∈ toL z, y = V.str ⟨#[c]⟩) : ∃ cs : List Nat, cs.length = ys.length ∧ (∀ c ∈ cs, c ∈ toL z) ∧ ys = (cs.map fun c => (⟨#[c]⟩ : Str)).map V.str := by
  induction ys with
  | nil => exact ⟨[], rfl, (fun c h => nomatch h), rfl⟩
  | cons y ys ih =>
    obtain ⟨c, hc, rfl⟩ := h 0 y rfl
    obtain ⟨cs, e1, e2, e3⟩ := ih fun j y hj => h (j + 1) y (by simpa using hj)
    refine ⟨c :: cs, by simp [e1], fun d hd => ?_, by rw [e3]; rfl⟩
    rcases List.mem_cons.mp hd with q | q
    · rw [q]; exact hc
    · exact e2 d q
theorem chars_flat (cs : List Nat) : (cs.map fun c => (⟨#[c]⟩ : Str)).flatMap toL = cs := by
  induction cs with
  | nil => rfl
  | cons c r ih => rw [List.map_cons, List.flatMap_cons, ih]; rfl
theorem chars_sum (cs : List Nat) : ((cs.map fun c => (⟨#[c]⟩ : Str)).map (·.length)).sum = cs.length := by
  induction cs with
  | nil => rfl
  | cons c r ih => rw [List.map_cons, List.map_cons, List.sum_cons, ih, List.length_cons]; show 1 + r.length = _; omega
end AR
local macro_rules | `(tactic| walk_at "nb") => `(tactic| first | exact Or.inr AR.fl_tup | exact Or.inr AR.fl_ins | exact Or.inr AR.fl_dK | exact Or.inr AR.fl_dT | exact Or.inr AR.fl_frz | exact Or.inr AR.fl_own | exact Or.inr AR.fl_str1 | exact Or.inl (by assumption) | assumption)
local macro_rules | `(tactic| walk_at "h") => `(tactic| first | assumption | ((with_reducible refine' L2.Same.seq ?kk ?hh); (case kk => assumption); (case hh => walk_at "h")) | ((with_reducible refine' AR.sameSqT ?kk ?hh); (case kk => assumption); (case hh => walk_at "h")) | ((with_reducible refine' AR.same_at ?kk ?hh); (case kk => assumption); (case hh => walk_at "h")) | ((with_reducible refine' L2.SqL.of ?hh); (case hh => walk_at "h")) | ((with_reducible refine' L2.SqT.of ?hh); (case hh => walk_at "h")) | ((with_reducible refine' AR.KeepF.at ?kk ?hh ?nn); (case kk => assumption); (case hh => walk_at "h"); (case nn => walk_at "nb")) | ((with_reducible refine' AR.KeepF.sqT ?kk ?hh); (case kk => assumption); (case hh => walk_at "h")) | ((with_reducible refine' AR.KeepF.sqL ?kk ?nn ?hh); (case kk => assumption); (case hh => walk_at "h"); (case nn => walk_at "nb")) | exact AR.KeepF.f' (by assumption))
local macro_rules | `(tactic| walk_at "kp") => `(tactic| first | assumption | ((with_reducible refine' AR.KeepF.seq ?hh ?kk); (case kk => assumption); (case hh => walk_at "kp")) | exact AR.KeepF.refl (by assumption) | ((with_reducible refine' AR.KeepF.trans ?hh ?kk); (case kk => assumption); (case hh => walk_at "kp")) | exact AR.KeepF.same (by assumption) (by assumption))
local macro_rules | `(tactic| walk_at "g1") => `(tactic| first
  | with_reducible refine AR.i_seq ?_ | with_reducible refine AR.i_asg ?_ | with_reducible refine AR.i_op ?_ | with_reducible refine AR.i_c ?_ | ((with_reducible refine' AR.i_var ?vv ?_); (case vv => exact rfl)) | with_reducible refine AR.i_un ?_
  | with_reducible refine AR.i_I0 ?_ | with_reducible refine AR.i_U ?_ | with_reducible refine AR.i_nil ?_ | with_reducible refine AR.i_cons ?_ | with_reducible refine AR.i_cb ?_ | with_reducible refine AR.i_call ?_
  | with_reducible refine AR.i_name ?_ | with_reducible refine AR.i_sub ?_ | with_reducible refine AR.i_drop ?_ | with_reducible refine AR.i_ret ?_ | with_reducible refine AR.i_retN ?_ | with_reducible refine AR.i_next ?_ | with_reducible refine AR.i_ifS ?_
  | with_reducible refine AR.i_test ?_ | with_reducible refine AR.i_B ?_ | with_reducible refine AR.i_not ?_ | with_reducible refine AR.i_if ?_ | with_reducible refine AR.i_bl ?_ | with_reducible refine AR.i_lc ?_ | with_reducible refine AR.i_Lst ?_ | with_reducible refine AR.i_Tup ?_ | with_reducible refine AR.i_par ?_ | with_reducible refine AR.i_and ?_ | with_reducible refine AR.i_or ?_ | with_reducible refine AR.i_andV ?_ | with_reducible refine AR.i_orV ?_ | with_reducible refine AR.i_notV ?_ | with_reducible refine AR.i_bm ?_ | ((with_reducible refine' AR.i_lenL ?hh ?_); (case hh => walk_at "h")) | ((with_reducible refine' AR.i_lenU ?hh ?_); (case hh => walk_at "h")) | ((with_reducible refine' AR.i_tyL ?hh ?_); (case hh => walk_at "h")) | with_reducible refine AR.i_M1 ?_ | with_reducible refine AR.i_M0 ?_ | with_reducible refine AR.i_isS ?_ | with_reducible refine AR.i_bm0 ?_ | with_reducible refine AR.i_sl ?_ | with_reducible refine AR.i_part ?_ | with_reducible refine AR.i_nopart ?_ | with_reducible refine AR.i_yes ?_ | with_reducible refine AR.i_it ?_ | with_reducible refine AR.i_if0 ?_ | with_reducible refine AR.i_iRng1 ?_ | with_reducible refine AR.i_iStr ?_ | with_reducible refine AR.i_iList ?_ | with_reducible refine AR.i_iTup ?_ | with_reducible refine AR.i_for ?_ | with_reducible refine Or.inl ⟨_, rfl, ?_⟩ | with_reducible refine ⟨_, rfl, ?_⟩ | with_reducible refine ⟨_, _, rfl, ?_⟩ | ((with_reducible refine' AR.i_I ?cc ?_); (case cc => walk_at "sd")) | with_reducible refine AR.i_chain ?_ | with_reducible refine AR.i_nt ?_ | with_reducible refine AR.i_nf ?_ | with_reducible refine AR.i_gcons ?_ | with_reducible refine AR.i_gnil ?_ | with_reducible refine AR.i_iZ ?_ | with_reducible refine AR.i_dget ?_ | with_reducible refine AR.i_sFld ?_ | with_reducible refine AR.i_fldI ?_ | with_reducible refine AR.i_revS ?_ | with_reducible refine AR.i_Meth ?_ | with_reducible refine AR.i_Make ?_ | with_reducible refine AR.i_listZ ?_ | with_reducible refine AR.i_isiS ?_ | with_reducible refine AR.i_dc ?_ | with_reducible refine AR.i_revX ?_ | with_reducible refine AR.i_par3 ?_ | with_reducible refine ⟨_, _, _, rfl, ?_⟩
  | ((with_reducible refine' AR.i_ixL ?hh ?ee ?_); (case hh => walk_at "h"); (case ee => rfl)) | ((with_reducible refine' AR.i_ixT ?hh ?ee ?_); (case hh => walk_at "h"); (case ee => rfl)))
local macro_rules | `(tactic| walk_at "g") => `(tactic| repeat walk_at "g1")
local macro_rules | `(tactic| walk_at "sd") => `(tactic| first | exact (show (0 : Int) < _ by omega) | exact Or.inr ⟨by decide, by decide⟩ | exact Or.inl ⟨by decide, by decide⟩ | exact ⟨by decide, by decide⟩ | exact ⟨by omega, by omega⟩ | exact ⟨by decide, by decide, by decide⟩ | decide)
local macro_rules | `(tactic| walk_at "sm") => `(tactic| first | assumption | exact L2.Same.refl _ | ((with_reducible refine' L2.Same.trans ?hh ?kk); (case kk => assumption); (case hh => walk_at "sm")))

namespace VS
theorem dropZ_nil : dropZ [] = [] := rfl
theorem dropZ_zero {ns : List Int} (h : ns ≠ []) (hz : ns[ns.length - 1]'(by have := List.length_pos_iff.mpr h; omega) = 0) : dropZ ns.dropLast = dropZ ns := by
  obtain ⟨r, x, rfl⟩ : ∃ r x, ns = r ++ [x] := ⟨ns.dropLast, ns.getLast h, (List.dropLast_concat_getLast h).symm⟩
  have hx : x = 0 := by simpa using hz
  subst hx
  unfold dropZ
  simp
theorem dropZ_keep {ns : List Int} (h : ns ≠ []) (hz : ns[ns.length - 1]'(by have := List.length_pos_iff.mpr h; omega) ≠ 0) : dropZ ns = ns := by
  obtain ⟨r, x, rfl⟩ : ∃ r x, ns = r ++ [x] := ⟨ns.dropLast, ns.getLast h, (List.dropLast_concat_getLast h).symm⟩
  have hx : x ≠ 0 := by simpa using hz
  unfold dropZ
  simp [hx]
theorem getLastD_at {ns : List Int} (h : ns ≠ []) : ns.getLastD 0 = ns[ns.length - 1]'(by have := List.length_pos_iff.mpr h; omega) := by
  rw [List.getLastD_eq_getLast?, List.getLast?_eq_getElem?, List.getElem?_eq_getElem]
  rfl
end VS
namespace K21
open PySem PySem.Spec PyProof.Rows L2 AR VS
open C8 (Cal Met Mak pss_cut tCut)
theorem at_last1 {xs : List V} {v : V} (h : xs[xs.length - 1]? = some v) : atI xs (-1) = some v := by
  have hl : 0 < xs.length := Nat.lt_of_le_of_lt (Nat.zero_le _) (List.getElem?_eq_some_iff.mp h).1
  unfold atI ixN
  rw [if_neg (by decide), if_pos (by omega)]
  show xs[_]? = _
  rw [← h]
  congr 1
  omega
section
variable {P : Program} {w : World} {K : PySem.W.Frag} {mg : Str → Option Value} {base : Heap}
theorem v_w_less (T : Tx K mg) : Cal P w K mg base 1 "_law_less" (spB K 1 lessF) [] := by
  refine T.d_less.cal sc_w_less (fun vs H Q E h => ?_) (fun f cdv A outer s H vs Q E hr h => ?_)
  · obtain ⟨b, vs', as, c, hs, ds, r, c', rfl, hb, hx, s, tp, rp, hl, _⟩ := h
    rw [List.length_cons, rp.length, hl]; rfl
  · obtain ⟨b, vs', as, bc, hs, ds, r, c', rfl, hb, hx, sb, tp, rp, hl, ef, kk⟩ := h
    unfold lessF at ef
    split at ef
    case h_2 => cases ef
    rename_i ns0 s0 c0 n
    split at ef
    case isFalse => cases ef
    rename_i hn
    obtain ⟨n0, n1⟩ := hn
    obtain ⟨l, rfl, nbl, hb1, hb2, hb3⟩ := hb
    have e1 : r = .int (lessN ns0 s0 c0 n).1 ∧ c' = (lessN ns0 s0 c0 n).2 := by cases ef; exact ⟨rfl, rfl⟩
    cases rp with
    | cons r1 t1 =>
    cases t1
    cases r1
    have hf : FlowAt H b l := ⟨ns0, s0, c0, hb1, hb2, hb3⟩
    have k : ∀ (v : Int) (H' : Hp) (ns' : List Int) (s' c2 : Int), KeepF b l H H' → H' b = some (.lst [.ref l, .int s', .int c2]) → H' l = some (.lst (ns'.map V.int)) → ns'.length ≤ 1000 → v = (lessN ns0 s0 c0 n).1 → BoxC.flow ns' s' c2 = (lessN ns0 s0 c0 n).2 → Q (.int v) H' := fun v H' ns' s' c2 kf g1 g2 g3 ev ec => by
      have no : ∀ a, a = b ∨ a = l → ∀ xs, H' a ≠ some (.tup xs) := fun a ha xs z => by
        rcases ha with q | q
        · rw [q, g1] at z; cases z
        · rw [q, g2] at z; cases z
      have sb' : Sub hs H' := fun a o q => by
        have na : a ≠ b ∧ a ≠ l := ⟨(fun z => by rw [z, hx b (by simp)] at q; cases q), (fun z => by rw [z, hx l (by simp)] at q; cases q)⟩
        rcases sb a o q with z | ⟨z1, ob, z2⟩
        · exact .inl (kf.st a o z na.1 na.2)
        · exact .inr ⟨z1, ob, kf.st a _ z2 na.1 na.2⟩
      refine kk (.int v) (grow hs H') H' (fun a o ha q => kf.st a o q (fun z => ha (by simp [z])) (fun z => ha (by simp [z]))) (by rw [e1.2, ← ec]; exact ⟨l, rfl, nbl, g1, g2, g3⟩) (grow_same sb') (grow_sub sb') grow_tup (fun a o q z => ?_) (by rw [e1.1, ev]; exact .int _)
      by_cases ab : a = b ∨ a = l
      · rw [grow_no (no a ab)]; exact z
      · rcases grow_or (hs := hs) (H' := H') a with e | ⟨xs, e1, e2⟩
        · rw [e]; exact z
        · rw [kf.st a o q (fun z => ab (.inl z)) (fun z => ab (.inr z))] at e1
          rw [tp a xs (q.trans e1)] at z; cases z
    refine ⟨_, (pss_cut (ps_while PassesOwn.never (PW.pt (pw_and (pt_cmpR (op_neDK K hr.units) (pe_ix (ix_listK K) (pv 0) pe_int (fun _ _ => rfl)) (pe_lst pa_nil) (nomark _)) (pw_and1 (pt_cmpR op_eq (pe_ix (ix_listK K) (pe_ix (ix_listK K) (pv 0) pe_int (fun _ _ => rfl)) (pe_un un_neg pe_int) (fun _ _ => rfl)) pe_int (nomark _))))) (pss_one (ps_expr (pe_bm0 PySem.F.plainAttrs_list PySem.F.slot_list_pop PySem.F.type_list_pop mt_pop (pe_ix (ix_listK K) (pv 0) pe_int (fun _ _ => rfl))))))
      (pss_cons (ps_if (pt_cmpR (op_neDK K hr.units) (pe_ix (ix_listK K) (pv 0) pe_int (fun _ _ => rfl)) (pe_lst pa_nil) (nomark _)) (pss_cons (ps_set (i := 2) sc_w_less.nd rfl (Or.inl rfl) (pe_bm0 PySem.F.plainAttrs_list PySem.F.slot_list_pop PySem.F.type_list_pop mt_pop (pe_ix (ix_listK K) (pv 0) pe_int (fun _ _ => rfl))))
      (pss_cons (ps_expr (pe_bm PySem.F.plainAttrs_list PySem.F.slot_list_append PySem.F.type_list_append mt_append (pe_ix (ix_listK K) (pv 0) pe_int (fun _ _ => rfl)) (pa_cons (pe_op op_fdiv (pv 2) (pv 1)) pa_nil)))
      (pss_one (ps_ret (pe_op op_mod (pe_callTy call_int1 (by rfl) T.b_int (by decide +kernel) (pa_cons (pv 2) pa_nil)) (pv 1)))))) pss_nil)
      (pss_cons (ps_asg (pe_op op_add (pe_ix (ix_listK K) (pv 0) pe_int (fun _ _ => rfl)) pe_int) (pg_sub (pv 0) pe_int set_list))
      (pss_cons (ps_asg (pe_op op_mod (pe_callTy call_int1 (by rfl) T.b_int (by decide +kernel) (pa_cons (pe_op op_add (pe_op op_mul (pe_ix (ix_listK K) (pv 0) pe_int (fun _ _ => rfl)) pe_int) (pe_op op_mul pe_int (pe_ix (ix_listK K) (pv 0) pe_int (fun _ _ => rfl)))) pa_nil)) pe_int) (pg_sub (pv 0) pe_int set_list))
      (pss_one (ps_ret (pe_op op_mod (pe_callTy call_int1 (by rfl) T.b_int (by decide +kernel) (pa_cons (pe_op op_fdiv (pe_ix (ix_listK K) (pv 0) pe_int (fun _ _ => rfl)) pe_int) pa_nil)) (pv 1)))))))), ?_⟩
    refine ⟨fun σ H' => ∃ (ns : List Int) (v2 : Option V), σ = [some (.ref b), some (.int n), v2] ∧ H' b = some (.lst [.ref l, .int s0, .int c0]) ∧ H' l = some (.lst (ns.map V.int)) ∧ ns.length ≤ 1000 ∧ ns = dropZ ns0 ∧ KeepF b l H H', ?_, ?_⟩
    · refine ⟨fun m σ H' => ∃ (ns : List Int) (v2 : Option V), σ = [some (.ref b), some (.int n), v2] ∧ H' b = some (.lst [.ref l, .int s0, .int c0]) ∧ H' l = some (.lst (ns.map V.int)) ∧ ns.length ≤ 1000 ∧ dropZ ns = dropZ ns0 ∧ ns.length = m ∧ KeepF b l H H', ?_, ?_⟩
      · exact ⟨_, ns0, _, rfl, hb1, hb2, hb3, rfl, rfl, KeepF.refl hf⟩
      · rintro m σ H1 ⟨ns, v2, rfl, h1, h2, h3, hdz, rfl, k1⟩
        walk_at "g"
        refine ⟨by show 0 ≤ sizeLine; decide, fun p np => ?_⟩
        generalize hE : upd _ _ _ = H2
        obtain ⟨s2, hp⟩ := newS np hE
        have k2 : KeepF b l H H2 := k1.seq s2
        have g1 := s2 _ _ h1
        have g2 := s2 _ _ h2
        refine i_neNil (SqL.of g2) hp ?_
        walk_at "g"
        by_cases en : ns = []
        · rw [if_neg (by rw [en]; decide)]
          refine ⟨ns, v2, rfl, g1, g2, h3, ?_, k2⟩
          rw [← hdz, en]; rfl
        · have hl : 0 < ns.length := List.length_pos_iff.mpr en
          rw [if_pos (by cases ns with | nil => exact absurd rfl en | cons x r => rfl)]
          walk_at "g"
          refine i_ixL (SqL.of g2) (v := .int (ns[ns.length - 1]'(by omega))) ?_ ?_
          · exact at_last1 (by rw [List.getElem?_map, List.length_map, List.getElem?_eq_getElem (by omega)]; rfl)
          · walk_at "g"
            refine i_eq (x := .int _) (y := .int _) rfl ?_
            walk_at "g"
            refine i_dec (fun hx => ?_) (fun hx => ?_)
            · have hx0 : ns[ns.length - 1]'(by omega) = 0 := by injection hx
              refine ⟨fun σ' H' => ∃ (ns' : List Int) (v2 : Option V), σ' = [some (.ref b), some (.int n), v2] ∧ H' b = some (.lst [.ref l, .int s0, .int c0]) ∧ H' l = some (.lst (ns'.map V.int)) ∧ ns'.length < ns.length ∧ dropZ ns' = dropZ ns0 ∧ KeepF b l H H', ?_, ?_⟩
              · rintro σ' H' ⟨ns', v', e1, e2, e3, e4, e5, e6⟩
                exact ⟨_, e4, ns', v', e1, e2, e3, by omega, e5, rfl, e6⟩
              · walk_at "g"
                refine ⟨l, ns.map V.int, .int (ns[ns.length - 1]'(by omega)), rfl, rfl, g2, by rw [List.length_map, List.getElem?_map, List.getElem?_eq_getElem (by omega)]; rfl, ?_⟩
                rw [← List.map_dropLast]
                exact ⟨ns.dropLast, _, rfl, by rw [upd_ne hf.ne]; exact g1, upd_same, by rw [List.length_dropLast]; omega, by rw [dropZ_zero en hx0]; exact hdz, k2.setl _ (by rw [List.length_dropLast]; omega)⟩
            · have hx0 : ns[ns.length - 1]'(by omega) ≠ 0 := fun z => hx (by rw [z])
              exact ⟨ns, v2, rfl, g1, g2, h3, by rw [← hdz, dropZ_keep en hx0], k2⟩
    · rintro σ H1 ⟨ns, v2, rfl, h1, h2, h3, hdz, k1⟩
      walk_at "g"
      refine ⟨by show 0 ≤ sizeLine; decide, fun p np => ?_⟩
      generalize hE : upd _ _ _ = H2
      obtain ⟨s2, hp⟩ := newS np hE
      have k2 : KeepF b l H H2 := k1.seq s2
      have g1 := s2 _ _ h1
      have g2 := s2 _ _ h2
      refine i_neNil (SqL.of g2) hp ?_
      walk_at "g"
      by_cases en : ns = []
      · rw [if_neg (by rw [en]; decide)]
        walk_at "g"
        refine ⟨b, _, _, 2, rfl, rfl, g1, rfl, ?_⟩
        generalize hE3 : upd _ _ _ = H3
        have g13 : H3 b = some (.lst [.ref l, .int s0, .int (c0 + 1)]) := by rw [← hE3]; exact upd_same
        have g23 : H3 l = some (.lst (ns.map V.int)) := by rw [← hE3, upd_ne (Ne.symm hf.ne)]; exact g2
        have k3 : KeepF b l H H3 := by rw [← hE3]; exact k2.setb s0 (c0 + 1)
        walk_at "g"
        refine ⟨b, _, _, 1, rfl, rfl, g13, rfl, ?_⟩
        generalize hE4 : upd _ _ _ = H4
        have g14 : H4 b = some (.lst [.ref l, .int ((s0 * 39373 + 113 * (c0 + 1)) % 2147483629), .int (c0 + 1)]) := by rw [← hE4]; exact upd_same
        have g24 : H4 l = some (.lst (ns.map V.int)) := by rw [← hE4, upd_ne (Ne.symm hf.ne)]; exact g23
        have k4 : KeepF b l H H4 := by rw [← hE4]; exact k3.setb _ (c0 + 1)
        walk_at "g"
        have hd0 : dropZ ns0 = [] := by rw [← hdz]; exact en
        refine k _ _ ns _ _ k4 g14 g24 h3 ?_ ?_
        · unfold lessN; rw [if_pos hd0]
        · unfold lessN; rw [if_pos hd0, en]
      · have hl : 0 < ns.length := List.length_pos_iff.mpr en
        rw [if_pos (by cases ns with | nil => exact absurd rfl en | cons x r => rfl)]
        walk_at "g"
        refine ⟨l, ns.map V.int, .int (ns[ns.length - 1]'(by omega)), rfl, rfl, g2, by rw [List.length_map, List.getElem?_map, List.getElem?_eq_getElem (by omega)]; rfl, ?_⟩
        rw [← List.map_dropLast]
        generalize hE3 : upd _ _ _ = H3
        have k3 : KeepF b l H H3 := by rw [← hE3]; exact k2.setl _ (by rw [List.length_dropLast]; omega)
        have g13 : H3 b = some (.lst [.ref l, .int s0, .int c0]) := by rw [← hE3, upd_ne hf.ne]; exact g1
        have g23 : H3 l = some (.lst (ns.dropLast.map V.int)) := by rw [← hE3]; exact upd_same
        walk_at "g"
        refine i_app g23 (by rw [List.length_map, List.length_dropLast]; show _ < 16777216; omega) ?_
        have e4 : ns.dropLast.map V.int ++ [V.int (ns[ns.length - 1] / n)] = (ns.dropLast ++ [ns[ns.length - 1] / n]).map V.int := by rw [List.map_append]; rfl
        rw [e4]
        generalize hE4 : upd _ _ _ = H4
        have k4 : KeepF b l H H4 := by rw [← hE4]; exact k3.setl _ (by rw [List.length_append, List.length_dropLast]; simp; omega)
        have g14 : H4 b = some (.lst [.ref l, .int s0, .int c0]) := by rw [← hE4, upd_ne hf.ne]; exact g13
        have g24 : H4 l = some (.lst ((ns.dropLast ++ [ns[ns.length - 1] / n]).map V.int)) := by rw [← hE4]; exact upd_same
        walk_at "g"
        have hd0 : ¬ dropZ ns0 = [] := by rw [← hdz]; exact en
        refine k _ _ _ _ _ k4 g14 g24 (by rw [List.length_append, List.length_dropLast]; simp; omega) ?_ ?_
        · unfold lessN; rw [if_neg hd0, ← hdz, getLastD_at en]
        · unfold lessN; rw [if_neg hd0, ← hdz, getLastD_at en]
end
end K21
namespace K21
open PySem PySem.Spec PyProof.Rows L2 AR VS
open C8 (Cal Met Mak pss_cut tCut)
section
variable {P : Program} {w : World} {K : PySem.W.Frag} {mg : Str → Option Value} {base : Heap}
theorem rep_lst {K : PySem.W.Frag} {hs : Hp} {v : V} {ds : List D} (r : Rep K hs v (.lst ds)) : ∃ a xs, v = V.ref a ∧ SqL K hs a xs ∧ RepAll K hs xs ds := by cases r with | lst q l t => exact ⟨_, _, rfl, q, t⟩
theorem stir_snoc {cs : List Int} {i : Nat} {r t : Int} (h : cs[i]? = some r) : stir (cs.take (i + 1)) t = (stir (cs.take i) t * 39373 + r % 2147483579 + 17) % 2147483629 := by
  unfold stir
  rw [List.take_succ, h, List.foldl_append]
  rfl
theorem v_w_flow (T : Tx K mg) : Cal P w K mg base 1 "_law_flow" (spNB K 2 flowF) [] := by
  refine T.d_flow.cal sc_w_flow (fun vs H Q E h => ?_) (fun f cdv A outer s H vs Q E hr h => ?_)
  · obtain ⟨hs, ds, c, sb, rp, hl, _⟩ := h
    rw [rp.length, hl]; rfl
  · obtain ⟨hs, ds, bc, sb, rp, hl, ef, kk0⟩ := h
    unfold flowF at ef
    split at ef
    case h_2 => cases ef
    rename_i xs0 kk
    obtain ⟨ns, ei, e2⟩ := Option.bind_eq_some_iff.mp ef
    split at e2
    case isFalse => cases e2
    rename_i hb
    obtain ⟨nl, k0, k1⟩ := hb
    cases e2
    cases rp with
    | cons r1 t1 =>
    cases t1 with
    | cons r2 t2 =>
    cases t2
    cases r2
    obtain ⟨a, vs1, rfl, hS0, tt⟩ := rep_lst r1
    rw [ints_rep tt ei] at hS0
    have hS : SqL K H a (ns.map V.int) := sb.sqL hS0
    have k : ∀ (b l : Addr) (H' : Hp) (qs : List Int) (t : Int), Same H H' → H b = none → H l = none → b ≠ l → H' b = some (.lst [.ref l, .int t, .int 0]) → H' l = some (.lst (qs.map V.int)) → qs.length ≤ 1000 → BoxC.flow qs t 0 = flowB ns kk → Q (.ref b) H' := fun b l H' qs t sm nb nl ne h1 h2 h3 e => by
      refine kk0 b [b, l] H' sm (fun x hx => ?_) (by rw [← e]; exact ⟨l, rfl, ne, h1, h2, h3⟩)
      rcases List.mem_cons.mp hx with q | q
      · rw [q]; exact nb
      · rw [List.mem_singleton.mp q]; exact nl
    refine ⟨_, (pss_cons (ps_par (i := 2) (j := 3) (by rfl) sc_w_flow.nd rfl rfl (by decide) rfl rfl (pa_cons (pe_lc (own := [("_law_cell", 4)]) (g := gName 4) (tt := tYes) (by rfl) sc_w_flow.nd (pi_listK K (pe_slice (sl_listK K) (pv 0) (po_some (pv 1)) (po_some pe_int))) (blkOk_by (own := [("_law_cell", 4)]) (N := ["_law_script", "_law_base", "_law_cells", "_law_stirred", "_law_cell"]) (sc := defScope s_w_flow) (by decide +kernel)) (fun _ _ _ _ _ => (pg_name (i := 4) sc_w_flow.nd rfl (Or.inl rfl))) (fun _ _ _ _ _ => pts_nil) (fun _ _ _ _ _ => (pe_callB call_abs (by rfl) T.b_abs (by decide +kernel) (pa_cons (pe_callTy call_int1 (by rfl) T.b_int (by decide +kernel) (pa_cons (pv 4) pa_nil)) pa_nil)))) (pa_cons (pe_op op_add pe_int (pe_op op_mul pe_int (pv 1))) pa_nil)) (by rfl))
      (pss_cons (ps_for PassesOwn.never rfl (pi_listK K (pv 2)) (pg_name (i := 4) sc_w_flow.nd rfl (Or.inl rfl))
      (pss_one (ps_set (i := 3) sc_w_flow.nd rfl (Or.inl rfl) (pe_op op_mod (pe_callTy call_int1 (by rfl) T.b_int (by decide +kernel) (pa_cons (pe_op op_add (pe_op op_add (pe_op op_mul (pv 3) pe_int) (pe_op op_mod (pe_callTy call_int1 (by rfl) T.b_int (by decide +kernel) (pa_cons (pv 4) pa_nil)) pe_int)) pe_int) pa_nil)) pe_int))))
      (pss_one (ps_ret (pe_lst (pa_cons (pe_revX K (pe_lc (own := [("_law_cell", 4)]) (g := gName 4)  (by rfl) sc_w_flow.nd (pi_listK K (pv 2)) (blkOk_by (own := [("_law_cell", 4)]) (N := ["_law_script", "_law_base", "_law_cells", "_law_stirred", "_law_cell"]) (sc := defScope s_w_flow) (by decide +kernel)) (fun _ _ _ _ _ => (pg_name (i := 4) sc_w_flow.nd rfl (Or.inl rfl))) (fun _ _ _ _ _ => (pts_one (pt_cmpR op_ge (pv 4) (pe_op op_pow pe_int pe_int) (nomark _)))) (fun _ _ _ _ _ => (pv 4))) (pe_op op_sub pe_int pe_int)) (pa_cons (pv 3) (pa_cons pe_int pa_nil)))))))), ?_⟩
    walk_at "g"
    refine ⟨a, ns.map V.int, rfl, hS, fun p np => ?_⟩
    generalize hms : cutL ns (some kk) (some 58) = ms
    have em : cutV (ns.map V.int) (some kk) (some 58) = ms.map V.int := by
      rw [← hms]; unfold cutV cutL; rw [← List.map_drop, ← List.map_take, List.length_map]
    have lm : ms.length ≤ ns.length := by
      rw [← hms]; unfold cutL; rw [List.length_take, List.length_drop]; omega
    rw [em]
    generalize hE : upd _ _ _ = H1
    obtain ⟨s1, hp⟩ := newS np hE
    walk_at "g"
    refine ⟨⟨_, SqL.of hp⟩, ?_⟩
    refine lcS (walk_list (K := K) (a := p) (xs := ms.map V.int)) (fun i => V.int (if ms.getD i 0 < 0 then -(ms.getD i 0) else ms.getD i 0)) (by rw [List.length_map]; show _ ≤ 16777216; omega) (fun Hc sc => SqL.of (sc _ _ hp)) (fun i y H2 H2' C N hi s2 yy kC => ?_) fun D H2 nD s2 hD => ?_
    · obtain ⟨rfl, hy⟩ := yy
      rw [List.getElem?_map] at hy
      cases ey : ms[i]? with
      | none => rw [ey] at hy; cases hy
      | some r =>
        rw [ey] at hy
        cases hy
        walk_at "g"
        refine ⟨rfl, ?_⟩
        walk_at "g"
        have := kC _ (Same.refl _)
        rw [List.getD_eq_getElem?_getD, ey] at this
        exact this
    · rw [List.length_map] at hD
      generalize hcs : ms.map (fun c => if c < 0 then -c else c) = cs
      have lc : cs.length = ms.length := by rw [← hcs, List.length_map]
      have ec : (List.range ms.length).map (fun i => V.int (if ms.getD i 0 < 0 then -(ms.getD i 0) else ms.getD i 0)) = cs.map V.int := by
        rw [← hcs]
        apply List.ext_getElem
        · simp
        · intro i h1 h2
          have hi : i < ms.length := by simpa using h1
          simp [List.getD_eq_getElem?_getD, List.getElem?_eq_getElem hi]
      rw [ec] at hD
      walk_at "g"
      refine ⟨⟨_, SqL.of hD⟩, ?_⟩
      refine for_it (walk_list (K := K) (a := D) (xs := cs.map V.int)) (fun i σ H' => (∃ (v4 : Option V), σ = [some (.ref a), some (.int kk), some (.ref D), some (.int (stir (cs.take i) (24036583 + 71 * kk))), v4]) ∧ H' = H2) ⟨⟨_, rfl⟩, rfl⟩ (fun i σ H' _ h => by rw [h.2]; exact SqL.of hD) ?_ ?_
      · rintro i x σ H3 H3' hi ⟨⟨v4, rfl⟩, rfl⟩ ⟨rfl, hx⟩
        rw [List.getElem?_map] at hx
        cases ex : cs[i]? with
        | none => rw [ex] at hx; cases hx
        | some r =>
          rw [ex] at hx
          cases hx
          walk_at "g"
          rw [stir_snoc ex]
          exact ⟨⟨_, rfl⟩, rfl⟩
      · rintro σ H3 ⟨⟨v4, rfl⟩, rfl⟩
        rw [List.length_map, List.take_length]
        walk_at "g"
        refine ⟨⟨_, SqL.of hD⟩, ?_⟩
        refine lcF (walk_list (K := K) (a := D) (xs := cs.map V.int)) (fun i => decide (cs.getD i 0 ≥ 10 ^ 18)) (fun i => V.int (cs.getD i 0)) (by rw [List.length_map]; show _ ≤ 16777216; omega) (fun Hc sc => SqL.of (sc _ _ hD)) (fun i y H4 H4' C N hi s4 yy kC kN => ?_) fun D' H4 nD' s4 hD' => ?_
        · obtain ⟨rfl, hy⟩ := yy
          rw [List.getElem?_map] at hy
          cases ey : cs[i]? with
          | none => rw [ey] at hy; cases hy
          | some r =>
            rw [ey] at hy
            cases hy
            rw [List.getD_eq_getElem?_getD, ey] at kC kN
            walk_at "g"
            refine ⟨rfl, ?_⟩
            walk_at "g"
            refine i_dec (fun h => ?_) (fun h => ?_)
            · walk_at "g"
              exact kC (decide_eq_true h) _ (Same.refl _)
            · exact kN (decide_eq_false h) _ (Same.refl _)
        · have eq : (((List.range (cs.map V.int).length).filter fun i => decide (cs.getD i 0 ≥ 10 ^ 18)).map fun i => V.int (cs.getD i 0)) = (cs.filter fun c => decide (c ≥ 10 ^ 18)).map V.int := by
            rw [List.length_map]
            have key : ∀ (l : List Int) (p : Int → Bool), ((List.range l.length).filter fun i => p (l.getD i 0)).map (fun i => V.int (l.getD i 0)) = (l.filter p).map V.int := by
              intro l p
              have h1 : (List.range l.length).map (fun i => l.getD i 0) = l := by
                apply List.ext_getElem
                · simp
                · intro i a b
                  have hi : i < l.length := by simpa using a
                  simp [List.getD_eq_getElem?_getD, List.getElem?_eq_getElem hi]
              conv => rhs; rw [← h1, List.filter_map, List.map_map]
              rfl
            exact key cs (fun c => decide (c ≥ 10 ^ 18))
          rw [eq] at hD'
          have lq : (cs.filter fun c => decide (c ≥ 10 ^ 18)).length ≤ cs.length := List.length_filter_le _ _
          walk_at "g"
          refine ⟨D', _, rfl, rfl, SqL.of hD', fun l nl' => ?_⟩
          rw [← List.map_reverse]
          generalize hE5 : upd _ _ _ = H5
          obtain ⟨s5, hl5⟩ := newS nl' hE5
          walk_at "g"
          refine ⟨by show 3 ≤ sizeLine; decide, fun b nb => ?_⟩
          generalize hE6 : upd _ _ _ = H6
          obtain ⟨s6, hb6⟩ := newS nb hE6
          have s14 : Same H H4 := (s1.trans s2).trans s4
          refine k b l H6 _ _ (by walk_at "sm") ((s14.trans s5).free nb) (s14.free nl') (fun z => by rw [z, hl5] at nb; cases nb) hb6 (s6 _ _ hl5) (by rw [List.length_reverse]; omega) ?_
          unfold flowB
          rw [hms, hcs]
end
end K21
namespace K21
open PySem PySem.Spec PyProof.Rows L2 AR VS
open C8 (Cal Met Mak)
section
variable {P : Program} {w : World} {K : PySem.W.Frag} {mg : Str → Option Value} {base : Heap}
theorem v_w_any_of (T : Tx K mg) : Cal P w K mg base 2 "_law_any_of" (spB K 1 (fnB 1 2 b_w_any_of)) [] := by
  have C_w_less : Cal P w K mg base 1 "_law_less" (spB K 1 lessF) [] := v_w_less T
  exact GD.vcalB T.d_any_of sc_w_any_of rfl rfl fun f cdv A outer s H E hr => (vs_one (vs_rt (ve_sub (u1 hr) (ve_name (pv 1)) (ve_callB C_w_less lessF_len lessF_form hr (by decide) (by rfl) (pv 0) (va_cons (ve_len (by rfl) T.b_len (vp_name (pv 1))) va_nil)) (fun _ _ => rfl))))
theorem v_w_shaken (T : Tx K mg) : Cal P w K mg base 2 "_law_shaken" (spB K 1 (fnB 1 5 b_w_shaken)) [] := by
  have C_w_less : Cal P w K mg base 1 "_law_less" (spB K 1 lessF) [] := v_w_less T
  exact GD.vcalB T.d_shaken sc_w_shaken rfl rfl fun f cdv A outer s H E hr => (vs_cons (vs_par (i := 2) (j := 3) (by rfl) sc_w_shaken.nd rfl rfl (by decide) rfl rfl (VN.vx (vn_listOf rfl (by rfl) T.b_list (ve_name (pv 1)))) (VN.vx (vn_list va_nil)) (by rfl))
      (vs_cons (vs_for (us := [4]) (by rfl) PassesOwn.never (vi_rng1 (by rfl) T.b_range (va_cons (ve_len (by rfl) T.b_len (vp_name (pv 1))) va_nil)) (vg_name (by decide) (pg_name (i := 4) sc_w_shaken.nd rfl (Or.inl rfl)))
      (vs_one (vs_ex (ve_append (pv 3) (va_cons (ve_popAt (pv 2) (va_cons (ve_callB C_w_less lessF_len lessF_form hr (by decide) (by rfl) (pv 0) (va_cons (ve_len (by rfl) T.b_len (vp_name (pv 2))) va_nil)) va_nil)) va_nil)))))
      (vs_one (vs_rt (ve_name (pv 3))))))
theorem v_w_letters (T : Tx K mg) : Cal P w K mg base 3 "_law_letters" (spB K 1 (fnB 1 3 b_w_letters)) [] := by
  have C_w_any_of : Cal P w K mg base 2 "_law_any_of" (spB K 1 (fnB 1 2 b_w_any_of)) [] := v_w_any_of T
  have C_w_less : Cal P w K mg base 1 "_law_less" (spB K 1 lessF) [] := v_w_less T
  exact GD.vcalB T.d_letters sc_w_letters rfl rfl fun f cdv A outer s H E hr => (vs_cons (vs_set (i := 2) sc_w_letters.nd rfl (Or.inl rfl) (ve_callB C_w_any_of fnB_len fnB_form hr (by decide) (by rfl) (pv 0) (va_cons (ve_list (va_cons (ve_str (by decide +kernel)) (va_cons (ve_str (by decide +kernel)) (va_cons (ve_str (by decide +kernel)) (va_cons (ve_str (by decide +kernel)) (va_cons (ve_str (by decide +kernel)) va_nil)))))) va_nil)))
      (vs_one (vs_rt (ve_slice (ve_name (pv 2)) vo_none (vo_some (ve_add ve_int (ve_callB C_w_less lessF_len lessF_form hr (by decide) (by rfl) (pv 0) (va_cons (ve_name (pv 1)) va_nil))))))))
theorem v_w_draft (T : Tx K mg) : Cal P w K mg base 3 "_law_draft" (spB K 2 (fnB 2 10 b_w_draft)) [] := by
  have C_w_shaken : Cal P w K mg base 2 "_law_shaken" (spB K 1 (fnB 1 5 b_w_shaken)) [] := v_w_shaken T
  have C_w_less : Cal P w K mg base 1 "_law_less" (spB K 1 lessF) [] := v_w_less T
  have C_w_any_of : Cal P w K mg base 2 "_law_any_of" (spB K 1 (fnB 1 2 b_w_any_of)) [] := v_w_any_of T
  exact GD.vcalB T.d_draft sc_w_draft rfl rfl fun f cdv A outer s H E hr => (vs_cons (vs_set (i := 3) sc_w_draft.nd rfl (Or.inl rfl) (ve_slice (ve_callB C_w_shaken fnB_len fnB_form hr (by decide) (by rfl) (pv 0) (va_cons (ve_list (va_cons (ve_str (by decide +kernel)) (va_cons (ve_str (by decide +kernel)) (va_cons (ve_str (by decide +kernel)) (va_cons (ve_str (by decide +kernel)) (va_cons (ve_str (by decide +kernel)) va_nil)))))) va_nil)) vo_none (vo_some (ve_add ve_int (ve_callB C_w_less lessF_len lessF_form hr (by decide) (by rfl) (pv 0) (va_cons (ve_name (pv 2)) va_nil))))))
      (vs_cons (vs_par (i := 4) (j := 5) (by rfl) sc_w_draft.nd rfl rfl (by decide) rfl rfl (VN.vx vn_dnew1) (VE.vx (ve_callB C_w_less lessF_len lessF_form hr (by decide) (by rfl) (pv 0) (va_cons ve_int va_nil))) (by rfl))
      (vs_cons (vs_for (us := [6]) (by rfl) PassesOwn.never (vi_seq (ve_name (pv 3))) (vg_name (by decide) (pg_name (i := 6) sc_w_draft.nd rfl (Or.inl rfl)))
      (vs_one (vs_for (us := [7]) (by rfl) PassesOwn.never (vi_seq (ve_name (pv 1))) (vg_name (by decide) (pg_name (i := 7) sc_w_draft.nd rfl (Or.inl rfl)))
      (vs_one (vs_put (u1 hr) (pv 4) (ve_tup (va_cons (ve_name (pv 6)) (va_cons (ve_name (pv 7)) va_nil))) (ve_callB C_w_any_of fnB_len fnB_form hr (by decide) (by rfl) (pv 0) (va_cons (ve_name (pv 3)) va_nil)) rfl)))))
      (vs_cons (vs_if (CmpV.vt (c_eq (u64 hr)) (ve_name (pv 5)) ve_int (nomark _)) (vs_cons (vs_set (i := 8) sc_w_draft.nd rfl (Or.inl rfl) (ve_callB C_w_shaken fnB_len fnB_form hr (by decide) (by rfl) (pv 0) (va_cons (ve_name (pv 3)) va_nil)))
      (vs_one (vs_for (us := [6, 9]) (by rfl) PassesOwn.never (vi_zip (by rfl) T.b_zip (va_cons (ve_name (pv 3)) (va_cons (ve_name (pv 8)) va_nil))) (vg_tup (n := 2) (by rfl) (vgs_cons (vg_name (by decide) (pg_name (i := 6) sc_w_draft.nd rfl (Or.inl rfl))) (vgs_cons (vg_name (by decide) (pg_name (i := 9) sc_w_draft.nd rfl (Or.inl rfl))) vgs_nil)))
      (vs_one (vs_put (u1 hr) (pv 4) (ve_tup (va_cons (ve_name (pv 6)) (va_cons (ve_sub (u1 hr) (ve_name (pv 1)) ve_int (fun _ _ => rfl)) va_nil))) (ve_name (pv 9)) rfl))))) vs_nil)
      (vs_one (vs_rt (ve_tup (va_cons (ve_tuple (by rfl) T.b_tuple (ve_name (pv 3))) (va_cons (ve_callB C_w_any_of fnB_len fnB_form hr (by decide) (by rfl) (pv 0) (va_cons (ve_name (pv 3)) va_nil)) (va_cons (ve_name (pv 4)) va_nil))))))))))
theorem v_w_line (T : Tx K mg) : Cal P w K mg base 3 "_law_line" (spB K 2 (fnB 2 4 b_w_line)) [] := by
  have C_w_any_of : Cal P w K mg base 2 "_law_any_of" (spB K 1 (fnB 1 2 b_w_any_of)) [] := v_w_any_of T
  have C_w_less : Cal P w K mg base 1 "_law_less" (spB K 1 lessF) [] := v_w_less T
  exact GD.vcalB T.d_line sc_w_line rfl rfl fun f cdv A outer s H E hr => (vs_one (vs_rt (ve_join (ve_str (by decide +kernel)) (ve_lc (own := [("_law_turn", 3)]) (us := [3]) (fg := (gN 3)) (fc := cYes) (fe := (fCaB (fnB 1 2 b_w_any_of) 0 (aC (fN 1) aN))) (by rfl) sc_w_line.nd rfl (vi_rng1 (by rfl) T.b_range (va_cons (ve_callB C_w_less lessF_len lessF_form hr (by decide) (by rfl) (pv 0) (va_cons (ve_add (ve_name (pv 2)) ve_int) va_nil)) va_nil)) (blkOk_by (own := [("_law_turn", 3)]) (N := ["_law_flow_here", "_law_signs_here", "_law_most", "_law_turn"]) (sc := defScope s_w_line) (by decide +kernel)) (fun _ _ _ _ _ => (vg_name (by decide) (pg_name (i := 3) sc_w_line.nd rfl (Or.inl rfl)))) (fun _ _ _ _ _ => vts_nil) (fun _ _ _ _ _ => (ve_callB C_w_any_of fnB_len fnB_form hr (by decide) (by rfl) (pv 0) (va_cons (ve_name (pv 1)) va_nil)))))))
theorem v_first_act (T : Tx K mg) : Cal P w K mg base 1 "first_act" (spF K 1 (fnD 1 1 b_first_act)) [] := by
  exact GD.vcal T.d_first_act sc_first_act rfl rfl fun f cdv A outer s H E hr => (vs_one (vs_rt (ve_attr (cs := ["Reader"]) T.at_marks (vp_name (pv 0)) rfl)))
theorem v_sign_acts (T : Tx K mg) : Cal P w K mg base 1 "sign_acts" (spF K 1 (fnD 1 4 b_sign_acts)) [] := by
  exact GD.vcal T.d_sign_acts sc_sign_acts rfl rfl fun f cdv A outer s H E hr => (vs_one (vs_rt (VN.ve (vn_dc (own := [("at", 2), ("sign", 3)]) (us := [2, 3]) (fg := (gTu 2 (gCo (gN 2) (gCo (gN 3) gNi)))) (fc := cYes) (fk := (fN 3)) (fv := (fU tupO (fLC [1] (iS (fU (attrD ["Reader"] "steps") (pN 0))) (gN 1) cYes (fB getD (fN 1) (fN 2))))) (by rfl) sc_sign_acts.nd rfl (vi_enu (by rfl) T.b_enumerate (ve_attr (cs := ["Reader"]) T.at_signs (vp_name (pv 0)) rfl)) (blkOk_by (own := [("at", 2), ("sign", 3)]) (N := ["reader", "row", "at", "sign"]) (sc := defScope s_sign_acts) (by decide +kernel)) (fun _ _ _ _ _ => (vg_tup (n := 2) (by rfl) (vgs_cons (vg_name (by decide) (pg_name (i := 2) sc_sign_acts.nd rfl (Or.inr rfl))) (vgs_cons (vg_name (by decide) (pg_name (i := 3) sc_sign_acts.nd rfl (Or.inl rfl))) vgs_nil)))) (fun _ _ _ _ _ => vts_nil) (fun _ _ _ _ _ => (ve_name (pv 3))) (fun _ _ _ _ _ => (ve_tuple (by rfl) T.b_tuple (ve_lc (own := [("row", 1)]) (us := [1]) (fg := (gN 1)) (fc := cYes) (fe := (fB getD (fN 1) (fN 2))) (by rfl) sc_sign_acts.nd rfl (vi_seq (ve_attr (cs := ["Reader"]) T.at_steps (vp_name (pv 0)) rfl)) (blkOk_by (own := [("row", 1)]) (N := ["reader", "row", "at", "sign"]) (by rfl)) (fun _ _ _ _ _ => (vg_name (by decide) (pg_name (i := 1) sc_sign_acts.nd rfl (Or.inl rfl)))) (fun _ _ _ _ _ => vts_nil) (fun _ _ _ _ _ => (ve_sub (u1 hr) (ve_name (pv 1)) (ve_name (pv 2)) (fun _ _ => rfl))))))) fDC_nb)))
theorem v_act_then (T : Tx K mg) : Cal P w K mg base 1 "act_then" (spF K 3 (fnD 3 5 b_act_then)) [] := by
  exact GD.vcal T.d_act_then sc_act_then rfl rfl fun f cdv A outer s H E hr => (vs_cons (vs_set (i := 3) sc_act_then.nd rfl (Or.inr rfl) (VN.ve (vn_dictZ (p3 := ⟨0, 0, 0, 0⟩) rfl (by rfl) T.b_dict (by rfl) T.b_zip (va_cons (ve_attr (cs := ["Reader"]) T.at_marks (vp_name (pv 0)) rfl) (va_cons (ve_name (pv 2)) va_nil))) dzO_nb))
      (vs_one (vs_rt (ve_tuple (by rfl) T.b_tuple (ve_lc (own := [("mark", 4)]) (us := [4]) (fg := (gN 4)) (fc := cYes) (fe := (fB getD (fN 3) (fN 4))) (by rfl) sc_act_then.nd rfl (vi_seq (ve_name (pv 1))) (blkOk_by (own := [("mark", 4)]) (N := ["reader", "one", "other", "goes", "mark"]) (sc := defScope s_act_then) (by decide +kernel)) (fun _ _ _ _ _ => (vg_name (by decide) (pg_name (i := 4) sc_act_then.nd rfl (Or.inl rfl)))) (fun _ _ _ _ _ => vts_nil) (fun _ _ _ _ _ => (ve_sub (u1 hr) (ve_name (pv 3)) (ve_name (pv 4)) (fun _ _ => rfl))))))))
theorem v_act (T : Tx K mg) : Cal P w K mg base 2 "act" (spF K 2 (fnD 2 5 b_act)) [] := by
  have C_first_act : Cal P w K mg base 1 "first_act" (spF K 1 (fnD 1 1 b_first_act)) [] := v_first_act T
  have C_sign_acts : Cal P w K mg base 1 "sign_acts" (spF K 1 (fnD 1 4 b_sign_acts)) [] := v_sign_acts T
  have C_act_then : Cal P w K mg base 1 "act_then" (spF K 3 (fnD 3 5 b_act_then)) [] := v_act_then T
  exact GD.vcal T.d_act sc_act rfl rfl fun f cdv A outer s H E hr => (vs_cons (vs_par (i := 2) (j := 3) (by rfl) sc_act.nd rfl rfl (by decide) rfl rfl (VE.vx (ve_call C_first_act hr (by decide) (by rfl) (va_cons (ve_name (pv 0)) va_nil))) (VE.vx (ve_call C_sign_acts hr (by decide) (by rfl) (va_cons (ve_name (pv 0)) va_nil))) (by rfl))
      (vs_cons (vs_for (us := [4]) (by rfl) PassesOwn.never (vi_seq (ve_name (pv 1))) (vg_name (by decide) (pg_name (i := 4) sc_act.nd rfl (Or.inl rfl)))
      (vs_one (vs_set (i := 2) sc_act.nd rfl (Or.inl rfl) (ve_call C_act_then hr (by decide) (by rfl) (va_cons (ve_name (pv 0)) (va_cons (ve_name (pv 2)) (va_cons (ve_sub (u1 hr) (ve_name (pv 3)) (ve_name (pv 4)) (fun _ _ => rfl)) va_nil)))))))
      (vs_one (vs_rt (ve_name (pv 2))))))
theorem v_acts (T : Tx K mg) : Cal P w K mg base 2 "acts" (spF K 1 (fnD 1 9 b_acts)) [] := by
  have C_sign_acts : Cal P w K mg base 1 "sign_acts" (spF K 1 (fnD 1 4 b_sign_acts)) [] := v_sign_acts T
  have C_first_act : Cal P w K mg base 1 "first_act" (spF K 1 (fnD 1 1 b_first_act)) [] := v_first_act T
  have C_act_then : Cal P w K mg base 1 "act_then" (spF K 3 (fnD 3 5 b_act_then)) [] := v_act_then T
  exact GD.vcal T.d_acts sc_acts rfl rfl fun f cdv A outer s H E hr => (vs_cons (vs_parT3 (by rfl) (VE.vx (ve_call C_sign_acts hr (by decide) (by rfl) (va_cons (ve_name (pv 0)) va_nil))) (VN.vx (vn_disp1 (u0 hr) (ve_call C_first_act hr (by decide) (by rfl) (va_cons (ve_name (pv 0)) va_nil)) (ve_str (by decide +kernel)))) (VN.vx (vn_list (va_cons (ve_call C_first_act hr (by decide) (by rfl) (va_cons (ve_name (pv 0)) va_nil)) va_nil))) (pg_name (i := 1) sc_acts.nd rfl (Or.inl rfl)) (pg_name (i := 2) sc_acts.nd rfl (Or.inr rfl)) (pg_name (i := 3) sc_acts.nd rfl (Or.inl rfl)))
      (vs_cons (vs_set (i := 4) sc_acts.nd rfl (Or.inl rfl) ve_int)
      (vs_cons (vs_while (n := 100000) PassesOwn.never (CmpV.vt c_lt (ve_name (pv 4)) (ve_len (by rfl) T.b_len (vp_name (pv 3))) (nomark _)) (vs_cons (vs_set (i := 5) sc_acts.nd rfl (Or.inl rfl) (ve_subN (u1 hr) (pv 3) (ve_name (pv 4)) (fun _ _ => rfl)))
      (vs_cons (vs_augI (i := 4) sc_acts.nd rfl (Or.inl rfl) ve_int)
      (vs_one (vs_for (us := [6]) (by rfl) PassesOwn.never (vi_seq (ve_attr (cs := ["Reader"]) T.at_signs (vp_name (pv 0)) rfl)) (vg_name (by decide) (pg_name (i := 6) sc_acts.nd rfl (Or.inl rfl)))
      (vs_cons (vs_set (i := 7) sc_acts.nd rfl (Or.inl rfl) (ve_call C_act_then hr (by decide) (by rfl) (va_cons (ve_name (pv 0)) (va_cons (ve_name (pv 5)) (va_cons (ve_sub (u1 hr) (ve_name (pv 1)) (ve_name (pv 6)) (fun _ _ => rfl)) va_nil)))))
      (vs_one (vs_if (CmpV.vtp (c_notIn (u65 hr)) (ve_name (pv 7)) (vp_name (pv 2)) (by rfl)) (vs_cons (vs_put (u1 hr) (pv 2) (ve_name (pv 7)) (ve_add (ve_subN (u1 hr) (pv 2) (ve_name (pv 5)) (fun _ _ => rfl)) (ve_name (pv 6))) rfl)
      (vs_one (vs_ex (ve_append (pv 3) (va_cons (ve_name (pv 7)) va_nil))))) vs_nil))))))))
      (vs_one (vs_rt (ve_tuple (by rfl) T.b_tuple (ve_lc (own := [("one", 8)]) (us := [8]) (fg := (gN 8)) (fc := cYes) (fe := (fAp mkT (aC (fN 8) (aC (fBN getD 2 (fN 8)) aN)))) (by rfl) sc_acts.nd rfl (vi_seq (ve_name (pv 3))) (blkOk_by (own := [("one", 8)]) (N := ["reader", "steps", "known", "waiting", "at", "here", "sign", "later", "one"]) (sc := defScope s_acts) (by decide +kernel)) (fun _ _ _ _ _ => (vg_name (by decide) (pg_name (i := 8) sc_acts.nd rfl (Or.inl rfl)))) (fun _ _ _ _ _ => vts_nil) (fun _ _ _ _ _ => (ve_tup (va_cons (ve_name (pv 8)) (va_cons (ve_subN (u1 hr) (pv 2) (ve_name (pv 8)) (fun _ _ => rfl)) va_nil)))))))))))
theorem v_is_sequence (T : Tx K mg) : Cal P w K mg base 1 "is_sequence" (spF K 1 (fnD 1 1 b_is_sequence)) [] := by
  exact GD.vcal T.d_is_sequence sc_is_sequence rfl rfl fun f cdv A outer s H E hr => (vs_one (vs_rt (ve_isT2 (Ts := "list") (Us := "tuple") (by decide +kernel) (by decide +kernel) (by rfl) T.b_isinstance (vp_name (pv 0)) (by rfl) T.b_list (by decide) (by decide) (by rfl) T.b_tuple (by decide) (by decide))))
theorem v_are_signs (T : Tx K mg) : Cal P w K mg base 1 "are_signs" (spF K 1 (fnD 1 4 b_are_signs)) [] := by
  exact GD.vcal T.d_are_signs sc_are_signs rfl rfl fun f cdv A outer s H E hr => (vs_cons (vs_if (PW.pt (vw_or (vt_not (vt_bl (ve_isT (Ts := "str") (by decide +kernel) (by rfl) T.b_isinstance (vp_name (pv 0)) (by rfl) T.b_str (by decide) (by decide)))) (vw_or (vt_not (vt_chain c_le c_le ve_int (ve_len (by rfl) T.b_len (vp_name (pv 0))) ve_int)) (vw_or1 (vt_not (vt_bl (ve_all rfl (by rfl) T.b_all (ve_lc (own := [("sign", 1)]) (us := [1]) (fg := (gN 1)) (fc := cYes) (fe := (fB inO (fN 1) (fC (.str "abcdefghijklmnopqrstuvwxyz")))) (by rfl) sc_are_signs.nd rfl (vi_seq (ve_name (pv 0))) (blkOk_by (own := [("sign", 1)]) (N := ["value", "sign", "one", "other"]) (sc := defScope s_are_signs) (by decide +kernel)) (fun _ _ _ _ _ => (vg_name (by decide) (pg_name (i := 1) sc_are_signs.nd rfl (Or.inl rfl)))) (fun _ _ _ _ _ => vts_nil) (fun _ _ _ _ _ => (CmpV.ve (c_in (u65 hr)) (ve_name (pv 1)) (ve_gl (by rfl) T.k_LETTERS) (by rfl))))))))))) (vs_one (vs_rt ve_bl)) vs_nil)
      (vs_one (vs_rt (ve_all rfl (by rfl) T.b_all (ve_lc (own := [("one", 2), ("other", 3)]) (us := [2, 3]) (fg := (gTu 2 (gCo (gN 2) (gCo (gN 3) gNi)))) (fc := cYes) (fe := (fB ltO (fN 2) (fN 3))) (by rfl) sc_are_signs.nd rfl (vi_zip (by rfl) T.b_zip (va_cons (ve_name (pv 0)) (va_cons (ve_slice (ve_name (pv 0)) (vo_some ve_int) vo_none) va_nil))) (blkOk_by (own := [("one", 2), ("other", 3)]) (N := ["value", "sign", "one", "other"]) (sc := defScope s_are_signs) (by decide +kernel)) (fun _ _ _ _ _ => (vg_tup (n := 2) (by rfl) (vgs_cons (vg_name (by decide) (pg_name (i := 2) sc_are_signs.nd rfl (Or.inl rfl))) (vgs_cons (vg_name (by decide) (pg_name (i := 3) sc_are_signs.nd rfl (Or.inl rfl))) vgs_nil)))) (fun _ _ _ _ _ => vts_nil) (fun _ _ _ _ _ => (CmpV.ve c_lt (ve_name (pv 2)) (ve_name (pv 3)) (nomark _))))))))
theorem v_is_row (T : Tx K mg) : Cal P w K mg base 1 "is_row" (spF K 2 (fnD 2 3 b_is_row)) [] := by
  exact GD.vcal T.d_is_row sc_is_row rfl rfl fun f cdv A outer s H E hr => (vs_one (vs_rt (ve_and (ve_isT (Ts := "str") (by decide +kernel) (by rfl) T.b_isinstance (vp_name (pv 1)) (by rfl) T.b_str (by decide) (by decide)) (ve_one (ve_all rfl (by rfl) T.b_all (ve_lc (own := [("sign", 2)]) (us := [2]) (fg := (gN 2)) (fc := cYes) (fe := (fB inO (fN 2) (pN 0))) (by rfl) sc_is_row.nd rfl (vi_seq (ve_name (pv 1))) (blkOk_by (own := [("sign", 2)]) (N := ["signs", "value", "sign"]) (sc := defScope s_is_row) (by decide +kernel)) (fun _ _ _ _ _ => (vg_name (by decide) (pg_name (i := 2) sc_is_row.nd rfl (Or.inl rfl)))) (fun _ _ _ _ _ => vts_nil) (fun _ _ _ _ _ => (CmpV.vep (c_in (u65 hr)) (ve_name (pv 2)) (vp_name (pv 0)) (by rfl)))))))))
theorem v_is_some_row (T : Tx K mg) : Cal P w K mg base 2 "is_some_row" (spF K 1 (fnD 1 1 b_is_some_row)) [] := by
  have C_is_row : Cal P w K mg base 1 "is_row" (spF K 2 (fnD 2 3 b_is_row)) [] := v_is_row T
  exact GD.vcal T.d_is_some_row sc_is_some_row rfl rfl fun f cdv A outer s H E hr => (vs_one (vs_rt (ve_call C_is_row hr (by decide) (by rfl) (va_cons (ve_gl (by rfl) T.k_LETTERS) (va_cons (ve_name (pv 0)) va_nil)))))
theorem v_is_name (T : Tx K mg) : Cal P w K mg base 3 "is_name" (spF K 1 (fnD 1 1 b_is_name)) [] := by
  have C_is_some_row : Cal P w K mg base 2 "is_some_row" (spF K 1 (fnD 1 1 b_is_some_row)) [] := v_is_some_row T
  exact GD.vcal T.d_is_name sc_is_name rfl rfl fun f cdv A outer s H E hr => (vs_one (vs_rt (ve_and (ve_call C_is_some_row hr (by decide) (by rfl) (va_cons (ve_name (pv 0)) va_nil)) (ve_and (ve_chain c_le c_le ve_int (ve_len (by rfl) T.b_len (vp_name (pv 0))) ve_int) (ve_one (CmpV.ve (c_notIn (u65 hr)) (ve_name (pv 0)) (ve_gl (by rfl) T.k_KEPT) (by rfl)))))))
theorem v_are_marks (T : Tx K mg) : Cal P w K mg base 4 "are_marks" (spF K 1 (fnD 1 2 b_are_marks)) [] := by
  have C_is_sequence : Cal P w K mg base 1 "is_sequence" (spF K 1 (fnD 1 1 b_is_sequence)) [] := v_is_sequence T
  have C_is_name : Cal P w K mg base 3 "is_name" (spF K 1 (fnD 1 1 b_is_name)) [] := v_is_name T
  exact GD.vcal T.d_are_marks sc_are_marks rfl rfl fun f cdv A outer s H E hr => (vs_cons (vs_if (PW.pt (vw_or (vt_not (vt_bl (ve_call C_is_sequence hr (by decide) (by rfl) (va_cons (ve_name (pv 0)) va_nil)))) (vw_or (CmpV.vt (c_eq (u64 hr)) (ve_len (by rfl) T.b_len (vp_name (pv 0))) ve_int (nomark _)) (vw_or1 (vt_not (vt_bl (ve_all rfl (by rfl) T.b_all (ve_lc (own := [("mark", 1)]) (us := [1]) (fg := (gN 1)) (fc := cYes) (fe := (fAp (fnD 1 1 b_is_name) (aC (fN 1) aN))) (by rfl) sc_are_marks.nd rfl (vi_seq (ve_name (pv 0))) (blkOk_by (own := [("mark", 1)]) (N := ["value", "mark"]) (sc := defScope s_are_marks) (by decide +kernel)) (fun _ _ _ _ _ => (vg_name (by decide) (pg_name (i := 1) sc_are_marks.nd rfl (Or.inl rfl)))) (fun _ _ _ _ _ => vts_nil) (fun _ _ _ _ _ => (ve_call C_is_name hr (by decide) (by rfl) (va_cons (ve_name (pv 1)) va_nil))))))))))) (vs_one (vs_rt ve_bl)) vs_nil)
      (vs_one (vs_rt (CmpV.ve (c_eq (u64 hr)) (ve_len (by rfl) T.b_len (VE.vp (VN.ve (vn_dc (own := [("mark", 1)]) (us := [1]) (fg := (gN 1)) (fc := cYes) (fk := (fN 1)) (fv := (fC (.bl true))) (by rfl) sc_are_marks.nd rfl (vi_seq (ve_name (pv 0))) (blkOk_by (own := [("mark", 1)]) (N := ["value", "mark"]) (sc := defScope s_are_marks) (by decide +kernel)) (fun _ _ _ _ _ => (vg_name (by decide) (pg_name (i := 1) sc_are_marks.nd rfl (Or.inl rfl)))) (fun _ _ _ _ _ => vts_nil) (fun _ _ _ _ _ => (ve_name (pv 1))) (fun _ _ _ _ _ => ve_bl)) fDC_nb))) (ve_len (by rfl) T.b_len (vp_name (pv 0))) (nomark _)))))
theorem v_are_steps (T : Tx K mg) : Cal P w K mg base 2 "are_steps" (spF K 3 (fnD 3 5 b_are_steps)) [] := by
  have C_is_sequence : Cal P w K mg base 1 "is_sequence" (spF K 1 (fnD 1 1 b_is_sequence)) [] := v_is_sequence T
  exact GD.vcal T.d_are_steps sc_are_steps rfl rfl fun f cdv A outer s H E hr => (vs_cons (vs_if (PW.pt (vw_or (vt_not (vt_bl (ve_call C_is_sequence hr (by decide) (by rfl) (va_cons (ve_name (pv 2)) va_nil)))) (vw_or1 (CmpV.vt (c_ne (u64 hr)) (ve_len (by rfl) T.b_len (vp_name (pv 2))) (ve_len (by rfl) T.b_len (vp_name (pv 1))) (nomark _))))) (vs_one (vs_rt ve_bl)) vs_nil)
      (vs_cons (vs_for (us := [3]) (by rfl) PassesOwn.never (vi_seq (ve_name (pv 2))) (vg_name (by decide) (pg_name (i := 3) sc_are_steps.nd rfl (Or.inl rfl)))
      (vs_cons (vs_if (PW.pt (vw_or (vt_not (vt_bl (ve_call C_is_sequence hr (by decide) (by rfl) (va_cons (ve_name (pv 3)) va_nil)))) (vw_or1 (CmpV.vt (c_ne (u64 hr)) (ve_len (by rfl) T.b_len (vp_name (pv 3))) (ve_len (by rfl) T.b_len (vp_name (pv 0))) (nomark _))))) (vs_one (vs_rt ve_bl)) vs_nil)
      (vs_one (vs_if (vt_not (vt_bl (ve_all rfl (by rfl) T.b_all (ve_lc (own := [("mark", 4)]) (us := [4]) (fg := (gN 4)) (fc := cYes) (fe := (fAnd (fU (isO "str") (pN 4)) (fB inO (fN 4) (pN 1)))) (by rfl) sc_are_steps.nd rfl (vi_seq (ve_name (pv 3))) (blkOk_by (own := [("mark", 4)]) (N := ["signs", "marks", "value", "row", "mark"]) (sc := defScope s_are_steps) (by decide +kernel)) (fun _ _ _ _ _ => (vg_name (by decide) (pg_name (i := 4) sc_are_steps.nd rfl (Or.inl rfl)))) (fun _ _ _ _ _ => vts_nil) (fun _ _ _ _ _ => (ve_and (ve_isT (Ts := "str") (by decide +kernel) (by rfl) T.b_isinstance (vp_name (pv 4)) (by rfl) T.b_str (by decide) (by decide)) (ve_one (CmpV.vep (c_in (u65 hr)) (ve_name (pv 4)) (vp_name (pv 1)) (by rfl))))))))) (vs_one (vs_rt ve_bl)) vs_nil))))
      (vs_one (vs_rt ve_bl))))
theorem v_wrong_word (T : Tx K mg) : Cal P w K mg base 5 "wrong_word" (spF K 4 (fnD 4 4 b_wrong_word)) [] := by
  have C_are_signs : Cal P w K mg base 1 "are_signs" (spF K 1 (fnD 1 4 b_are_signs)) [] := v_are_signs T
  have C_are_marks : Cal P w K mg base 4 "are_marks" (spF K 1 (fnD 1 2 b_are_marks)) [] := v_are_marks T
  have C_are_steps : Cal P w K mg base 2 "are_steps" (spF K 3 (fnD 3 5 b_are_steps)) [] := v_are_steps T
  exact GD.vcal T.d_wrong_word sc_wrong_word rfl rfl fun f cdv A outer s H E hr => (vs_cons (vs_if (vt_not (vt_bl (ve_call C_are_signs hr (by decide) (by rfl) (va_cons (ve_name (pv 0)) va_nil)))) (vs_one (vs_rt (ve_str (by decide +kernel)))) vs_nil)
      (vs_cons (vs_if (vt_not (vt_bl (ve_call C_are_marks hr (by decide) (by rfl) (va_cons (ve_name (pv 1)) va_nil)))) (vs_one (vs_rt (ve_str (by decide +kernel)))) vs_nil)
      (vs_cons (vs_if (PW.pt (vw_or (vt_not (vt_bl (ve_isT (Ts := "str") (by decide +kernel) (by rfl) T.b_isinstance (vp_name (pv 2)) (by rfl) T.b_str (by decide) (by decide)))) (vw_or1 (CmpV.vtp (c_notIn (u65 hr)) (ve_name (pv 2)) (vp_name (pv 1)) (by rfl))))) (vs_one (vs_rt (ve_str (by decide +kernel)))) vs_nil)
      (vs_one (vs_rt (ve_if (vt_bl (ve_call C_are_steps hr (by decide) (by rfl) (va_cons (ve_name (pv 0)) (va_cons (ve_name (pv 1)) (va_cons (ve_name (pv 3)) va_nil))))) ve_non (ve_str (by decide +kernel))))))))
theorem v_ReaderD_initD (T : Tx K mg) : Mak P w K mg base 6 "Reader" (He.ga K "Reader") (spI K "Reader" 4 (iniD "Reader" 4 10 b_ReaderD_initD)) [] := by
  have C_wrong_word : Cal P w K mg base 5 "wrong_word" (spF K 4 (fnD 4 4 b_wrong_word)) [] := v_wrong_word T
  exact ID.vmak T.i_Reader sc_ReaderD_initD rfl rfl fun f cdv A outer s H E hr => (vs_cons (vs_set (i := 5) sc_ReaderD_initD.nd rfl (Or.inl rfl) (ve_call C_wrong_word hr (by decide) (by rfl) (va_cons (ve_name (pv 1)) (va_cons (ve_name (pv 2)) (va_cons (ve_name (pv 3)) (va_cons (ve_name (pv 4)) va_nil))))))
      (vs_cons (vs_if (CmpV.vt c_notN (ve_name (pv 5)) ve_non (nomark _)) (vs_one vs_no) vs_nil)
      (vs_cons (vs_fld (cs := ["Reader"]) T.at_signs (pv 0) (ve_name (pv 1)) rfl)
      (vs_cons (vs_fld (cs := ["Reader"]) T.at_marks (pv 0) (ve_tuple (by rfl) T.b_tuple (ve_name (pv 2))) rfl)
      (vs_cons (vs_fld (cs := ["Reader"]) T.at_first (pv 0) (ve_name (pv 3)) rfl)
      (vs_cons (vs_fld (cs := ["Reader"]) T.at_steps (pv 0) (ve_tuple (by rfl) T.b_tuple (ve_lc (own := [("row", 6)]) (us := [6]) (fg := (gN 6)) (fc := cYes) (fe := (fU tupO (fN 6))) (by rfl) sc_ReaderD_initD.nd rfl (vi_seq (ve_name (pv 4))) (blkOk_by (own := [("row", 6)]) (N := ["self", "signs", "marks", "first", "steps", "word", "row", "mark", "sign", "to"]) (sc := defScope s_ReaderD_initD) (by decide +kernel)) (fun _ _ _ _ _ => (vg_name (by decide) (pg_name (i := 6) sc_ReaderD_initD.nd rfl (Or.inl rfl)))) (fun _ _ _ _ _ => vts_nil) (fun _ _ _ _ _ => (ve_tuple (by rfl) T.b_tuple (ve_name (pv 6)))))) rfl)
      (vs_one (vs_fld (cs := ["Reader"]) T.at_leads (pv 0) (VN.ve (vn_dc2 (own := [("mark", 7), ("row", 6), ("sign", 8), ("to", 9)]) (vs := [7, 6, 8, 9]) (us := [8, 9]) (fg := (gTu 2 (gCo (gN 7) (gCo (gN 6) gNi)))) (fc := cYes) (fj := (iZp (aC (fN 1) (aC (fN 6) aN)))) (gj := (gTu 2 (gCo (gN 8) (gCo (gN 9) gNi)))) (tj := cYes) (fk := (fAp mkT (aC (fN 7) (aC (fN 8) aN)))) (fv := (fN 9)) (by rfl) (u0 hr) sc_ReaderD_initD.nd rfl (vi_zip (by rfl) T.b_zip (va_cons (ve_attr (cs := ["Reader"]) T.at_marks (vp_name (pv 0)) rfl) (va_cons (ve_attr (cs := ["Reader"]) T.at_steps (vp_name (pv 0)) rfl) va_nil))) (blkOk_by (own := [("mark", 7), ("row", 6), ("sign", 8), ("to", 9)]) (N := ["self", "signs", "marks", "first", "steps", "word", "row", "mark", "sign", "to"]) (sc := defScope s_ReaderD_initD) (by decide +kernel)) (by decide) (fun _ _ _ _ _ => (vg_tup (n := 2) (by rfl) (vgs_cons (vg_name (by decide) (pg_name (i := 7) sc_ReaderD_initD.nd rfl (Or.inl rfl))) (vgs_cons (vg_name (by decide) (pg_name (i := 6) sc_ReaderD_initD.nd rfl (Or.inl rfl))) vgs_nil)))) (fun _ _ _ _ _ => vts_nil) (fun _ _ _ _ _ => (vi_zip (by rfl) T.b_zip (va_cons (ve_name (pv 1)) (va_cons (ve_name (pv 6)) va_nil)))) (fun _ _ _ _ _ => (vg_tup (n := 2) (by rfl) (vgs_cons (vg_name (by decide) (pg_name (i := 8) sc_ReaderD_initD.nd rfl (Or.inl rfl))) (vgs_cons (vg_name (by decide) (pg_name (i := 9) sc_ReaderD_initD.nd rfl (Or.inl rfl))) vgs_nil)))) (fun _ _ _ _ _ => vts_nil) (fun _ _ _ _ _ => (ve_tup (va_cons (ve_name (pv 7)) (va_cons (ve_name (pv 8)) va_nil)))) (fun _ _ _ _ _ => (ve_name (pv 9)))) fDC2_nb) rfl))))))))
theorem v_w_reader (T : Tx K mg) : Cal P w K mg base 8 "_law_reader" (spF K 2 (fnD 2 8 b_w_reader)) [] := by
  have M_Reader : Mak P w K mg base 6 "Reader" (He.ga K "Reader") (spI K "Reader" 4 (iniD "Reader" 4 10 b_ReaderD_initD)) [] := v_ReaderD_initD T
  exact GD.vcal T.d_reader sc_w_reader rfl rfl fun f cdv A outer s H E hr => (vs_cons (vs_as (us := [2, 3, 4]) (ve_name (pv 1)) (vg_tup (n := 3) (by rfl) (vgs_cons (vg_name (by decide) (pg_name (i := 2) sc_w_reader.nd rfl (Or.inl rfl))) (vgs_cons (vg_name (by decide) (pg_name (i := 3) sc_w_reader.nd rfl (Or.inl rfl))) (vgs_cons (vg_name (by decide) (pg_name (i := 4) sc_w_reader.nd rfl (Or.inr rfl))) vgs_nil)))))
      (vs_cons (vs_setLcS (i := 5) (own := [("_law_mark", 7)]) (us := [7]) (fg := (gN 7)) (fc := cYes) (fe := (fLC [6] (iS (fN 0)) (gN 6) cYes (fB getD (fN 4) (fAp mkT (aC (fN 7) (aC (fN 6) aN)))))) (by rfl) sc_w_reader.nd rfl rfl rfl (sw_true rfl rfl rfl (by decide +kernel)) (vi_seq (ve_name (pv 2))) (blkOk_by (own := [("_law_mark", 7)]) (N := ["_law_signs_here", "_law_draft_here", "_law_marks_here", "_law_begin", "_law_goes", "_law_rows_here", "_law_sign", "_law_mark"]) (sc := defScope s_w_reader) (by decide +kernel)) (fun _ _ _ _ _ => (vg_name (by decide) (pg_name (i := 7) sc_w_reader.nd rfl (Or.inr rfl)))) (fun _ _ _ _ _ => vts_nil) (fun _ _ _ _ _ => (ve_lc (own := [("_law_sign", 6)]) (us := [6]) (fg := (gN 6)) (fc := cYes) (fe := (fB getD (fN 4) (fAp mkT (aC (fN 7) (aC (fN 6) aN))))) (by rfl) sc_w_reader.nd rfl (vi_seq (ve_name (pv 0))) (blkOk_by (own := [("_law_sign", 6)]) (N := ["_law_signs_here", "_law_draft_here", "_law_marks_here", "_law_begin", "_law_goes", "_law_rows_here", "_law_sign", "_law_mark"]) (by rfl)) (fun _ _ _ _ _ => (vg_name (by decide) (pg_name (i := 6) sc_w_reader.nd rfl (Or.inl rfl)))) (fun _ _ _ _ _ => vts_nil) (fun _ _ _ _ _ => (ve_sub (u1 hr) (ve_name (pv 4)) (ve_tup (va_cons (ve_name (pv 7)) (va_cons (ve_name (pv 6)) va_nil))) (fun _ _ => rfl))))))
      (vs_one (vs_rt (ve_make M_Reader hr (by decide) (by rfl) (va_cons (ve_name (pv 0)) (va_cons (VN.ve (vn_listOf rfl (by rfl) T.b_list (ve_name (pv 2))) lstO_nb) (va_cons (ve_name (pv 3)) (va_cons (ve_name (pv 5)) va_nil)))))))))
theorem v_w_leads (T : Tx K mg) : Cal P w K mg base 1 "_law_leads" (spF K 3 (fnD 3 5 b_w_leads)) [] := by
  exact GD.vcal T.d_leads sc_w_leads rfl rfl fun f cdv A outer s H E hr => (vs_cons (vs_set (i := 3) sc_w_leads.nd rfl (Or.inl rfl) (ve_name (pv 1)))
      (vs_cons (vs_for (us := [4]) (by rfl) PassesOwn.never (vi_seq (ve_name (pv 2))) (vg_name (by decide) (pg_name (i := 4) sc_w_leads.nd rfl (Or.inl rfl)))
      (vs_one (vs_set (i := 3) sc_w_leads.nd rfl (Or.inl rfl) (ve_sub (u1 hr) (ve_sub (u1 hr) (ve_name (pv 0)) ve_int (fun _ _ => rfl)) (ve_tup (va_cons (ve_name (pv 3)) (va_cons (ve_name (pv 4)) va_nil))) (fun _ _ => rfl)))))
      (vs_one (vs_rt (ve_name (pv 3))))))
theorem v_w_deed (T : Tx K mg) : Cal P w K mg base 2 "_law_deed" (spF K 2 (fnD 2 3 b_w_deed)) [] := by
  have C_w_leads : Cal P w K mg base 1 "_law_leads" (spF K 3 (fnD 3 5 b_w_leads)) [] := v_w_leads T
  exact GD.vcal T.d_deed sc_w_deed rfl rfl fun f cdv A outer s H E hr => (vs_one (vs_rt (ve_tuple (by rfl) T.b_tuple (ve_lc (own := [("_law_mark", 2)]) (us := [2]) (fg := (gN 2)) (fc := cYes) (fe := (fAp (fnD 3 5 b_w_leads) (aC (fN 0) (aC (fN 2) (aC (fN 1) aN))))) (by rfl) sc_w_deed.nd rfl (vi_seq (ve_sub (u1 hr) (ve_name (pv 0)) ve_int (fun _ _ => rfl))) (blkOk_by (own := [("_law_mark", 2)]) (N := ["_law_draft_here", "_law_line_here", "_law_mark"]) (sc := defScope s_w_deed) (by decide +kernel)) (fun _ _ _ _ _ => (vg_name (by decide) (pg_name (i := 2) sc_w_deed.nd rfl (Or.inl rfl)))) (fun _ _ _ _ _ => vts_nil) (fun _ _ _ _ _ => (ve_call C_w_leads hr (by decide) (by rfl) (va_cons (ve_name (pv 0)) (va_cons (ve_name (pv 2)) (va_cons (ve_name (pv 1)) va_nil)))))))))
theorem v_w_deeds (T : Tx K mg) : Cal P w K mg base 3 "_law_deeds" (spF K 2 (fnD 2 8 b_w_deeds)) [] := by
  have C_w_deed : Cal P w K mg base 2 "_law_deed" (spF K 2 (fnD 2 3 b_w_deed)) [] := v_w_deed T
  exact GD.vcal T.d_deeds sc_w_deeds rfl rfl fun f cdv A outer s H E hr => (vs_cons (vs_par (i := 2) (j := 3) (by rfl) sc_w_deeds.nd rfl rfl (by decide) rfl rfl (VN.vx (vn_disp1 (u0 hr) (ve_sub (u1 hr) (ve_name (pv 0)) ve_int (fun _ _ => rfl)) (ve_str (by decide +kernel)))) (VN.vx (vn_list (va_cons (ve_str (by decide +kernel)) va_nil))) (by rfl))
      (vs_cons (vs_for (us := [4]) (by rfl) PassesOwn.never (vi_rng1 (by rfl) T.b_range (va_cons ve_int va_nil)) (vg_name (by decide) (pg_name (i := 4) sc_w_deeds.nd rfl (Or.inl rfl)))
      (vs_cons (vs_if (CmpV.vt (c_eq (u64 hr)) (ve_name (pv 4)) (ve_len (by rfl) T.b_len (vp_name (pv 3))) (nomark _)) (vs_one vs_bk) vs_nil)
      (vs_one (vs_for (us := [5]) (by rfl) PassesOwn.never (vi_seq (ve_name (pv 1))) (vg_name (by decide) (pg_name (i := 5) sc_w_deeds.nd rfl (Or.inl rfl)))
      (vs_cons (vs_set (i := 6) sc_w_deeds.nd rfl (Or.inl rfl) (ve_add (ve_subN (u1 hr) (pv 3) (ve_name (pv 4)) (fun _ _ => rfl)) (ve_name (pv 5))))
      (vs_cons (vs_set (i := 7) sc_w_deeds.nd rfl (Or.inl rfl) (ve_call C_w_deed hr (by decide) (by rfl) (va_cons (ve_name (pv 0)) (va_cons (ve_name (pv 6)) va_nil))))
      (vs_one (vs_if (CmpV.vtp (c_notIn (u65 hr)) (ve_name (pv 7)) (vp_name (pv 2)) (by rfl)) (vs_cons (vs_put (u1 hr) (pv 2) (ve_name (pv 7)) (ve_name (pv 6)) rfl)
      (vs_one (vs_ex (ve_append (pv 3) (va_cons (ve_name (pv 6)) va_nil))))) vs_nil))))))))
      (vs_one (vs_rt (ve_name (pv 2))))))
end
end K21
namespace K21
open PySem PySem.Spec PyProof.Rows L2 AR VS
open C8 (Cal Met Mak)
section
variable {P : Program} {w : World} {K : PySem.W.Frag} {mg : Str → Option Value} {base : Heap}
theorem v_law (T : Tx K mg) {f : Addr} {fd : FuncData} (F : FunD K "law" "law" (defArgs s_law) (defBody s_law) (defScope s_law) [] [] f fd) : FnG P w K mg base 9 f fd ["_law_script"] (spF K 1 (fnD 1 14 b_law)) := by
  have C_w_flow : Cal P w K mg base 1 "_law_flow" (spNB K 2 flowF) [] := v_w_flow T
  have C_w_letters : Cal P w K mg base 3 "_law_letters" (spB K 1 (fnB 1 3 b_w_letters)) [] := v_w_letters T
  have C_w_draft : Cal P w K mg base 3 "_law_draft" (spB K 2 (fnB 2 10 b_w_draft)) [] := v_w_draft T
  have C_w_reader : Cal P w K mg base 8 "_law_reader" (spF K 2 (fnD 2 8 b_w_reader)) [] := v_w_reader T
  have C_w_deeds : Cal P w K mg base 3 "_law_deeds" (spF K 2 (fnD 2 8 b_w_deeds)) [] := v_w_deeds T
  have C_w_line : Cal P w K mg base 3 "_law_line" (spB K 2 (fnB 2 4 b_w_line)) [] := v_w_line T
  have C_act_then : Cal P w K mg base 1 "act_then" (spF K 3 (fnD 3 5 b_act_then)) [] := v_act_then T
  have C_act : Cal P w K mg base 2 "act" (spF K 2 (fnD 2 5 b_act)) [] := v_act T
  have C_first_act : Cal P w K mg base 1 "first_act" (spF K 1 (fnD 1 1 b_first_act)) [] := v_first_act T
  have C_acts : Cal P w K mg base 2 "acts" (spF K 1 (fnD 1 9 b_acts)) [] := v_acts T
  have C_w_any_of : Cal P w K mg base 2 "_law_any_of" (spB K 1 (fnB 1 2 b_w_any_of)) [] := v_w_any_of T
  have C_w_deed : Cal P w K mg base 2 "_law_deed" (spF K 2 (fnD 2 3 b_w_deed)) [] := v_w_deed T
  exact vfnG F sc_law rfl rfl fun cdv A outer s H E hr hgu => (vs_cons (vs_for (us := [1]) (by rfl) PassesOwn.never (vi_rng1 (by rfl) T.b_range (va_cons (ve_max2 rfl (by rfl) T.b_max ve_int (ve_min2 rfl (by rfl) T.b_min ve_int (ve_len (by rfl) T.b_len (vp_name (pv 0))))) va_nil)) (vg_name (by decide) (pg_name (i := 1) sc_law.nd rfl (Or.inl rfl)))
      (vs_cons (vs_setO (i := 2) sc_law.nd rfl (Or.inr rfl) (vn_callNB C_w_flow flowF_len hr (by decide) (by rfl) (va_cons (ve_name (pv 0)) (va_cons (ve_name (pv 1)) va_nil))))
      (vs_cons (vs_set (i := 3) sc_law.nd rfl (Or.inl rfl) (ve_callB C_w_letters fnB_len fnB_form hr (by decide) (by rfl) (pv 2) (va_cons ve_int va_nil)))
      (vs_cons (vs_set (i := 4) sc_law.nd rfl (Or.inr rfl) (ve_callB C_w_draft fnB_len fnB_form hr (by decide) (by rfl) (pv 2) (va_cons (ve_name (pv 3)) (va_cons (ve_subI ve_int (ve_intOf (by rfl) T.b_int (CmpV.ve c_gt (ve_len (by rfl) T.b_len (vp_name (pv 3))) ve_int (nomark _)))) va_nil))))
      (vs_cons (vs_set (i := 5) sc_law.nd rfl (Or.inl rfl) (ve_call C_w_reader hr (by decide) (by rfl) (va_cons (ve_name (pv 3)) (va_cons (ve_name (pv 4)) va_nil))))
      (vs_cons (vs_for (us := [6]) (by rfl) PassesOwn.never (vi_rng1 (by rfl) T.b_range (va_cons ve_int va_nil)) (vg_name (by decide) (pg_name (i := 6) sc_law.nd rfl (Or.inl rfl)))
      (vs_cons (vs_par (i := 7) (j := 8) (by rfl) sc_law.nd rfl rfl (by decide) rfl rfl (VE.vx (ve_callB C_w_line fnB_len fnB_form hr (by decide) (by rfl) (pv 2) (va_cons (ve_name (pv 3)) (va_cons ve_int va_nil)))) (VE.vx (ve_callB C_w_line fnB_len fnB_form hr (by decide) (by rfl) (pv 2) (va_cons (ve_name (pv 3)) (va_cons ve_int va_nil)))) (by rfl))
      (vs_cons (vs_if (PW.pt (vw_or (CmpV.vt (c_ne (u64 hr)) (ve_call C_act hr (by decide) (by rfl) (va_cons (ve_name (pv 5)) (va_cons (ve_name (pv 7)) va_nil))) (ve_call C_w_deed hr (by decide) (by rfl) (va_cons (ve_name (pv 4)) (va_cons (ve_name (pv 7)) va_nil))) (nomark _)) (vw_or1 (CmpV.vt (c_ne (u64 hr)) (ve_call C_act hr (by decide) (by rfl) (va_cons (ve_name (pv 5)) (va_cons (ve_add (ve_name (pv 7)) (ve_name (pv 8))) va_nil))) (ve_call C_w_deed hr (by decide) (by rfl) (va_cons (ve_name (pv 4)) (va_cons (ve_add (ve_name (pv 7)) (ve_name (pv 8))) va_nil))) (nomark _))))) (vs_one (vs_rt ve_bl)) vs_nil)
      (vs_one (vs_if (CmpV.vt (c_ne (u64 hr)) (ve_call C_act_then hr (by decide) (by rfl) (va_cons (ve_name (pv 5)) (va_cons (ve_call C_act hr (by decide) (by rfl) (va_cons (ve_name (pv 5)) (va_cons (ve_name (pv 7)) va_nil))) (va_cons (ve_call C_act hr (by decide) (by rfl) (va_cons (ve_name (pv 5)) (va_cons (ve_name (pv 8)) va_nil))) va_nil)))) (ve_call C_act hr (by decide) (by rfl) (va_cons (ve_name (pv 5)) (va_cons (ve_add (ve_name (pv 7)) (ve_name (pv 8))) va_nil))) (nomark _)) (vs_one (vs_rt ve_bl)) vs_nil)))))
      (vs_cons (vs_set (i := 9) sc_law.nd rfl (Or.inr rfl) (ve_call C_w_deeds hr (by decide) (by rfl) (va_cons (ve_name (pv 4)) (va_cons (ve_name (pv 3)) va_nil))))
      (vs_cons (vs_set (i := 10) sc_law.nd rfl (Or.inl rfl) (ve_tuple (by rfl) T.b_tuple (ve_lcK (own := [("_law_deed_here", 11)]) (us := [11]) (fg := (gN 11)) (fc := cYes) (fe := (fAp mkT (aC (fN 11) (aC (fB getD (fN 9) (fN 11)) aN)))) (by rfl) sc_law.nd rfl (pv 9) (blkOk_by (own := [("_law_deed_here", 11)]) (N := ["_law_script", "_law_base", "_law_flow_here", "_law_signs_here", "_law_draft_here", "_law_made", "_law_turn", "_law_one", "_law_two", "_law_due", "_law_some", "_law_deed_here", "_law_odd", "_law_mark"]) (sc := defScope s_law) (by decide +kernel)) (fun _ _ _ _ _ => (vg_name (by decide) (pg_name (i := 11) sc_law.nd rfl (Or.inl rfl)))) (fun _ _ _ _ _ => vts_nil) (fun _ _ _ _ _ => (ve_tup (va_cons (ve_name (pv 11)) (va_cons (ve_sub (u1 hr) (ve_name (pv 9)) (ve_name (pv 11)) (fun _ _ => rfl)) va_nil)))))))
      (vs_cons (vs_if (PW.pt (vw_or (CmpV.vt (c_ne (u64 hr)) (ve_repr hgu (u66 hr) (by rfl) T.b_repr (ve_call C_acts hr (by decide) (by rfl) (va_cons (ve_name (pv 5)) va_nil))) (ve_repr hgu (u66 hr) (by rfl) T.b_repr (ve_name (pv 10))) (nomark _)) (vw_or1 (CmpV.vt (c_ne (u64 hr)) (ve_call C_first_act hr (by decide) (by rfl) (va_cons (ve_name (pv 5)) va_nil)) (ve_sub (u1 hr) (ve_name (pv 4)) ve_int (fun _ _ => rfl)) (nomark _))))) (vs_one (vs_rt ve_bl)) vs_nil)
      (vs_cons (vs_if (CmpV.vt (c_ne (u64 hr)) (ve_sub (u1 hr) (ve_call C_acts hr (by decide) (by rfl) (va_cons (ve_name (pv 5)) va_nil)) ve_int (fun _ _ => rfl)) (ve_tup (va_cons (ve_call C_first_act hr (by decide) (by rfl) (va_cons (ve_name (pv 5)) va_nil)) (va_cons (ve_str (by decide +kernel)) va_nil))) (nomark _)) (vs_one (vs_rt ve_bl)) vs_nil)
      (vs_cons (vs_set (i := 12) sc_law.nd rfl (Or.inl rfl) (ve_tuple (by rfl) T.b_tuple (ve_lc (own := [("_law_mark", 13)]) (us := [13]) (fg := (gN 13)) (fc := cYes) (fe := (fCaB (fnB 1 2 b_w_any_of) 2 (aC (fB getD (fN 4) (fC (.int 0))) aN))) (by rfl) sc_law.nd rfl (vi_seq (ve_sub (u1 hr) (ve_name (pv 4)) ve_int (fun _ _ => rfl))) (blkOk_by (own := [("_law_mark", 13)]) (N := ["_law_script", "_law_base", "_law_flow_here", "_law_signs_here", "_law_draft_here", "_law_made", "_law_turn", "_law_one", "_law_two", "_law_due", "_law_some", "_law_deed_here", "_law_odd", "_law_mark"]) (sc := defScope s_law) (by decide +kernel)) (fun _ _ _ _ _ => (vg_name (by decide) (pg_name (i := 13) sc_law.nd rfl (Or.inl rfl)))) (fun _ _ _ _ _ => vts_nil) (fun _ _ _ _ _ => (ve_callB C_w_any_of fnB_len fnB_form hr (by decide) (by rfl) (pv 2) (va_cons (ve_sub (u1 hr) (ve_name (pv 4)) ve_int (fun _ _ => rfl)) va_nil))))))
      (vs_one (vs_if (PW.pt (vw_or (CmpV.vt (c_ne (u64 hr)) (ve_call C_act_then hr (by decide) (by rfl) (va_cons (ve_name (pv 5)) (va_cons (ve_name (pv 12)) (va_cons (ve_call C_first_act hr (by decide) (by rfl) (va_cons (ve_name (pv 5)) va_nil)) va_nil)))) (ve_name (pv 12)) (nomark _)) (vw_or1 (CmpV.vt (c_ne (u64 hr)) (ve_call C_act_then hr (by decide) (by rfl) (va_cons (ve_name (pv 5)) (va_cons (ve_call C_first_act hr (by decide) (by rfl) (va_cons (ve_name (pv 5)) va_nil)) (va_cons (ve_name (pv 12)) va_nil)))) (ve_name (pv 12)) (nomark _))))) (vs_one (vs_rt ve_bl)) vs_nil)))))))))))))
      (vs_one (vs_rt ve_bl)))
end
end K21
set_option autoImplicit false
namespace VS
open PySem PySem.Spec PyProof.Rows L2 AR
/-! ### meanings computed: loops, comprehensions -/
def isFl : BoxC → Prop
  | .flow _ _ _ => True
  | _ => False

theorem lc_map {us : List Nat} {fg : FG} {fe : FE} (g : D → D) {E0 : En} : ∀ (xs : List D) (ρ : En), wipeE ρ us = E0 → (∀ x ∈ xs, ∃ ρ1 ρ2, fg x E0 = some ρ1 ∧ fe ρ1 = some (g x, ρ2) ∧ wipeE ρ2 us = E0) → ∃ ρ', lcL us fg cYes fe xs ρ = some (xs.map g, ρ') ∧ wipeE ρ' us = E0
  | [], ρ, h, _ => ⟨ρ, rfl, h⟩
  | x :: xs, ρ, h, k => by
    obtain ⟨ρ1, ρ2, h1, h2, h3⟩ := k x List.mem_cons_self
    obtain ⟨ρ', h4, h5⟩ := lc_map g xs ρ2 h3 fun y hy => k y (List.mem_cons_of_mem _ hy)
    refine ⟨ρ', ?_, h5⟩
    unfold lcL
    rw [h, h1]
    show (fe ρ1).bind _ = _
    rw [h2]
    show Option.map _ (lcL us fg cYes fe xs ρ2) = _
    rw [h4]; rfl
theorem fLC_map {us : List Nat} {fi : FI} {fg : FG} {fe : FE} (g : D → D) {ρ ρ0 E0 : En} {xs : List D} (hi : fi ρ = some (xs, ρ0)) (hw : wipeE ρ0 us = E0) (hl : xs.length ≤ sizeLine) (k : ∀ x ∈ xs, ∃ ρ1 ρ2, fg x E0 = some ρ1 ∧ fe ρ1 = some (g x, ρ2) ∧ wipeE ρ2 us = E0) : fLC us fi fg cYes fe ρ = some (.lst (xs.map g), E0) := by
  obtain ⟨ρ', h4, h5⟩ := lc_map g xs ρ0 hw k
  unfold fLC
  rw [hi]
  show (lcL us fg cYes fe xs ρ0).bind _ = _
  rw [h4]
  show Option.map _ (mkL (xs.map g)) = _
  unfold mkL
  rw [if_pos (by rw [List.length_map]; exact hl)]
  show some (_, wipeE ρ' us) = _
  rw [h5]
theorem lc_inv {us : List Nat} {fg : FG} {fe : FE} (I : En → Prop) (P : D → Prop) : ∀ (xs : List D) (ρ : En), I (wipeE ρ us) → (∀ x ∈ xs, ∀ E, I E → ∃ ρ1 d ρ2, fg x E = some ρ1 ∧ fe ρ1 = some (d, ρ2) ∧ P d ∧ I (wipeE ρ2 us)) → ∃ ds ρ', lcL us fg cYes fe xs ρ = some (ds, ρ') ∧ ds.length = xs.length ∧ (∀ d ∈ ds, P d) ∧ I (wipeE ρ' us)
  | [], ρ, h, _ => ⟨[], ρ, rfl, rfl, (fun _ z => nomatch z), h⟩
  | x :: xs, ρ, h, k => by
    obtain ⟨ρ1, d, ρ2, h1, h2, h3, h4⟩ := k x List.mem_cons_self _ h
    obtain ⟨ds, ρ', h5, h6, h7, h8⟩ := lc_inv I P xs ρ2 h4 fun y hy => k y (List.mem_cons_of_mem _ hy)
    refine ⟨d :: ds, ρ', ?_, congrArg (· + 1) h6, fun y hy => by rcases List.mem_cons.mp hy with q | q; exact q ▸ h3; exact h7 y q, h8⟩
    unfold lcL
    rw [h1]
    show (fe ρ1).bind _ = _
    rw [h2]
    show Option.map _ (lcL us fg cYes fe xs ρ2) = _
    rw [h5]; rfl
theorem fLC_inv {us : List Nat} {fi : FI} {fg : FG} {fe : FE} (I : En → Prop) (P : D → Prop) {ρ ρ0 : En} {xs : List D} (hi : fi ρ = some (xs, ρ0)) (hw : I (wipeE ρ0 us)) (hl : xs.length ≤ sizeLine) (k : ∀ x ∈ xs, ∀ E, I E → ∃ ρ1 d ρ2, fg x E = some ρ1 ∧ fe ρ1 = some (d, ρ2) ∧ P d ∧ I (wipeE ρ2 us)) : ∃ ds E, fLC us fi fg cYes fe ρ = some (.lst ds, E) ∧ ds.length = xs.length ∧ (∀ d ∈ ds, P d) ∧ I E := by
  obtain ⟨ds, ρ', h1, h2, h3, h4⟩ := lc_inv I P xs ρ0 hw k
  refine ⟨ds, wipeE ρ' us, ?_, h2, h3, h4⟩
  unfold fLC
  rw [hi]
  show (lcL us fg cYes fe xs ρ0).bind _ = _
  rw [h1]
  show Option.map _ (mkL ds) = _
  unfold mkL
  rw [if_pos (by rw [h2]; exact hl)]
  rfl
theorem for_rec {tg : FG} {b : FS} (I : List D → En → Prop) : ∀ (xs : List D) (ρ : En), I xs ρ → (∀ x xs ρ, I (x :: xs) ρ → ∃ ρ1 ρ2, tg x ρ = some ρ1 ∧ b ρ1 = some (.nx ρ2) ∧ I xs ρ2) → ∃ ρ', forL tg b xs ρ = some (.nx ρ') ∧ I [] ρ'
  | [], ρ, h, _ => ⟨ρ, rfl, h⟩
  | x :: xs, ρ, h, k => by
    obtain ⟨ρ1, ρ2, h1, h2, h3⟩ := k x xs ρ h
    obtain ⟨ρ', h4, h5⟩ := for_rec I xs ρ2 h3 k
    refine ⟨ρ', ?_, h5⟩
    unfold forL
    rw [h1]
    show (match b ρ1 with | some (.nx ρ2) => _ | some (.ct ρ2) => _ | some (.bk ρ2) => _ | some (.rt d ρ2) => _ | none => _) = _
    rw [h2]
    exact h4
theorem forL_nx {tg : FG} {b : FS} {x : D} {xs : List D} {ρ ρ1 ρ2 : En} (h1 : tg x ρ = some ρ1) (h2 : b ρ1 = some (.nx ρ2)) : forL tg b (x :: xs) ρ = forL tg b xs ρ2 := by
  show (tg x ρ).bind _ = _
  rw [h1]
  show (match b ρ1 with | some (.nx ρ2) => _ | some (.ct ρ2) => _ | some (.bk ρ2) => _ | some (.rt d ρ2) => _ | none => _) = _
  rw [h2]
theorem forL_bk {tg : FG} {b : FS} {x : D} {xs : List D} {ρ ρ1 ρ2 : En} (h1 : tg x ρ = some ρ1) (h2 : b ρ1 = some (.bk ρ2)) : forL tg b (x :: xs) ρ = some (.nx ρ2) := by
  show (tg x ρ).bind _ = _
  rw [h1]
  show (match b ρ1 with | some (.nx ρ2) => _ | some (.ct ρ2) => _ | some (.bk ρ2) => _ | some (.rt d ρ2) => _ | none => _) = _
  rw [h2]
theorem sFor_rec {fi : FI} {tg : FG} {b : FS} (I : List D → En → Prop) {xs : List D} {ρ ρ0 : En} (hi : fi ρ = some (xs, ρ0)) (h : I xs ρ0) (k : ∀ x xs ρ, I (x :: xs) ρ → ∃ ρ1 ρ2, tg x ρ = some ρ1 ∧ b ρ1 = some (.nx ρ2) ∧ I xs ρ2) : ∃ ρ', sFor fi tg b ρ = some (.nx ρ') ∧ I [] ρ' := by
  obtain ⟨ρ', h1, h2⟩ := for_rec I xs ρ0 h k
  exact ⟨ρ', by unfold sFor; rw [hi]; exact h1, h2⟩
theorem sSeq_nx {a b : FS} {ρ ρ1 : En} (h : a ρ = some (.nx ρ1)) : sSeq a b ρ = b ρ1 := by unfold sSeq; rw [h]
theorem sSeq_of {a b : FS} {ρ ρ1 : En} {o : Option Out} (h : a ρ = some (.nx ρ1)) (h2 : b ρ1 = o) : sSeq a b ρ = o := by unfold sSeq; rw [h]; exact h2
/-! ### one step -/
section
variable {f g h : FE} {ρ ρ1 ρ2 ρ3 : En} {x y z d : D} {b : Bool} {i j : Nat}
theorem fU_of {op : D → Option D} (h : f ρ = some (x, ρ1)) (e : op x = some d) : fU op f ρ = some (d, ρ1) := by unfold fU; rw [h]; show Option.map _ (op x) = _; rw [e]; rfl
theorem fB_of {op : D → D → Option D} (h : f ρ = some (x, ρ1)) (h2 : g ρ1 = some (y, ρ2)) (e : op x y = some d) : fB op f g ρ = some (d, ρ2) := by unfold fB; rw [h]; show (g ρ1).bind _ = _; rw [h2]; show Option.map _ (op x y) = _; rw [e]; rfl
theorem tF_of {op : D → Option Bool} (h : f ρ = some (x, ρ1)) (e : op x = some b) : tF op f ρ = some (b, ρ1) := by unfold tF; rw [h]; show Option.map _ (op x) = _; rw [e]; rfl
theorem fAp_of {op : List D → Option D} {a : FA} {ds : List D} (h : a ρ = some (ds, ρ1)) (e : op ds = some d) : fAp op a ρ = some (d, ρ1) := by unfold fAp; rw [h]; show Option.map _ (op ds) = _; rw [e]; rfl
theorem aC_of {a : FA} {ds : List D} (h : f ρ = some (x, ρ1)) (e : a ρ1 = some (ds, ρ2)) : aC f a ρ = some (x :: ds, ρ2) := by unfold aC; rw [h]; show Option.map _ (a ρ1) = _; rw [e]; rfl
theorem sSet_of (h : f ρ = some (d, ρ1)) : sSet i f ρ = some (.nx (ρ1.set i (.s d))) := by unfold sSet; rw [h]; rfl
theorem sSetO_of (h : f ρ = some (d, ρ1)) : sSetO i f ρ = some (.nx (ρ1.set i (.o d))) := by unfold sSetO; rw [h]; rfl
theorem sRt_of (h : f ρ = some (d, ρ1)) : sRt f ρ = some (.rt d ρ1) := by unfold sRt; rw [h]; rfl
theorem sEx_of (h : f ρ = some (d, ρ1)) : sEx f ρ = some (.nx ρ1) := by unfold sEx; rw [h]; rfl
theorem sIf_t {c : FT} {s t : FS} (h : c ρ = some (true, ρ1)) : sIf c s t ρ = s ρ1 := by unfold sIf; rw [h]; rfl
theorem sIf_f {c : FT} {s t : FS} (h : c ρ = some (false, ρ1)) : sIf c s t ρ = t ρ1 := by unfold sIf; rw [h]; rfl
theorem cOr_f {c e : FT} (h : c ρ = some (false, ρ1)) : cOr c e ρ = e ρ1 := by unfold cOr; rw [h]; rfl
theorem cNot_of {c : FT} (h : c ρ = some (b, ρ1)) : cNot c ρ = some (!b, ρ1) := by unfold cNot; rw [h]; rfl
theorem iS_of {ds : List D} (h : f ρ = some (x, ρ1)) (e : itD x = some ds) : iS f ρ = some (ds, ρ1) := by unfold iS; rw [h]; show Option.map _ (itD x) = _; rw [e]; rfl
theorem sPar_of {o1 o2 : Bool} (h1 : f ρ = some (x, ρ1)) (h2 : g ρ1 = some (y, ρ2)) : sPar i j o1 o2 f g ρ = some (.nx ((ρ2.set i (slot o1 x)).set j (slot o2 y))) := by unfold sPar; rw [h1]; show Option.map _ (g ρ1) = _; rw [h2]; rfl
theorem sPar3_of {l : Nat} {o1 o2 o3 : Bool} (h1 : f ρ = some (x, ρ1)) (h2 : g ρ1 = some (y, ρ2)) (h3 : h ρ2 = some (z, ρ3)) : sPar3 i j l o1 o2 o3 f g h ρ = some (.nx (((ρ3.set i (slot o1 x)).set j (slot o2 y)).set l (slot o3 z))) := by
  unfold sPar3; rw [h1]; show (g ρ1).bind _ = _; rw [h2]; show Option.map _ (h ρ2) = _; rw [h3]; rfl
theorem fnD_rt {n k : Nat} {body : FS} {ds : List D} (hl : ds.length = n) (h : body (startE k ds) = some (.rt d ρ)) : fnD n k body ds = some d := by unfold fnD; rw [if_pos hl, h]
theorem fnB_rt {n k : Nat} {body : FS} {ds : List D} {c c' : BoxC} (hl : ds.length = n) (h : body (startB c k ds) = some (.rt d ρ)) (hb : boxD ρ = some c') (hf : formB c c' = true) : fnB n k body c ds = some (d, c') := by
  unfold fnB; rw [if_pos hl, h]; show (boxD ρ).bind _ = _; rw [hb]; show (if formB c c' = true then _ else _) = _; rw [if_pos hf]
theorem fCaB_of {F : BoxC → List D → Option (D × BoxC)} {ga : FA} {ds : List D} {p : Bool} {c c' : BoxC} (hi : ρ[i]? = some (Sl.o (.box p c))) (ha : ga ρ = some (ds, ρ1)) (hi1 : ρ1[i]? = some (Sl.o (.box p c))) (e : F c ds = some (d, c')) : fCaB F i ga ρ = some (d, ρ1.set i (Sl.o (.box p c'))) := by
  unfold fCaB
  rw [hi]
  show (ga ρ).bind _ = _
  rw [ha]
  show (match ρ1[i]? with | some (Sl.o (.box p c)) => _ | _ => _) = _
  rw [hi1]
  show Option.map _ (F c ds) = _
  rw [e]; rfl
theorem fl_form {c c' : BoxC} (h : isFl c) (h' : isFl c') : formB c c' = true := by
  cases c <;> cases c' <;> first | rfl | exact h.elim | exact h'.elim
end
/-! ### dicts -/
theorem dmem_put {ks : List D} {k : D} : k ∈ dputK ks k := by
  unfold dputK
  split
  · assumption
  · simp
theorem dval_map {k v : D} : ∀ {ks vs : List D}, k ∈ ks → ks.length = vs.length → dval ks (dmapV ks vs k v) k = some v
  | [], _, h, _ => nomatch h
  | k' :: ks, [], _, hl => nomatch hl
  | k' :: ks, v' :: vs, h, hl => by
    unfold dmapV dval
    by_cases e : k' = k
    · rw [if_pos e, if_pos e]
    · rw [if_neg e]
      exact dval_map (by rcases List.mem_cons.mp h with q | q; exact absurd q.symm e; exact q) (Nat.succ.inj hl)
theorem dval_map_ne {k v k2 : D} (hn : k2 ≠ k) : ∀ {ks vs : List D}, ks.length = vs.length → dval ks (dmapV ks vs k v) k2 = dval ks vs k2
  | [], _, _ => by cases ‹List D› <;> rfl
  | k' :: ks, [], hl => nomatch hl
  | k' :: ks, v' :: vs, hl => by
    unfold dmapV dval
    by_cases e : k' = k2
    · rw [if_pos e, if_pos e, if_neg (fun z => hn (e.symm.trans z))]
    · rw [if_neg e, if_neg e]; exact dval_map_ne hn (Nat.succ.inj hl)
theorem dval_app_new {k v : D} : ∀ {ks vs : List D}, k ∉ ks → ks.length = vs.length → dval (ks ++ [k]) (vs ++ [v]) k = some v
  | [], [], _, _ => by show (if k = k then _ else _) = _; rw [if_pos rfl]
  | [], _ :: _, _, hl => nomatch hl
  | _ :: _, [], _, hl => nomatch hl
  | k' :: ks, v' :: vs, h, hl => by
    show (if k' = k then _ else _) = _
    rw [if_neg (fun z => h (by rw [z]; exact List.mem_cons_self))]
    exact dval_app_new (fun z => h (List.mem_cons_of_mem _ z)) (Nat.succ.inj hl)
theorem dval_app_old {k v k2 : D} (hn : k2 ≠ k) : ∀ {ks vs : List D}, ks.length = vs.length → dval (ks ++ [k]) (vs ++ [v]) k2 = dval ks vs k2
  | [], [], _ => by show (if k = k2 then _ else _) = _; rw [if_neg (fun z => hn z.symm)]
  | [], _ :: _, hl => nomatch hl
  | _ :: _, [], hl => nomatch hl
  | k' :: ks, v' :: vs, hl => by
    show (if k' = k2 then some v' else dval (ks ++ [k]) (vs ++ [v]) k2) = (if k' = k2 then some v' else dval ks vs k2)
    rw [dval_app_old hn (Nat.succ.inj hl)]
theorem dmapV_len {k v : D} : ∀ {ks vs : List D}, ks.length = vs.length → (dmapV ks vs k v).length = vs.length
  | [], [], _ => rfl
  | [], _ :: _, hl => nomatch hl
  | _ :: _, [], hl => nomatch hl
  | _ :: ks, _ :: vs, hl => congrArg (· + 1) (dmapV_len (Nat.succ.inj hl))
theorem dput_len {ks vs : List D} {k v : D} (hl : ks.length = vs.length) : (dputK ks k).length = (dputV ks vs k v).length := by
  unfold dputK dputV
  split
  · rw [dmapV_len hl]; exact hl
  · simp [hl]
theorem dval_put {ks vs : List D} {k v : D} (hl : ks.length = vs.length) : dval (dputK ks k) (dputV ks vs k v) k = some v := by
  unfold dputK dputV
  split
  · exact dval_map (ks := ks) (vs := vs) (by assumption) hl
  · exact dval_app_new (by assumption) hl
theorem dval_put_ne {ks vs : List D} {k v k2 : D} (hl : ks.length = vs.length) (hn : k2 ≠ k) : dval (dputK ks k) (dputV ks vs k v) k2 = dval ks vs k2 := by
  unfold dputK dputV
  split
  · exact dval_map_ne hn hl
  · exact dval_app_old hn hl
theorem dputK_len {ks : List D} {k : D} : (dputK ks k).length ≤ ks.length + 1 := by
  unfold dputK
  split
  · omega
  · simp
theorem dput_new {ks vs : List D} {k v : D} (h : k ∉ ks) : dputK ks k = ks ++ [k] ∧ dputV ks vs k v = vs ++ [v] := by
  unfold dputK dputV
  rw [if_neg h, if_neg h]; exact ⟨rfl, rfl⟩
theorem dmerge_nd : ∀ (ks vs aks avs : List D), (aks ++ ks).Nodup → ks.length = vs.length → dmerge ks vs aks avs = (aks ++ ks, avs ++ vs)
  | [], [], aks, avs, _, _ => by show (aks, avs) = _; simp
  | [], _ :: _, _, _, _, hl => nomatch hl
  | _ :: _, [], _, _, _, hl => nomatch hl
  | k :: ks, v :: vs, aks, avs, nd, hl => by
    have hk : k ∉ aks := fun z => by
      rw [List.nodup_append] at nd
      exact nd.2.2 k z k List.mem_cons_self rfl
    show dmerge ks vs (dputK aks k) (dputV aks avs k v) = _
    rw [(dput_new (v := v) (vs := avs) hk).1, (dput_new (v := v) (vs := avs) hk).2, dmerge_nd ks vs _ _ (by rw [List.append_assoc]; exact nd) (Nat.succ.inj hl)]
    simp
/-- a dict comprehension of plain keys that differ -/
theorem dc_map {us : List Nat} {fg : FG} {fk fv : FE} (key val : D → D) {E0 : En} : ∀ (xs : List D) (ρ : En) (ks vs : List D), wipeE ρ us = E0 → (∀ x ∈ xs, ∃ ρ1 ρ2 ρ3, fg x E0 = some ρ1 ∧ fk ρ1 = some (key x, ρ2) ∧ fv ρ2 = some (val x, ρ3) ∧ wipeE ρ3 us = E0 ∧ (keyOf (key x)).isSome = true) → (ks ++ xs.map key).Nodup → ks.length + xs.length ≤ sizeLine →
    ∃ ρ', dcL us fg cYes fk fv xs ρ ks vs = some ((ks ++ xs.map key, vs ++ xs.map val), ρ') ∧ wipeE ρ' us = E0
  | [], ρ, ks, vs, h, _, _, _ => ⟨ρ, by simp [dcL], h⟩
  | x :: xs, ρ, ks, vs, h, k, nd, hl => by
    obtain ⟨ρ1, ρ2, ρ3, h1, h2, h3, h4, h5⟩ := k x List.mem_cons_self
    have hk : key x ∉ ks := fun z => by
      rw [List.nodup_append] at nd
      exact nd.2.2 _ z (key x) (by simp) rfl
    obtain ⟨ρ', h6, h7⟩ := dc_map key val xs ρ3 (ks ++ [key x]) (vs ++ [val x]) h4 (fun y hy => k y (List.mem_cons_of_mem _ hy)) (by simpa using nd) (by rw [List.length_append]; simp at hl ⊢; omega)
    refine ⟨ρ', ?_, h7⟩
    unfold dcL
    rw [h, h1]
    show (fk ρ1).bind _ = _
    rw [h2]
    show (fv ρ2).bind _ = _
    rw [h3]
    show (if ks.length < sizeLine then _ else _) = _
    rw [if_pos (by simp at hl; omega)]
    obtain ⟨kk, hkk⟩ := Option.isSome_iff_exists.mp h5
    show (keyOf (key x)).bind _ = _
    rw [hkk]
    show dcL us fg cYes fk fv xs ρ3 (dputK ks (key x)) (dputV ks vs (key x) (val x)) = _
    rw [(dput_new (v := val x) (vs := vs) hk).1, (dput_new (v := val x) (vs := vs) hk).2, h6]
    simp
theorem fDC_map {us : List Nat} {fi : FI} {fg : FG} {fk fv : FE} (key val : D → D) {ρ ρ0 E0 : En} {xs : List D} (hi : fi ρ = some (xs, ρ0)) (hw : wipeE ρ0 us = E0) (k : ∀ x ∈ xs, ∃ ρ1 ρ2 ρ3, fg x E0 = some ρ1 ∧ fk ρ1 = some (key x, ρ2) ∧ fv ρ2 = some (val x, ρ3) ∧ wipeE ρ3 us = E0 ∧ (keyOf (key x)).isSome = true) (nd : (xs.map key).Nodup) (hl : xs.length ≤ sizeLine) :
    fDC us fi fg cYes fk fv ρ = some (.dct 0 (xs.map key) (xs.map val), E0) := by
  obtain ⟨ρ', h1, h2⟩ := dc_map key val xs ρ0 [] [] hw k (by simpa using nd) (by simpa using hl)
  unfold fDC
  rw [hi]
  show Option.map _ (dcL us fg cYes fk fv xs ρ0 [] []) = _
  rw [h1]
  show some (_, wipeE ρ' us) = _
  rw [h2]; rfl
theorem sPut_of {i t : Nat} {fk fv : FE} {ρ ρ1 ρ2 : En} {ks vs : List D} {k v d : D} (h1 : fv ρ = some (v, ρ1)) (h2 : hasSl ρ1 i = true) (h3 : fk ρ1 = some (k, ρ2)) (h4 : ρ2[i]? = some (Sl.o (.dct t ks vs))) (h5 : putSl t ks vs k v = some d) : sPut i fk fv ρ = some (.nx (ρ2.set i (Sl.o d))) := by
  unfold sPut
  rw [h1]
  show (if hasSl ρ1 i = true then _ else _) = _
  rw [if_pos h2, h3]
  show (match ρ2[i]? with | some (Sl.o (.dct t ks vs)) => _ | _ => _) = _
  rw [h4]
  show Option.map _ (putSl t ks vs k v) = _
  rw [h5]; rfl
theorem fMuL_of {op : List D → List D → Option (D × List D)} {i : Nat} {a : FA} {ρ ρ1 : En} {ds0 ds as ds' : List D} {d : D} (h0 : ρ[i]? = some (Sl.o (.lst ds0))) (h1 : a ρ = some (as, ρ1)) (h2 : ρ1[i]? = some (Sl.o (.lst ds))) (h3 : op ds as = some (d, ds')) : fMuL op i a ρ = some (d, ρ1.set i (Sl.o (.lst ds'))) := by
  unfold fMuL
  rw [h0]
  show (a ρ).bind _ = _
  rw [h1]
  show (match ρ1[i]? with | some (Sl.o (.lst ds)) => _ | _ => _) = _
  rw [h2]
  show Option.map _ (op ds as) = _
  rw [h3]; rfl
theorem fBN_o {op : D → D → Option D} {i : Nat} {g : FE} {ρ ρ1 : En} {d x r : D} (h0 : hasSl ρ i = true) (h1 : g ρ = some (x, ρ1)) (h2 : ρ1[i]? = some (Sl.o d)) (hb : d.isBox = false) (h3 : op d x = some r) : fBN op i g ρ = some (r, ρ1) := by
  unfold fBN
  rw [if_pos h0, h1]
  show (match ρ1[i]? with | some (Sl.s d) => _ | some (Sl.o d) => _ | _ => _) = _
  rw [h2]
  show (if d.isBox = true then _ else _) = _
  rw [hb, h3]; rfl
theorem fBN_s {op : D → D → Option D} {i : Nat} {g : FE} {ρ ρ1 : En} {d x r : D} (h0 : hasSl ρ i = true) (h1 : g ρ = some (x, ρ1)) (h2 : ρ1[i]? = some (Sl.s d)) (h3 : op d x = some r) : fBN op i g ρ = some (r, ρ1) := by
  unfold fBN
  rw [if_pos h0, h1]
  show (match ρ1[i]? with | some (Sl.s d) => _ | some (Sl.o d) => _ | _ => _) = _
  rw [h2]
  show Option.map _ (op d x) = _
  rw [h3]; rfl
theorem dval_at {α : Type} {f g : α → D} : ∀ {rs : List α} {r : α}, (rs.map f).Nodup → r ∈ rs → dval (rs.map f) (rs.map g) (f r) = some (g r)
  | [], _, _, h => nomatch h
  | a :: rs, r, nd, h => by
    rw [List.map_cons, List.nodup_cons] at nd
    show (if f a = f r then some (g a) else dval (rs.map f) (rs.map g) (f r)) = _
    rcases List.mem_cons.mp h with q | q
    · rw [q, if_pos rfl]
    · rw [if_neg (fun z => nd.1 (by rw [z]; exact List.mem_map_of_mem q))]
      exact dval_at nd.2 q
theorem iR1_of {a : FA} {ρ ρ1 : En} {j : Int} (h : a ρ = some ([.int j], ρ1)) (h1 : -(2 ^ 62) ≤ j) (h2 : j < 2 ^ 62) : iR1 a ρ = some (rngD 0 j, ρ1) := by
  unfold iR1
  rw [h]
  show (if -(2 ^ 62) ≤ j ∧ j < 2 ^ 62 then _ else _) = _
  rw [if_pos ⟨h1, h2⟩]
/-! ### texts compared -/
theorem toPs_strs : ∀ ms : List Str, toPs (ms.map D.str) = some (ms.map PyData.str)
  | [] => by simp [toPs]
  | m :: ms => by
    show Option.bind (toP (.str m)) _ = _
    rw [toP]
    show Option.map _ (toPs (ms.map D.str)) = _
    rw [toPs_strs ms]; rfl
theorem depth_strs : ∀ ms : List Str, PyData.depthAll (ms.map PyData.str) = 0
  | [] => by simp [PyData.depthAll]
  | m :: ms => by rw [List.map_cons, PyData.depthAll, depth_strs ms, PyData.depth]; rfl
theorem in_strs {m : Str} {ms : List Str} (h : m ∈ ms) : inB (.str m) (.lst (ms.map D.str)) = some true := by
  unfold inB
  simp only [toP, toPs_strs, Option.bind_some]
  show (if (PyData.str m).depth ≤ 64 ∧ (PyData.list (ms.map PyData.str)).depth ≤ 64 then some ((ms.map PyData.str).any fun z => PyData.eqv z (.str m)) else none) = _
  rw [if_pos ⟨by rw [PyData.depth]; omega, by rw [PyData.depth, depth_strs]; omega⟩]
  congr 1
  rw [List.any_eq_true]
  exact ⟨.str m, List.mem_map_of_mem h, by simp [PyData.eqv]⟩
theorem ne_int (i j : Int) : neO (.int i) (.int j) = some (.bl (!(i == j))) := by
  show some (D.bl (!PyData.eqv (.int i) (.int j))) = _
  simp [PyData.eqv]
theorem all_true {α : Type} (xs : List α) : allO (.lst (xs.map fun _ => .bl true)) = some (.bl true) := by
  have h : blsOf (xs.map fun _ => D.bl true) = some (xs.map fun _ => true) := by
    induction xs with
    | nil => rfl
    | cons x xs ih => show Option.map _ (blsOf (xs.map fun _ => D.bl true)) = _; rw [ih]; rfl
  show Option.map _ (blsOf (xs.map fun _ => D.bl true)) = _
  rw [h]
  show some (D.bl _) = _
  congr 2
  simp
/-! ### dict comprehensions of two loops: something comes out -/
theorem in_ex {us : List Nat} {gj : FG} {fk fv : FE} {E0 : En} : ∀ (xs : List D) (ρ : En) (ks vs : List D), wipeE ρ us = E0 → (∀ x ∈ xs, ∃ ρ1 k ρ2 v ρ3, gj x E0 = some ρ1 ∧ fk ρ1 = some (k, ρ2) ∧ fv ρ2 = some (v, ρ3) ∧ wipeE ρ3 us = E0 ∧ (keyTOf k).isSome = true) → ks.length + xs.length ≤ sizeLine →
    ∃ ks' vs' ρ', inL us gj cYes fk fv xs ρ ks vs = some ((ks', vs'), ρ') ∧ ks'.length ≤ ks.length + xs.length ∧ wipeE ρ' us = E0
  | [], ρ, ks, vs, h, _, _ => ⟨ks, vs, ρ, rfl, by simp, h⟩
  | x :: xs, ρ, ks, vs, h, k, hl => by
    obtain ⟨ρ1, kk, ρ2, v, ρ3, h1, h2, h3, h4, h5⟩ := k x List.mem_cons_self
    rw [List.length_cons] at hl
    have hp := dputK_len (ks := ks) (k := kk)
    obtain ⟨ks', vs', ρ', h6, h7, h8⟩ := in_ex xs ρ3 (dputK ks kk) (dputV ks vs kk v) h4 (fun y hy => k y (List.mem_cons_of_mem _ hy)) (by omega)
    refine ⟨ks', vs', ρ', ?_, by rw [List.length_cons]; omega, h8⟩
    unfold inL
    rw [h, h1]
    show (fk ρ1).bind _ = _
    rw [h2]
    show (fv ρ2).bind _ = _
    rw [h3]
    show (if ks.length < sizeLine then _ else _) = _
    rw [if_pos (by omega)]
    obtain ⟨q, hq⟩ := Option.isSome_iff_exists.mp h5
    show (keyTOf kk).bind _ = _
    rw [hq]
    exact h6
theorem d2_ex {vs us : List Nat} {fg : FG} {fj : FI} {gj : FG} {fk fv : FE} {E0 : En} {n B : Nat} : ∀ (xs : List D) (ρ : En) (ks ds : List D), wipeE ρ vs = E0 → (∀ x ∈ xs, ∀ ks ds : List D, ks.length ≤ B → ∃ ρ1 ys ρ2 ks' ds' ρ3, fg x E0 = some ρ1 ∧ fj ρ1 = some (ys, ρ2) ∧ inL us gj cYes fk fv ys ρ2 ks ds = some ((ks', ds'), ρ3) ∧ ks'.length ≤ ks.length + n ∧ wipeE ρ3 vs = E0) → ks.length + n * xs.length ≤ B →
    ∃ ks' ds' ρ', dcL2 vs us fg cYes fj gj cYes fk fv xs ρ ks ds = some ((ks', ds'), ρ') ∧ wipeE ρ' vs = E0
  | [], ρ, ks, ds, h, _, _ => ⟨ks, ds, ρ, rfl, h⟩
  | x :: xs, ρ, ks, ds, h, k, hl => by
    rw [List.length_cons, Nat.mul_succ] at hl
    obtain ⟨ρ1, ys, ρ2, ks', ds', ρ3, h1, h2, h3, h4, h5⟩ := k x List.mem_cons_self ks ds (by omega)
    obtain ⟨ks2, ds2, ρ', h6, h7⟩ := d2_ex xs ρ3 ks' ds' h5 (fun y hy => k y (List.mem_cons_of_mem _ hy)) (by omega)
    refine ⟨ks2, ds2, ρ', ?_, h7⟩
    unfold dcL2
    rw [h, h1]
    show (fj ρ1).bind _ = _
    rw [h2]
    show (inL us gj cYes fk fv ys ρ2 ks ds).bind _ = _
    rw [h3]
    exact h6
theorem sFl_of {cs : List Str} {i : Nat} {a c : Str} {f : FE} {ρ ρ1 : En} {d : D} {ns : List Str} {vs : List D} (h : f ρ = some (d, ρ1)) (h1 : ρ1[i]? = some (Sl.o (.ins c ns vs))) (h2 : c ∈ cs) (h3 : ns.length < 1000) : sFl cs i a f ρ = some (.nx (ρ1.set i (Sl.o (.ins c (putD a d ns vs).1 (putD a d ns vs).2)))) := by
  unfold sFl
  rw [h]
  show (match ρ1[i]? with | some (Sl.o (.ins c ns vs)) => _ | _ => _) = _
  rw [h1]
  show (if c ∈ cs ∧ ns.length < 1000 then _ else _) = _
  rw [if_pos ⟨h2, h3⟩]
/-! ### flows -/
theorem less_ok {c : BoxC} (h : isFl c) {n : Int} (h0 : 0 < n) (h1 : n < 1073741824) : ∃ v c', lessF c [.int n] = some (.int v, c') ∧ 0 ≤ v ∧ v < n ∧ isFl c' := by
  cases c with
  | nums => exact h.elim
  | flow ns s k =>
    refine ⟨_, _, show (if 0 < n ∧ n < 1073741824 then some (D.int (lessN ns s k n).1, (lessN ns s k n).2) else none) = some (.int (lessN ns s k n).1, (lessN ns s k n).2) from if_pos ⟨h0, h1⟩, ?_, ?_, ?_⟩
    · unfold lessN; split <;> exact Int.emod_nonneg _ (by omega)
    · unfold lessN; split <;> exact Int.emod_lt_of_pos _ h0
    · unfold lessN; split <;> trivial
theorem less_in {c : BoxC} {i : Nat} {ga : FA} {ρ : En} {p : Bool} {n : Int} (hc : isFl c) (hi : ρ[i]? = some (Sl.o (.box p c))) (ha : ga ρ = some ([.int n], ρ)) (h0 : 0 < n) (h1 : n < 1073741824) : ∃ v c', fCaB lessF i ga ρ = some (.int v, ρ.set i (Sl.o (.box p c'))) ∧ 0 ≤ v ∧ v < n ∧ isFl c' := by
  obtain ⟨v, c', e, a, b, d⟩ := less_ok hc h0 h1
  refine ⟨v, c', ?_, a, b, d⟩
  unfold fCaB
  rw [hi]
  show (ga ρ).bind _ = _
  rw [ha]
  show (match ρ[i]? with | some (Sl.o (.box p c)) => _ | _ => _) = _
  rw [hi]
  show Option.map _ (lessF c [.int n]) = _
  rw [e]; rfl
end VS
set_option autoImplicit false
namespace K21
open PySem PySem.Spec PyProof.Rows L2 AR VS
def T (r : List Nat) : Str := ⟨r.toArray⟩
def mS (ms : List Str) : D := .tup (ms.map .str)
def chs (sg : List Nat) : List D := sg.map fun c => .str (T [c])
theorem chD_T (r : List Nat) : chD (T r) = chs r := by unfold chD chs T; rfl
def rdr (sg ms fi st ld : D) : D := .ins "Reader" ["signs", "marks", "first", "steps", "leads"] [sg, ms, fi, st, ld]
def rd (sg : List Nat) (ms : List Str) (go : Str → Nat → Str) (fi ld : D) : D := rdr (.str (T sg)) (mS ms) fi (.tup (ms.map fun m => .tup (sg.map fun c => .str (go m c)))) ld
structure RD (sg : List Nat) (ms : List Str) (go : Str → Nat → Str) : Prop where
  nd : ms.Nodup
  sd : sg.Nodup
  gi : ∀ m ∈ ms, ∀ c ∈ sg, go m c ∈ ms
  l1 : ms.length ≤ 4
  l2 : sg.length ≤ 3
  ok : ∀ m ∈ ms, SG m
def app : List Str → List Str → Str → Str
  | k :: ks, v :: vs, m => if k = m then v else app ks vs m
  | _, _, m => m
theorem app_map {f : Str → Str} : ∀ {ms : List Str} {m : Str}, m ∈ ms → app ms (ms.map f) m = f m
  | [], _, h => nomatch h
  | k :: ks, m, h => by
    unfold app
    by_cases e : k = m
    · rw [List.map_cons]; simp [e]
    · rw [List.map_cons]; simp only [if_neg e]
      exact app_map (by rcases List.mem_cons.mp h with q | q; exact absurd q.symm e; exact q)
theorem app_self {ms : List Str} {m : Str} (h : m ∈ ms) : app ms ms m = m := by
  have := app_map (f := id) h
  rw [List.map_id] at this
  exact this
theorem app_list : ∀ {ms od : List Str}, ms.Nodup → od.length = ms.length → ms.map (app ms od) = od
  | [], [], _, _ => rfl
  | [], _ :: _, _, h => nomatch h
  | _ :: _, [], _, h => nomatch h
  | k :: ks, v :: vs, nd, h => by
    rw [List.nodup_cons] at nd
    have ih := app_list nd.2 (Nat.succ.inj h)
    rw [List.map_cons]
    congr 1
    · unfold app; simp
    · refine Eq.trans (List.map_congr_left fun m hm => ?_) ih
      have : ¬ k = m := fun z => nd.1 (z ▸ hm)
      show (if k = m then v else app ks vs m) = _
      rw [if_neg this]
theorem dval_strs : ∀ {ms od : List Str} {m : Str}, m ∈ ms → od.length = ms.length → dval (ms.map .str) (od.map .str) (.str m) = some (.str (app ms od m))
  | [], _, _, h, _ => nomatch h
  | _ :: _, [], _, _, h => nomatch h
  | k :: ks, v :: vs, m, h, hl => by
    show (if D.str k = D.str m then some (D.str v) else dval (ks.map .str) (vs.map .str) (.str m)) = some (.str (if k = m then v else app ks vs m))
    by_cases e : k = m
    · rw [if_pos (congrArg D.str e), if_pos e]
    · rw [if_neg (fun z => e (by injection z)), if_neg e]
      exact dval_strs (by rcases List.mem_cons.mp h with q | q; exact absurd q.symm e; exact q) (Nat.succ.inj hl)
theorem nodup_strs {ms : List Str} (h : ms.Nodup) : (ms.map D.str).Nodup := by
  unfold List.Nodup at h ⊢
  exact List.pairwise_map.mpr (h.imp fun ne e => ne (by injection e))
theorem keys_strs : ∀ ms : List Str, keysOf (ms.map D.str) = some (ms.map Sum.inr)
  | [] => rfl
  | m :: ms => by show Option.bind (some _) _ = _; rw [Option.bind_some, keys_strs ms]; rfl
section
variable {sg : List Nat} {ms : List Str} {go : Str → Nat → Str} {fi ld : D}
theorem first_ok : fnD 1 1 b_first_act [rd sg ms go fi ld] = some (mS ms) := by
  refine fnD_rt (ρ := [.s (rd sg ms go fi ld)]) rfl (sRt_of (fU_of (x := rd sg ms go fi ld) rfl rfl))
theorem then_ok (R : RD sg ms go) {one od : List Str} (h1 : ∀ m ∈ one, m ∈ ms) (h2 : od.length = ms.length) (h3 : one.length ≤ 4) : fnD 3 5 b_act_then [rd sg ms go fi ld, mS one, mS od] = some (mS (one.map (app ms od))) := by
  have hs : (4 : Nat) ≤ sizeLine := by decide
  have dz : dzO [mS ms, mS od] = some (.dct 0 (ms.map .str) (od.map .str)) := by
    show (if (ms.map D.str).length ≤ sizeLine then Option.map _ (keysOf ((ms.map D.str).take (od.map D.str).length)) else none) = _
    have e1 : (ms.map D.str).take (od.map D.str).length = ms.map D.str := List.take_of_length_le (by simp [h2])
    have e2 : (od.map D.str).take (ms.map D.str).length = od.map D.str := List.take_of_length_le (by simp [h2])
    rw [if_pos (by rw [List.length_map]; exact Nat.le_trans R.l1 hs), e1, e2, keys_strs, dmerge_nd _ _ _ _ (by simpa using nodup_strs R.nd) (by simp [h2])]
    rfl
  refine fnD_rt (ρ := [.s (rd sg ms go fi ld), .s (mS one), .s (mS od), .s (.dct 0 (ms.map .str) (od.map .str)), .u]) rfl ?_
  unfold b_act_then
  refine sSeq_of (sSet_of (fAp_of (aC_of (fU_of (x := rd sg ms go fi ld) rfl rfl) (aC_of (x := mS od) rfl rfl)) dz)) ?_
  refine sRt_of (fU_of (fLC_map (E0 := [.s (rd sg ms go fi ld), .s (mS one), .s (mS od), .s (.dct 0 (ms.map .str) (od.map .str)), .u]) (fun x => match x with | .str m => .str (app ms od m) | _ => x) (iS_of (x := mS one) rfl rfl) rfl (by rw [List.length_map]; exact Nat.le_trans h3 hs) fun x hx => ?_) ?_)
  · obtain ⟨m, hm, rfl⟩ := List.mem_map.mp hx
    exact ⟨_, _, rfl, fB_of rfl rfl (show (keyOf (.str m)).bind (fun _ => dval (ms.map .str) (od.map .str) (.str m)) = _ from dval_strs (h1 m hm) h2), rfl⟩
  · rw [List.map_map]
    unfold mS
    rw [List.map_map]; rfl
end
end K21
set_option autoImplicit false
namespace K21
open PySem PySem.Spec PyProof.Rows L2 AR VS
def lead (go : Str → Nat → Str) (m : Str) (r : List Nat) : Str := r.foldl go m
def wt (ms : List Str) (go : Str → Nat → Str) (r : List Nat) : List Str := ms.map (lead go · r)
section
variable {sg : List Nat} {ms : List Str} {go : Str → Nat → Str} {fi ld : D}
theorem lead_in (R : RD sg ms go) : ∀ {r : List Nat} {m : Str}, m ∈ ms → (∀ c ∈ r, c ∈ sg) → lead go m r ∈ ms
  | [], m, h, _ => h
  | c :: r, m, h, hr => lead_in R (r := r) (R.gi m h c (hr c List.mem_cons_self)) fun d hd => hr d (List.mem_cons_of_mem _ hd)
theorem lead_app (m : Str) (r q : List Nat) : lead go m (r ++ q) = lead go (lead go m r) q := List.foldl_append
def sgD (sg : List Nat) (ms : List Str) (go : Str → Nat → Str) : D := .dct 0 (chs sg) (sg.map fun c => mS (ms.map (go · c)))
theorem T1 {a b : Nat} (h : T [a] = T [b]) : a = b := by
  have : (T [a]).cps = (T [b]).cps := by rw [h]
  have h2 : #[a] = #[b] := this
  simpa using h2
theorem nodup_chs (h : sg.Nodup) : (chs sg).Nodup := by
  unfold List.Nodup chs at *
  exact List.pairwise_map.mpr (h.imp fun ne e => ne (T1 (by injection e)))
theorem dval_chs {f : Nat → D} : ∀ {sg : List Nat} {c : Nat}, c ∈ sg → dval (chs sg) (sg.map f) (.str (T [c])) = some (f c)
  | [], _, h => nomatch h
  | a :: sg, c, h => by
    show (if D.str (T [a]) = D.str (T [c]) then some (f a) else dval (chs sg) (sg.map f) _) = _
    by_cases e : a = c
    · rw [if_pos (by rw [e]), e]
    · rw [if_neg (fun z => e (T1 (by injection z)))]
      exact dval_chs (by rcases List.mem_cons.mp h with q | q; exact absurd q.symm e; exact q)
theorem enu_key : ∀ (n : Nat) (xs : List D), (List.zipWith (fun i x => D.tup [.int (i : Nat), x]) (List.range' n xs.length) xs).map (fun x => match x with | .tup [_, k] => k | _ => x) = xs
  | _, [] => rfl
  | n, x :: xs => by
    rw [List.length_cons, List.range'_succ, List.zipWith_cons_cons, List.map_cons, enu_key (n + 1) xs]
theorem enu_val (f : Nat → D) (F : Nat → D) : ∀ (n : Nat) (xs : List Nat), (∀ i c, xs[i]? = some c → F (n + i) = f c) → (List.zipWith (fun i x => D.tup [.int (i : Nat), x]) (List.range' n (chs xs).length) (chs xs)).map (fun x => match x with | .tup [.int i, _] => F i.toNat | _ => x) = xs.map f
  | _, [], _ => rfl
  | n, x :: xs, h => by
    show (List.zipWith _ (List.range' n (D.str (T [x]) :: chs xs).length) (D.str (T [x]) :: chs xs)).map _ = _
    rw [List.length_cons, List.range'_succ, List.zipWith_cons_cons, List.map_cons, List.map_cons, enu_val f F (n + 1) xs (fun i c e => by have := h (i + 1) c (by simpa using e); rw [← this]; congr 1; omega)]
    congr 1
    exact h 0 x rfl
theorem enu_mem {x : D} : ∀ {n : Nat} {xs : List Nat}, x ∈ List.zipWith (fun i x => D.tup [.int (i : Nat), x]) (List.range' n (chs xs).length) (chs xs) → ∃ i c, xs[i]? = some c ∧ x = .tup [.int ((n + i : Nat) : Int), .str (T [c])]
  | _, [], h => nomatch h
  | n, c :: xs, h => by
    have h' : x ∈ List.zipWith (fun i x => D.tup [.int (i : Nat), x]) (List.range' n (D.str (T [c]) :: chs xs).length) (D.str (T [c]) :: chs xs) := h
    rw [List.length_cons, List.range'_succ, List.zipWith_cons_cons] at h'
    rcases List.mem_cons.mp h' with q | q
    · exact ⟨0, c, rfl, q⟩
    · obtain ⟨i, d, h1, h2⟩ := enu_mem q
      exact ⟨i + 1, d, by simpa using h1, by rw [h2]; congr 3; omega⟩
theorem at_nat {α : Type} {xs : List α} {i : Nat} {x : α} (h : xs[i]? = some x) : atI xs ((i : Nat) : Int) = some x := by
  have hl := (List.getElem?_eq_some_iff.mp h).1
  unfold atI ixN
  rw [if_pos (by omega), if_pos (by omega)]
  show xs[((i : Nat) : Int).toNat]? = _
  rw [Int.toNat_natCast]; exact h
theorem sign_ok (R : RD sg ms go) : fnD 1 4 b_sign_acts [rd sg ms go fi ld] = some (sgD sg ms go) := by
  have hs : (4 : Nat) ≤ sizeLine := by decide
  refine fnD_rt (ρ := [.s (rd sg ms go fi ld), .u, .u, .u]) rfl ?_
  refine sRt_of ?_
  have e0 : enuD (chs sg) = List.zipWith (fun i x => D.tup [.int (i : Nat), x]) (List.range' 0 (chs sg).length) (chs sg) := by unfold enuD; rw [List.range_eq_range']
  have hi : iEn (fU (attrD ["Reader"] "signs") (pN 0)) (startE 4 [rd sg ms go fi ld]) = some (enuD (chs sg), [.s (rd sg ms go fi ld), .u, .u, .u]) := by
    unfold iEn
    rw [fU_of (x := rd sg ms go fi ld) (d := .str (T sg)) rfl rfl]
    show some (enuD (chD (T sg)), _) = _
    rw [chD_T]; rfl
  refine Eq.trans (fDC_map (E0 := [.s (rd sg ms go fi ld), .u, .u, .u]) (fun x => match x with | .tup [_, k] => k | _ => x) (fun x => match x with | .tup [.int i, _] => mS (ms.map (go · (sg.getD i.toNat 0))) | _ => x) hi rfl (fun x hx => ?_) ?_ ?_) ?_
  · rw [e0] at hx
    obtain ⟨i, c, hc, rfl⟩ := enu_mem hx
    rw [Nat.zero_add]
    refine ⟨[.s (rd sg ms go fi ld), .u, .s (.int (i : Nat)), .s (.str (T [c]))], _, [.s (rd sg ms go fi ld), .u, .s (.int (i : Nat)), .s (.str (T [c]))], rfl, rfl, ?_, rfl, rfl⟩
    refine fU_of (fLC_map (E0 := [.s (rd sg ms go fi ld), .u, .s (.int (i : Nat)), .s (.str (T [c]))]) (fun x => match x with | .tup xs => xs.getD i .non | _ => x) (iS_of (fU_of (x := rd sg ms go fi ld) rfl rfl) rfl) rfl (by rw [List.length_map]; exact Nat.le_trans R.l1 hs) fun x hx => ?_) ?_
    · obtain ⟨m, hm, rfl⟩ := List.mem_map.mp hx
      have h1 : (sg.map fun c => D.str (go m c))[i]? = some (.str (go m c)) := by rw [List.getElem?_map, hc]; rfl
      refine ⟨_, _, rfl, fB_of rfl rfl (show atI _ _ = some ((sg.map fun c => D.str (go m c)).getD i .non) from ?_), rfl⟩
      rw [List.getD_eq_getElem?_getD, h1]
      exact at_nat h1
    · show some (D.tup ((ms.map fun m => D.tup (sg.map fun c => D.str (go m c))).map _)) = some (D.tup ((ms.map (go · (sg.getD ((i : Nat) : Int).toNat 0))).map D.str))
      rw [List.map_map, List.map_map, Int.toNat_natCast, List.getD_eq_getElem?_getD, hc]
      congr 2
      refine List.map_congr_left fun m hm => ?_
      show (sg.map fun c => D.str (go m c)).getD i .non = .str (go m c)
      rw [List.getD_eq_getElem?_getD, List.getElem?_map, hc]; rfl
  · rw [e0, enu_key]; exact nodup_chs R.sd
  · unfold enuD; rw [List.length_zipWith, List.length_range]; unfold chs; rw [List.length_map, Nat.min_self]; have := R.l2; omega
  · rw [e0, enu_key, enu_val (fun c => mS (ms.map (go · c))) (fun i => mS (ms.map (go · (sg.getD i 0)))) 0 sg (fun i c e => by rw [Nat.zero_add, List.getD_eq_getElem?_getD, e]; rfl)]
    rfl
theorem wt_nil : wt ms go [] = ms := by unfold wt; exact List.map_id _
theorem wt_len {r : List Nat} : (wt ms go r).length = ms.length := List.length_map ..
theorem wt_in (R : RD sg ms go) {r : List Nat} (hr : ∀ c ∈ r, c ∈ sg) : ∀ m ∈ wt ms go r, m ∈ ms := fun m hm => by
  obtain ⟨n, hn, rfl⟩ := List.mem_map.mp hm
  exact lead_in R hn hr
/-- one act behind another -/
theorem then_wt (R : RD sg ms go) {r q : List Nat} (hr : ∀ c ∈ r, c ∈ sg) : (wt ms go r).map (app ms (wt ms go q)) = wt ms go (r ++ q) := by
  unfold wt
  rw [List.map_map]
  refine List.map_congr_left fun m hm => ?_
  show app ms (ms.map (lead go · q)) (lead go m r) = lead go m (r ++ q)
  rw [app_map (f := (lead go · q)) (lead_in R hm hr), lead_app]
theorem step_ok (R : RD sg ms go) {r : List Nat} {c : Nat} (hr : ∀ c ∈ r, c ∈ sg) (hc : c ∈ sg) : fnD 3 5 b_act_then [rd sg ms go fi ld, mS (wt ms go r), mS (ms.map (go · c))] = some (mS (wt ms go (r ++ [c]))) := by
  rw [then_ok R (wt_in R hr) (List.length_map ..) (by rw [wt_len]; exact R.l1)]
  have : ms.map (go · c) = wt ms go [c] := rfl
  rw [this, then_wt R hr]
theorem get_sg (R : RD sg ms go) {c : Nat} (hc : c ∈ sg) : getD (sgD sg ms go) (.str (T [c])) = some (mS (ms.map (go · c))) := by
  show (keyOf (.str (T [c]))).bind (fun _ => dval (chs sg) (sg.map fun c => mS (ms.map (go · c))) (.str (T [c]))) = _
  exact dval_chs hc
theorem act_ok (R : RD sg ms go) {r : List Nat} (hr : ∀ c ∈ r, c ∈ sg) : fnD 2 5 b_act [rd sg ms go fi ld, .str (T r)] = some (mS (wt ms go r)) := by
  have e1 : b_act (startE 5 [rd sg ms go fi ld, .str (T r)]) = sSeq (sFor (iS (fN 1)) (gN 4) (sSet 2 (fAp (fnD 3 5 b_act_then) (aC (fN 0) (aC (fN 2) (aC (fB getD (fN 3) (fN 4)) aN)))))) (sRt (fN 2)) [.s (rd sg ms go fi ld), .s (.str (T r)), .s (mS ms), .s (sgD sg ms go), .u] := by
    refine sSeq_of (sPar_of (fAp_of (aC_of (x := rd sg ms go fi ld) rfl rfl) first_ok) (fAp_of (aC_of (x := rd sg ms go fi ld) rfl rfl) (sign_ok R))) rfl
  obtain ⟨ρ', h1, h2⟩ := sFor_rec (fi := iS (fN 1)) (tg := gN 4) (b := sSet 2 (fAp (fnD 3 5 b_act_then) (aC (fN 0) (aC (fN 2) (aC (fB getD (fN 3) (fN 4)) aN))))) (ρ := [.s (rd sg ms go fi ld), .s (.str (T r)), .s (mS ms), .s (sgD sg ms go), .u])
    (fun rest ρ => ∃ done rest' v4, rest = chs rest' ∧ r = done ++ rest' ∧ ρ = [.s (rd sg ms go fi ld), .s (.str (T r)), .s (mS (wt ms go done)), .s (sgD sg ms go), v4]) (iS_of (x := .str (T r)) rfl (congrArg some (chD_T r))) ⟨[], r, .u, rfl, rfl, by rw [wt_nil]⟩ (fun x xs ρ h => by
      obtain ⟨done, rest', v4, h1, h2, rfl⟩ := h
      cases rest' with
      | nil => cases h1
      | cons c rest' =>
        have hc : x = .str (T [c]) ∧ xs = chs rest' := by injection h1 with a b; exact ⟨a, b⟩
        obtain ⟨rfl, rfl⟩ := hc
        have hd : ∀ d ∈ done, d ∈ sg := fun d hd => hr d (by rw [h2]; exact List.mem_append_left _ hd)
        have hcs : c ∈ sg := hr c (by rw [h2]; simp)
        refine ⟨_, _, rfl, sSet_of (fAp_of (aC_of rfl (aC_of rfl (aC_of (fB_of rfl rfl (get_sg R hcs)) rfl))) (step_ok R hd hcs)), done ++ [c], rest', .s (.str (T [c])), rfl, by rw [h2]; simp, rfl⟩)
  obtain ⟨done, rest', v4, h3, h4, rfl⟩ := h2
  have : rest' = [] := by cases rest' with | nil => rfl | cons => cases h3
  subst this
  rw [List.append_nil] at h4
  subst h4
  refine fnD_rt (ρ := [.s (rd sg ms go fi ld), .s (.str (T r)), .s (mS (wt ms go r)), .s (sgD sg ms go), v4]) rfl ?_
  rw [e1]
  exact sSeq_of h1 rfl
end
end K21
set_option autoImplicit false
namespace K21
open PySem PySem.Spec PyProof.Rows L2 AR VS
/-! ### as many as there are words -/
theorem le_of_sub {α : Type} [DecidableEq α] : ∀ {l w : List α}, l.Nodup → (∀ a ∈ l, a ∈ w) → l.length ≤ w.length
  | [], _, _, _ => Nat.zero_le _
  | a :: l, w, nd, h => by
    rw [List.nodup_cons] at nd
    have ha := h a List.mem_cons_self
    have := le_of_sub (w := w.erase a) nd.2 fun b hb => by
      have hn : b ≠ a := fun z => nd.1 (z ▸ hb)
      exact (List.mem_erase_of_ne hn).mpr (h b (List.mem_cons_of_mem _ hb))
    rw [List.length_erase_of_mem ha] at this
    have hp : 0 < w.length := List.length_pos_of_mem ha
    rw [List.length_cons]; omega
def words (ms : List Str) : Nat → List (List Str)
  | 0 => [[]]
  | n + 1 => ms.flatMap fun m => (words ms n).map fun w => m :: w
theorem words_mem {ms : List Str} : ∀ {w : List Str}, (∀ m ∈ w, m ∈ ms) → w ∈ words ms w.length
  | [], _ => List.mem_singleton.mpr rfl
  | m :: w, h => by
    show _ ∈ ms.flatMap _
    exact List.mem_flatMap.mpr ⟨m, h m List.mem_cons_self, List.mem_map.mpr ⟨w, words_mem fun x hx => h x (List.mem_cons_of_mem _ hx), rfl⟩⟩
theorem words_len {ms : List Str} : ∀ n, (words ms n).length = ms.length ^ n
  | 0 => rfl
  | n + 1 => by
    show (ms.flatMap _).length = _
    rw [List.length_flatMap]
    simp only [List.length_map, words_len n]
    rw [List.map_const', List.sum_replicate_nat, Nat.pow_succ, Nat.mul_comm]
section
variable {sg : List Nat} {ms : List Str} {go : Str → Nat → Str} {fi ld : D} {ks vs : List D}
structure GO (ks vs : List D) (sg : List Nat) (ms : List Str) (go : Str → Nat → Str) : Prop where
  get : ∀ m ∈ ms, ∀ c ∈ sg, dval ks vs (.tup [.str m, .str (T [c])]) = some (.str (go m c))
def dr (ms : List Str) (fi : D) (ks vs : List D) : D := .tup [mS ms, fi, .dct 1 ks vs]
theorem leads_ok (R : RD sg ms go) (G : GO ks vs sg ms go) {r : List Nat} {m : Str} (hm : m ∈ ms) (hr : ∀ c ∈ r, c ∈ sg) : fnD 3 5 b_w_leads [dr ms fi ks vs, .str m, .str (T r)] = some (.str (lead go m r)) := by
  obtain ⟨ρ', h1, h2⟩ := sFor_rec (fi := iS (fN 2)) (tg := gN 4) (b := sSet 3 (fB getD (fB getD (fN 0) (fC (.int 2))) (fAp mkT (aC (fN 3) (aC (fN 4) aN))))) (ρ := [.s (dr ms fi ks vs), .s (.str m), .s (.str (T r)), .s (.str m), .u])
    (fun rest ρ => ∃ done rest' v4, rest = chs rest' ∧ r = done ++ rest' ∧ ρ = [.s (dr ms fi ks vs), .s (.str m), .s (.str (T r)), .s (.str (lead go m done)), v4]) (iS_of (x := .str (T r)) rfl (congrArg some (chD_T r))) ⟨[], r, .u, rfl, rfl, rfl⟩ (fun x xs ρ h => by
      obtain ⟨done, rest', v4, h1, h2, rfl⟩ := h
      cases rest' with
      | nil => cases h1
      | cons c rest' =>
        have hc : x = .str (T [c]) ∧ xs = chs rest' := by injection h1 with a b; exact ⟨a, b⟩
        obtain ⟨rfl, rfl⟩ := hc
        have hd : ∀ d ∈ done, d ∈ sg := fun d hd => hr d (by rw [h2]; exact List.mem_append_left _ hd)
        have hcs : c ∈ sg := hr c (by rw [h2]; simp)
        refine ⟨_, _, rfl, sSet_of (fB_of (fB_of (x := dr ms fi ks vs) (y := .int 2) rfl rfl rfl) (fAp_of (aC_of rfl (aC_of rfl rfl)) rfl) (show (keyTOf (.tup [.str (lead go m done), .str (T [c])])).bind (fun _ => dval ks vs (.tup [.str (lead go m done), .str (T [c])])) = _ from G.get _ (lead_in R hm hd) c hcs)), done ++ [c], rest', .s (.str (T [c])), rfl, by rw [h2]; simp, by rw [lead_app]; rfl⟩)
  obtain ⟨done, rest', v4, h3, h4, rfl⟩ := h2
  have : rest' = [] := by cases rest' with | nil => rfl | cons => cases h3
  subst this
  rw [List.append_nil] at h4
  subst h4
  refine fnD_rt (ρ := [.s (dr ms fi ks vs), .s (.str m), .s (.str (T r)), .s (.str (lead go m r)), v4]) rfl ?_
  exact sSeq_of (sSet_of rfl) (sSeq_of h1 rfl)
theorem deed_ok (R : RD sg ms go) (G : GO ks vs sg ms go) {r : List Nat} (hr : ∀ c ∈ r, c ∈ sg) : fnD 2 3 b_w_deed [dr ms fi ks vs, .str (T r)] = some (mS (wt ms go r)) := by
  have hs : (4 : Nat) ≤ sizeLine := by decide
  refine fnD_rt (ρ := [.s (dr ms fi ks vs), .s (.str (T r)), .u]) rfl ?_
  refine sRt_of (fU_of (fLC_map (E0 := [.s (dr ms fi ks vs), .s (.str (T r)), .u]) (fun x => match x with | .str m => .str (lead go m r) | _ => x) (iS_of (x := mS ms) (fB_of (x := dr ms fi ks vs) (y := .int 0) rfl rfl rfl) rfl) rfl (by rw [List.length_map]; exact Nat.le_trans R.l1 hs) fun x hx => ?_) ?_)
  · obtain ⟨m, hm, rfl⟩ := List.mem_map.mp hx
    exact ⟨_, _, rfl, fAp_of (aC_of rfl (aC_of rfl (aC_of rfl rfl))) (leads_ok R G hm hr), rfl⟩
  · rw [List.map_map]
    unfold mS wt
    rw [List.map_map]; rfl
/-! ### the search -/
def grw (ms : List Str) (go : Str → Nat → Str) (base : List Nat) (rs : List (List Nat)) (c : Nat) : List (List Nat) := if wt ms go (base ++ [c]) ∈ rs.map (wt ms go) then rs else rs ++ [base ++ [c]]
def bfs (sg : List Nat) (ms : List Str) (go : Str → Nat → Str) : Nat → Nat → List (List Nat) → List (List Nat)
  | 0, _, rs => rs
  | n + 1, t, rs => if t < rs.length then bfs sg ms go n (t + 1) (sg.foldl (grw ms go (rs.getD t [])) rs) else rs
structure BI (sg : List Nat) (ms : List Str) (go : Str → Nat → Str) (rs : List (List Nat)) : Prop where
  nd : (rs.map (wt ms go)).Nodup
  ov : ∀ r ∈ rs, ∀ c ∈ r, c ∈ sg
  ln : ∀ (i : Nat) (r : List Nat), rs[i]? = some r → r.length ≤ i
  hd : rs[0]? = some []
theorem BI.bound (R : RD sg ms go) {rs : List (List Nat)} (b : BI sg ms go rs) : rs.length ≤ 256 := by
  have h := le_of_sub (w := words ms ms.length) b.nd fun a ha => by
    obtain ⟨r, hr, rfl⟩ := List.mem_map.mp ha
    have := words_mem (wt_in R (b.ov r hr))
    rw [wt_len] at this
    exact this
  rw [List.length_map, words_len] at h
  have hl := R.l1
  have : ms.length ^ ms.length ≤ 256 := by
    generalize ms.length = n at hl
    match n, hl with
    | 0, _ => decide
    | 1, _ => decide
    | 2, _ => decide
    | 3, _ => decide
    | 4, _ => decide
  omega
theorem BI.start : BI sg ms go [[]] := ⟨by simp, (fun r hr c hc => by rw [List.mem_singleton.mp hr] at hc; cases hc), (fun i r h => by cases i with | zero => cases h; exact Nat.le_refl _ | succ n => simp at h), rfl⟩
theorem BI.grw {rs : List (List Nat)} (b : BI sg ms go rs) {t c : Nat} {base : List Nat} (ht : rs[t]? = some base) (hc : c ∈ sg) : BI sg ms go (grw ms go base rs c) ∧ (K21.grw ms go base rs c)[t]? = some base := by
  have hl := (List.getElem?_eq_some_iff.mp ht).1
  unfold K21.grw
  split
  · exact ⟨b, ht⟩
  · rename_i hn
    refine ⟨⟨?_, fun r hr d hd => ?_, fun i r h => ?_, ?_⟩, ?_⟩
    · rw [List.map_append, List.nodup_append]
      refine ⟨b.nd, by simp, fun a ha x hx => ?_⟩
      rw [List.map_singleton, List.mem_singleton] at hx
      rw [hx]
      exact fun z => hn (z ▸ ha)
    · rcases List.mem_append.mp hr with q | q
      · exact b.ov r q d hd
      · rw [List.mem_singleton.mp q] at hd
        rcases List.mem_append.mp hd with q | q
        · exact b.ov base (List.mem_of_getElem? ht) d q
        · rw [List.mem_singleton.mp q]; exact hc
    · by_cases hi : i < rs.length
      · rw [List.getElem?_append_left hi] at h; exact b.ln i r h
      · rw [List.getElem?_append_right (by omega)] at h
        have hh : i - rs.length = 0 := by
          have := (List.getElem?_eq_some_iff.mp h).1
          simp at this; omega
        rw [hh] at h
        cases h
        have := b.ln t base ht
        rw [List.length_append]; simp; omega
    · have h0 := b.hd
      rw [List.getElem?_append_left (by omega)]; exact h0
    · rw [List.getElem?_append_left hl]; exact ht
theorem BI.fold {t : Nat} {base : List Nat} : ∀ (cs : List Nat) {rs : List (List Nat)}, BI sg ms go rs → rs[t]? = some base → (∀ c ∈ cs, c ∈ sg) → BI sg ms go (cs.foldl (K21.grw ms go base) rs) ∧ (cs.foldl (K21.grw ms go base) rs)[t]? = some base
  | [], rs, b, ht, _ => ⟨b, ht⟩
  | c :: cs, rs, b, ht, h => by
    obtain ⟨b1, t1⟩ := b.grw ht (h c List.mem_cons_self)
    exact BI.fold cs b1 t1 fun d hd => h d (List.mem_cons_of_mem _ hd)
theorem BI.bfs : ∀ (n t : Nat) {rs : List (List Nat)}, BI sg ms go rs → BI sg ms go (K21.bfs sg ms go n t rs)
  | 0, _, _, b => b
  | n + 1, t, rs, b => by
    unfold K21.bfs
    split
    · rename_i h
      have ht : rs[t]? = some (rs.getD t []) := by rw [List.getD_eq_getElem?_getD, List.getElem?_eq_getElem h]; rfl
      exact BI.bfs n (t + 1) (b.fold sg ht fun c h => h).1
    · exact b
def kD (ms : List Str) (go : Str → Nat → Str) (rs : List (List Nat)) : List D := rs.map fun r => mS (wt ms go r)
def vD (rs : List (List Nat)) : List D := rs.map fun r => .str (T r)
theorem mS_inj {a b : List Str} (h : mS a = mS b) : a = b := by
  unfold mS at h
  injection h with h
  exact (List.map_inj_right (fun x y e => by injection e)).mp h
theorem kD_nd {rs : List (List Nat)} (b : BI sg ms go rs) : (kD ms go rs).Nodup := by
  have := b.nd
  unfold List.Nodup kD at *
  rw [List.pairwise_map] at this ⊢
  exact this.imp fun ne e => ne (mS_inj e)
theorem kD_mem {rs : List (List Nat)} {r : List Nat} : mS (wt ms go r) ∈ kD ms go rs ↔ wt ms go r ∈ rs.map (wt ms go) := by
  unfold kD
  rw [List.mem_map, List.mem_map]
  constructor
  · rintro ⟨q, h1, h2⟩; exact ⟨q, h1, mS_inj h2⟩
  · rintro ⟨q, h1, h2⟩; exact ⟨q, h1, by rw [h2]⟩
theorem keyT_mS (a : List Str) : keyTOf (mS a) = some (a.map Sum.inr) := keys_strs a
theorem T_app (a b : List Nat) : T a ++ T b = T (a ++ b) := by
  show (⟨a.toArray ++ b.toArray⟩ : Str) = ⟨(a ++ b).toArray⟩
  simp
theorem T_len (a : List Nat) : (T a).length = a.length := by
  show (a.toArray).size = a.length
  simp
end
end K21
set_option autoImplicit false
namespace K21
open PySem PySem.Spec PyProof.Rows L2 AR VS
section
variable {sg : List Nat} {ms : List Str} {go : Str → Nat → Str} {fi ld : D} {ks vs : List D}
theorem big : (1000 : Nat) ≤ sizeLine := by decide
theorem putS {rs : List (List Nat)} {r : List Nat} (hl : rs.length ≤ 256) (hn : mS (wt ms go r) ∉ kD ms go rs) : putSl 1 (kD ms go rs) (vD rs) (mS (wt ms go r)) (.str (T r)) = some (.dct 1 (kD ms go (rs ++ [r])) (vD (rs ++ [r]))) := by
  have hb := big
  show (if (kD ms go rs).length < sizeLine then Option.map _ (keyTOf (mS (wt ms go r))) else none) = _
  rw [if_pos (by unfold kD; rw [List.length_map]; omega), keyT_mS, (dput_new (v := .str (T r)) (vs := vD rs) hn).1, (dput_new (v := .str (T r)) (vs := vD rs) hn).2]
  show some (D.dct 1 _ _) = _
  unfold kD vD
  rw [List.map_append, List.map_append]; rfl
theorem notIn_ok {rs : List (List Nat)} {r : List Nat} : notInO (mS (wt ms go r)) (.dct 1 (kD ms go rs) (vD rs)) = some (.bl (!decide (mS (wt ms go r) ∈ kD ms go rs))) := by
  show Option.map _ (Option.map _ (keyTOf (mS (wt ms go r)))) = _
  rw [keyT_mS]; rfl
theorem add_ok {r : List Nat} {c : Nat} (h : r.length ≤ 256) : addO (.str (T r)) (.str (T [c])) = some (.str (T (r ++ [c]))) := by
  have hb := big
  show (if (T r).length + (T [c]).length ≤ sizeLine then _ else _) = _
  rw [if_pos (by rw [T_len, T_len]; simp; omega), T_app]
theorem app_ok {xs : List D} {x : D} (h : xs.length ≤ 256) : appO xs [x] = some (.non, xs ++ [x]) := by
  have hb := big
  show (if xs.length < sizeLine then _ else _) = _
  rw [if_pos (by omega)]
def inA : FS := (sSeq (sSet 7 (fAp (fnD 3 5 b_act_then) (aC (fN 0) (aC (fN 5) (aC (fB getD (fN 1) (fN 6)) aN)))))
      (sIf (tF blD (fB notInO (fN 7) (pN 2))) (sSeq (sPut 2 (fN 7) (fB addO (fBN getD 2 (fN 5)) (fN 6)))
      (sEx (fMuL appO 3 (aC (fN 7) aN)))) sNx))
abbrev EA (d : D) (s : D) (K V : List D) (t : Int) (v5 v6 v7 : Sl) : En := [.s d, .s s, .o (.dct 1 K V), .o (.lst K), .s (.int t), v5, v6, v7, .u]
theorem inA_ok (R : RD sg ms go) {rs : List (List Nat)} (b : BI sg ms go rs) {t0 : Nat} {base : List Nat} (ht : rs[t0]? = some base) {c : Nat} (hc : c ∈ sg) (t : Int) (v7 : Sl) :
    inA (EA (rd sg ms go fi ld) (sgD sg ms go) (kD ms go rs) (vD rs) t (.s (mS (wt ms go base))) (.s (.str (T [c]))) v7) = some (.nx (EA (rd sg ms go fi ld) (sgD sg ms go) (kD ms go (grw ms go base rs c)) (vD (grw ms go base rs c)) t (.s (mS (wt ms go base))) (.s (.str (T [c]))) (.s (mS (wt ms go (base ++ [c])))))) := by
  have hbd := b.bound R
  have hm : base ∈ rs := List.mem_of_getElem? ht
  have hlt := (List.getElem?_eq_some_iff.mp ht).1
  have hov := b.ov base hm
  have hln := b.ln t0 base ht
  refine sSeq_of (ρ1 := EA (rd sg ms go fi ld) (sgD sg ms go) (kD ms go rs) (vD rs) t (.s (mS (wt ms go base))) (.s (.str (T [c]))) (.s (mS (wt ms go (base ++ [c]))))) ((sSet_of (fAp_of (aC_of (x := rd sg ms go fi ld) rfl (aC_of (x := mS (wt ms go base)) rfl (aC_of (fB_of (x := sgD sg ms go) (y := .str (T [c])) rfl rfl (get_sg R hc)) rfl))) (step_ok R hov hc))).trans rfl) ?_
  by_cases hin : mS (wt ms go (base ++ [c])) ∈ kD ms go rs
  · have eg : grw ms go base rs c = rs := by unfold grw; rw [if_pos (kD_mem.mp hin)]
    rw [eg]
    refine (sIf_f (ρ1 := EA (rd sg ms go fi ld) (sgD sg ms go) (kD ms go rs) (vD rs) t (.s (mS (wt ms go base))) (.s (.str (T [c]))) (.s (mS (wt ms go (base ++ [c]))))) (tF_of (fB_of (x := mS (wt ms go (base ++ [c]))) (y := .dct 1 (kD ms go rs) (vD rs)) rfl rfl notIn_ok) ?_)).trans rfl
    rw [decide_eq_true hin]; rfl
  · have eg : grw ms go base rs c = rs ++ [base ++ [c]] := by unfold grw; rw [if_neg (fun z => hin (kD_mem.mpr z))]
    rw [eg]
    refine (sIf_t (ρ1 := EA (rd sg ms go fi ld) (sgD sg ms go) (kD ms go rs) (vD rs) t (.s (mS (wt ms go base))) (.s (.str (T [c]))) (.s (mS (wt ms go (base ++ [c]))))) (tF_of (fB_of (x := mS (wt ms go (base ++ [c]))) (y := .dct 1 (kD ms go rs) (vD rs)) rfl rfl notIn_ok) ?_)).trans ?_
    · rw [decide_eq_false hin]; rfl
    · have hget : getD (.dct 1 (kD ms go rs) (vD rs)) (mS (wt ms go base)) = some (.str (T base)) := by
        show (keyTOf (mS (wt ms go base))).bind (fun _ => dval (kD ms go rs) (vD rs) (mS (wt ms go base))) = _
        rw [keyT_mS]
        exact dval_at (f := fun r => mS (wt ms go r)) (g := fun r => D.str (T r)) (kD_nd b) hm
      refine sSeq_of (sPut_of (ks := kD ms go rs) (vs := vD rs) (t := 1) (fB_of (fBN_o (d := .dct 1 (kD ms go rs) (vD rs)) rfl rfl rfl rfl hget) rfl (add_ok (by omega))) rfl rfl rfl (putS hbd hin)) ?_
      refine (sEx_of (fMuL_of (ds := kD ms go rs) (ds0 := kD ms go rs) rfl (aC_of rfl rfl) rfl (app_ok (by unfold kD; rw [List.length_map]; exact hbd)))).trans ?_
      have e1 : kD ms go (rs ++ [base ++ [c]]) = kD ms go rs ++ [mS (wt ms go (base ++ [c]))] := by unfold kD; rw [List.map_append]; rfl
      unfold EA
      rw [e1]
      rfl
def whB : FS := (sSeq (sSet 5 (fBN getD 3 (fN 4)))
      (sSeq (sAug addI 4 (fC (.int 1)))
      (sFor (iS (fU (attrD ["Reader"] "signs") (pN 0))) (gN 6) inA)))
def whC : FT := (tF blD (fB ltO (fN 4) (fU lenD (pN 3))))
theorem whB_ok (R : RD sg ms go) {rs : List (List Nat)} (b : BI sg ms go rs) {t : Nat} (ht : t < rs.length) (v5 v6 v7 : Sl) :
    ∃ v5' v6' v7', whB (EA (rd sg ms go fi ld) (sgD sg ms go) (kD ms go rs) (vD rs) t v5 v6 v7) = some (.nx (EA (rd sg ms go fi ld) (sgD sg ms go) (kD ms go (sg.foldl (grw ms go (rs.getD t [])) rs)) (vD (sg.foldl (grw ms go (rs.getD t [])) rs)) ((t + 1 : Nat) : Int) v5' v6' v7')) := by
  have hg : rs[t]? = some (rs.getD t []) := by rw [List.getD_eq_getElem?_getD, List.getElem?_eq_getElem ht]; rfl
  generalize rs.getD t [] = base at hg ⊢
  have hat : getD (.lst (kD ms go rs)) (.int (t : Nat)) = some (mS (wt ms go base)) := at_nat (by unfold kD; rw [List.getElem?_map, hg]; rfl)
  obtain ⟨ρ', h1, h2⟩ := sFor_rec (fi := iS (fU (attrD ["Reader"] "signs") (pN 0))) (tg := gN 6) (b := inA) (ρ := EA (rd sg ms go fi ld) (sgD sg ms go) (kD ms go rs) (vD rs) ((t + 1 : Nat) : Int) (.s (mS (wt ms go base))) v6 v7)
    (fun rest ρ => ∃ done rest' v6' v7', rest = chs rest' ∧ sg = done ++ rest' ∧ ρ = EA (rd sg ms go fi ld) (sgD sg ms go) (kD ms go (done.foldl (grw ms go base) rs)) (vD (done.foldl (grw ms go base) rs)) ((t + 1 : Nat) : Int) (.s (mS (wt ms go base))) v6' v7')
    (iS_of (fU_of (x := rd sg ms go fi ld) (d := .str (T sg)) rfl rfl) (congrArg some (chD_T sg))) ⟨[], sg, v6, v7, rfl, rfl, rfl⟩ (fun x xs ρ h => by
      obtain ⟨done, rest', v6', v7', h1, h2, rfl⟩ := h
      cases rest' with
      | nil => cases h1
      | cons c rest' =>
        have hc : x = .str (T [c]) ∧ xs = chs rest' := by injection h1 with a b; exact ⟨a, b⟩
        obtain ⟨rfl, rfl⟩ := hc
        obtain ⟨b1, t1⟩ := b.fold done hg fun d hd => by rw [h2]; exact List.mem_append_left _ hd
        refine ⟨EA (rd sg ms go fi ld) (sgD sg ms go) (kD ms go (done.foldl (grw ms go base) rs)) (vD (done.foldl (grw ms go base) rs)) ((t + 1 : Nat) : Int) (.s (mS (wt ms go base))) (.s (.str (T [c]))) v7', _, rfl, inA_ok R b1 t1 (by rw [h2]; simp) _ v7', done ++ [c], rest', .s (.str (T [c])), .s (mS (wt ms go (base ++ [c]))), rfl, by rw [h2]; simp, ?_⟩
        rw [List.foldl_append]; rfl)
  obtain ⟨done, rest', v6', v7', h3, h4, rfl⟩ := h2
  have : rest' = [] := by cases rest' with | nil => rfl | cons => cases h3
  subst this
  rw [List.append_nil] at h4
  subst h4
  refine ⟨_, v6', v7', sSeq_of (sSet_of (fBN_o (d := .lst (kD ms go rs)) rfl rfl rfl rfl hat)) (sSeq_of ?_ h1)⟩
  rfl
theorem wh_ok (R : RD sg ms go) : ∀ (n t : Nat) {rs : List (List Nat)} (F : Nat) (v5 v6 v7 : Sl), BI sg ms go rs → t ≤ rs.length → 257 ≤ t + n → n < F →
    ∃ t' v5' v6' v7', whL whC whB F (EA (rd sg ms go fi ld) (sgD sg ms go) (kD ms go rs) (vD rs) t v5 v6 v7) = some (.nx (EA (rd sg ms go fi ld) (sgD sg ms go) (kD ms go (bfs sg ms go n t rs)) (vD (bfs sg ms go n t rs)) t' v5' v6' v7'))
  | 0, t, rs, F, v5, v6, v7, b, h1, h2, _ => by have := b.bound R; omega
  | n + 1, t, rs, 0, _, _, _, _, _, _, h => by omega
  | n + 1, t, rs, F + 1, v5, v6, v7, b, h1, h2, h3 => by
    have hc : whC (EA (rd sg ms go fi ld) (sgD sg ms go) (kD ms go rs) (vD rs) t v5 v6 v7) = some (decide (t < rs.length), EA (rd sg ms go fi ld) (sgD sg ms go) (kD ms go rs) (vD rs) t v5 v6 v7) := by
      refine tF_of (fB_of (x := .int (t : Nat)) rfl (fU_of (x := .lst (kD ms go rs)) rfl rfl) rfl) ?_
      show some (decide (((t : Nat) : Int) < ((kD ms go rs).length : Nat))) = _
      unfold kD
      rw [List.length_map]
      congr 1
      rw [decide_eq_decide]; omega
    unfold whL
    rw [hc]
    by_cases hlt : t < rs.length
    · obtain ⟨w5, w6, w7, hb⟩ := whB_ok (fi := fi) (ld := ld) R b hlt v5 v6 v7
      have hg : rs[t]? = some (rs.getD t []) := by rw [List.getD_eq_getElem?_getD, List.getElem?_eq_getElem hlt]; rfl
      obtain ⟨b1, t1⟩ := b.fold sg hg fun c h => h
      have hl1 := (List.getElem?_eq_some_iff.mp t1).1
      obtain ⟨t', x5, x6, x7, hr⟩ := wh_ok R n (t + 1) F w5 w6 w7 b1 (by omega) (by omega) (by omega)
      refine ⟨t', x5, x6, x7, ?_⟩
      show (if decide (t < rs.length) = true then (match whB _ with | some (.nx ρ2) => whL whC whB F ρ2 | some (.ct ρ2) => whL whC whB F ρ2 | some (.bk ρ2) => some (.nx ρ2) | some (.rt d ρ2) => some (.rt d ρ2) | none => none) else _) = _
      rw [if_pos (decide_eq_true hlt), hb]
      have eb : bfs sg ms go (n + 1) t rs = bfs sg ms go n (t + 1) (sg.foldl (grw ms go (rs.getD t [])) rs) := by rw [bfs, if_pos hlt]
      rw [eb]
      exact hr
    · refine ⟨t, v5, v6, v7, ?_⟩
      have eb : bfs sg ms go (n + 1) t rs = rs := by rw [bfs, if_neg hlt]
      rw [eb, decide_eq_false hlt]
      rfl
theorem acts_ok (R : RD sg ms go) : fnD 1 9 b_acts [rd sg ms go fi ld] = some (.tup ((bfs sg ms go 300 0 [[]]).map fun r => .tup [mS (wt ms go r), .str (T r)])) := by
  have hb0 : BI sg ms go [[]] := .start
  obtain ⟨t', v5, v6, v7, hw⟩ := wh_ok (fi := fi) (ld := ld) R 300 0 100000 .u .u .u hb0 (by simp) (by omega) (by omega)
  have hb := hb0.bfs 300 0
  generalize bfs sg ms go 300 0 [[]] = rs at hw hb ⊢
  have hbd := hb.bound R
  have hk : keyTOf (mS ms) = some (ms.map Sum.inr) := keyT_mS ms
  have e0 : kD ms go [[]] = [mS ms] := by unfold kD; rw [List.map_singleton, wt_nil]
  refine fnD_rt (ρ := [.s (rd sg ms go fi ld), .s (sgD sg ms go), .o (.dct 1 (kD ms go rs) (vD rs)), .s (.lst (kD ms go rs)), .s (.int t'), v5, v6, v7, .u]) rfl ?_
  have hf : fAp (fnD 1 1 b_first_act) (aC (fN 0) aN) (startE 9 [rd sg ms go fi ld]) = some (mS ms, startE 9 [rd sg ms go fi ld]) := fAp_of (aC_of (x := rd sg ms go fi ld) rfl rfl) first_ok
  refine sSeq_of (ρ1 := [.s (rd sg ms go fi ld), .s (sgD sg ms go), .o (.dct 1 [mS ms] [.str ""]), .o (.lst [mS ms]), .u, .u, .u, .u, .u]) ((sPar3_of (fAp_of (aC_of (x := rd sg ms go fi ld) rfl rfl) (sign_ok R)) (y := .dct 1 [mS ms] [.str ""]) (ρ2 := startE 9 [rd sg ms go fi ld]) ?_ (fAp_of (d := .lst [mS ms]) (aC_of hf rfl) rfl)).trans rfl) ?_
  · unfold fD1
    rw [show fAp (fnD 1 1 b_first_act) (aC (fN 0) aN) _ = _ from hf]
    show Option.map _ (keyTOf (mS ms)) = _
    rw [hk]; rfl
  refine sSeq_of (sSet_of (d := .int 0) rfl) ?_
  rw [e0] at hw
  refine sSeq_of hw ?_
  refine sRt_of (fU_of (fLC_map (E0 := [.s (rd sg ms go fi ld), .s (sgD sg ms go), .o (.dct 1 (kD ms go rs) (vD rs)), .s (.lst (kD ms go rs)), .s (.int t'), v5, v6, v7, .u]) (fun x => .tup [x, (dval (kD ms go rs) (vD rs) x).getD .non]) (iS_of (x := .lst (kD ms go rs)) rfl rfl) rfl ?_ fun x hx => ?_) ?_)
  · have := big; unfold kD; rw [List.length_map]; omega
  · obtain ⟨r, hr, rfl⟩ := List.mem_map.mp hx
    have hd : dval (kD ms go rs) (vD rs) (mS (wt ms go r)) = some (.str (T r)) := dval_at (f := fun r => mS (wt ms go r)) (g := fun r => D.str (T r)) (kD_nd hb) hr
    refine ⟨_, _, rfl, fAp_of (aC_of rfl (aC_of (fBN_o (d := .dct 1 (kD ms go rs) (vD rs)) (x := mS (wt ms go r)) rfl rfl rfl rfl (r := .str (T r)) ?_) rfl)) ?_, rfl⟩
    · show (keyTOf (mS (wt ms go r))).bind (fun _ => dval (kD ms go rs) (vD rs) (mS (wt ms go r))) = _
      rw [keyT_mS]; exact hd
    · show mkT [mS (wt ms go r), .str (T r)] = some (.tup [mS (wt ms go r), (dval (kD ms go rs) (vD rs) (mS (wt ms go r))).getD .non])
      rw [hd]; rfl
  · show some (D.tup ((kD ms go rs).map _)) = _
    congr 2
    unfold kD
    rw [List.map_map]
    refine List.map_congr_left fun r hr => ?_
    have hd : dval (kD ms go rs) (vD rs) (mS (wt ms go r)) = some (.str (T r)) := dval_at (f := fun r => mS (wt ms go r)) (g := fun r => D.str (T r)) (kD_nd hb) hr
    show D.tup [mS (wt ms go r), (dval (kD ms go rs) (vD rs) (mS (wt ms go r))).getD .non] = _
    rw [hd]; rfl
end
end K21
set_option autoImplicit false
namespace K21
open PySem PySem.Spec PyProof.Rows L2 AR VS
section
variable {sg : List Nat} {ms : List Str} {go : Str → Nat → Str} {fi ld : D} {ks vs : List D}
def inD : FS := (sSeq (sSet 6 (fB addO (fBN getD 3 (fN 4)) (fN 5)))
      (sSeq (sSet 7 (fAp (fnD 2 3 b_w_deed) (aC (fN 0) (aC (fN 6) aN))))
      (sIf (tF blD (fB notInO (fN 7) (pN 2))) (sSeq (sPut 2 (fN 7) (fN 6))
      (sEx (fMuL appO 3 (aC (fN 6) aN)))) sNx)))
def foD : FS := (sSeq (sIf (tF blD (fB eqO (fN 4) (fU lenD (pN 3)))) sBk sNx) (sFor (iS (fN 1)) (gN 5) inD))
abbrev ED (d s : D) (K V : List D) (v4 v5 v6 v7 : Sl) : En := [.s d, .s s, .o (.dct 1 K V), .o (.lst V), v4, v5, v6, v7]
theorem inD_ok (R : RD sg ms go) (G : GO ks vs sg ms go) {rs : List (List Nat)} (b : BI sg ms go rs) {t0 : Nat} {base : List Nat} (ht : rs[t0]? = some base) {c : Nat} (hc : c ∈ sg) (v6 v7 : Sl) :
    inD (ED (dr ms fi ks vs) (.str (T sg)) (kD ms go rs) (vD rs) (.s (.int (t0 : Nat))) (.s (.str (T [c]))) v6 v7) = some (.nx (ED (dr ms fi ks vs) (.str (T sg)) (kD ms go (grw ms go base rs c)) (vD (grw ms go base rs c)) (.s (.int (t0 : Nat))) (.s (.str (T [c]))) (.s (.str (T (base ++ [c])))) (.s (mS (wt ms go (base ++ [c])))))) := by
  have hbd := b.bound R
  have hm : base ∈ rs := List.mem_of_getElem? ht
  have hlt := (List.getElem?_eq_some_iff.mp ht).1
  have hov := b.ov base hm
  have hln := b.ln t0 base ht
  have hov2 : ∀ d ∈ base ++ [c], d ∈ sg := fun d hd => by
    rcases List.mem_append.mp hd with q | q
    · exact hov d q
    · rw [List.mem_singleton.mp q]; exact hc
  have hat : getD (.lst (vD rs)) (.int (t0 : Nat)) = some (.str (T base)) := at_nat (by unfold vD; rw [List.getElem?_map, ht]; rfl)
  refine sSeq_of (ρ1 := ED (dr ms fi ks vs) (.str (T sg)) (kD ms go rs) (vD rs) (.s (.int (t0 : Nat))) (.s (.str (T [c]))) (.s (.str (T (base ++ [c])))) v7) ((sSet_of (fB_of (fBN_o (d := .lst (vD rs)) rfl rfl rfl rfl hat) rfl (add_ok (by omega)))).trans rfl) ?_
  refine sSeq_of (ρ1 := ED (dr ms fi ks vs) (.str (T sg)) (kD ms go rs) (vD rs) (.s (.int (t0 : Nat))) (.s (.str (T [c]))) (.s (.str (T (base ++ [c])))) (.s (mS (wt ms go (base ++ [c]))))) ((sSet_of (fAp_of (aC_of (x := dr ms fi ks vs) rfl (aC_of (x := .str (T (base ++ [c]))) rfl rfl)) (deed_ok R G hov2))).trans rfl) ?_
  by_cases hin : mS (wt ms go (base ++ [c])) ∈ kD ms go rs
  · have eg : grw ms go base rs c = rs := by unfold grw; rw [if_pos (kD_mem.mp hin)]
    rw [eg]
    refine (sIf_f (ρ1 := ED (dr ms fi ks vs) (.str (T sg)) (kD ms go rs) (vD rs) (.s (.int (t0 : Nat))) (.s (.str (T [c]))) (.s (.str (T (base ++ [c])))) (.s (mS (wt ms go (base ++ [c]))))) (tF_of (fB_of (x := mS (wt ms go (base ++ [c]))) (y := .dct 1 (kD ms go rs) (vD rs)) rfl rfl notIn_ok) ?_)).trans rfl
    rw [decide_eq_true hin]; rfl
  · have eg : grw ms go base rs c = rs ++ [base ++ [c]] := by unfold grw; rw [if_neg (fun z => hin (kD_mem.mpr z))]
    rw [eg]
    refine (sIf_t (ρ1 := ED (dr ms fi ks vs) (.str (T sg)) (kD ms go rs) (vD rs) (.s (.int (t0 : Nat))) (.s (.str (T [c]))) (.s (.str (T (base ++ [c])))) (.s (mS (wt ms go (base ++ [c]))))) (tF_of (fB_of (x := mS (wt ms go (base ++ [c]))) (y := .dct 1 (kD ms go rs) (vD rs)) rfl rfl notIn_ok) ?_)).trans ?_
    · rw [decide_eq_false hin]; rfl
    · refine sSeq_of (sPut_of (ks := kD ms go rs) (vs := vD rs) (t := 1) (v := .str (T (base ++ [c]))) (k := mS (wt ms go (base ++ [c]))) rfl rfl rfl rfl (putS hbd hin)) ?_
      refine (sEx_of (fMuL_of (ds := vD rs) (ds0 := vD rs) rfl (aC_of rfl rfl) rfl (app_ok (by unfold vD; rw [List.length_map]; exact hbd)))).trans ?_
      have e1 : vD (rs ++ [base ++ [c]]) = vD rs ++ [.str (T (base ++ [c]))] := by unfold vD; rw [List.map_append]; rfl
      unfold ED
      rw [e1]
      rfl
theorem foD_go (R : RD sg ms go) (G : GO ks vs sg ms go) {rs : List (List Nat)} (b : BI sg ms go rs) {t : Nat} (ht : t < rs.length) (v5 v6 v7 : Sl) :
    ∃ v5' v6' v7', foD (ED (dr ms fi ks vs) (.str (T sg)) (kD ms go rs) (vD rs) (.s (.int (t : Nat))) v5 v6 v7) = some (.nx (ED (dr ms fi ks vs) (.str (T sg)) (kD ms go (sg.foldl (grw ms go (rs.getD t [])) rs)) (vD (sg.foldl (grw ms go (rs.getD t [])) rs)) (.s (.int (t : Nat))) v5' v6' v7')) := by
  have hg : rs[t]? = some (rs.getD t []) := by rw [List.getD_eq_getElem?_getD, List.getElem?_eq_getElem ht]; rfl
  generalize rs.getD t [] = base at hg ⊢
  obtain ⟨ρ', h1, h2⟩ := sFor_rec (fi := iS (fN 1)) (tg := gN 5) (b := inD) (ρ := ED (dr ms fi ks vs) (.str (T sg)) (kD ms go rs) (vD rs) (.s (.int (t : Nat))) v5 v6 v7)
    (fun rest ρ => ∃ done rest' v5' v6' v7', rest = chs rest' ∧ sg = done ++ rest' ∧ ρ = ED (dr ms fi ks vs) (.str (T sg)) (kD ms go (done.foldl (grw ms go base) rs)) (vD (done.foldl (grw ms go base) rs)) (.s (.int (t : Nat))) v5' v6' v7')
    (iS_of (x := .str (T sg)) rfl (congrArg some (chD_T sg))) ⟨[], sg, v5, v6, v7, rfl, rfl, rfl⟩ (fun x xs ρ h => by
      obtain ⟨done, rest', v5', v6', v7', h1, h2, rfl⟩ := h
      cases rest' with
      | nil => cases h1
      | cons c rest' =>
        have hc : x = .str (T [c]) ∧ xs = chs rest' := by injection h1 with a b; exact ⟨a, b⟩
        obtain ⟨rfl, rfl⟩ := hc
        obtain ⟨b1, t1⟩ := b.fold done hg fun d hd => by rw [h2]; exact List.mem_append_left _ hd
        refine ⟨ED (dr ms fi ks vs) (.str (T sg)) (kD ms go (done.foldl (grw ms go base) rs)) (vD (done.foldl (grw ms go base) rs)) (.s (.int (t : Nat))) (.s (.str (T [c]))) v6' v7', _, rfl, inD_ok R G b1 t1 (by rw [h2]; simp) v6' v7', done ++ [c], rest', .s (.str (T [c])), .s (.str (T (base ++ [c]))), .s (mS (wt ms go (base ++ [c]))), rfl, by rw [h2]; simp, ?_⟩
        rw [List.foldl_append]; rfl)
  obtain ⟨done, rest', v5', v6', v7', h3, h4, rfl⟩ := h2
  have : rest' = [] := by cases rest' with | nil => rfl | cons => cases h3
  subst this
  rw [List.append_nil] at h4
  subst h4
  refine ⟨v5', v6', v7', sSeq_of ?_ h1⟩
  refine (sIf_f (ρ1 := ED (dr ms fi ks vs) (.str (T sg)) (kD ms go rs) (vD rs) (.s (.int (t : Nat))) v5 v6 v7) (tF_of (fB_of (x := .int (t : Nat)) (d := .bl false) rfl (fU_of (x := .lst (vD rs)) (d := .int rs.length) rfl ?_) ?_) rfl)).trans rfl
  · show some (D.int (vD rs).length) = _
    unfold vD; rw [List.length_map]
  · show some (D.bl (PyData.eqv (.int t) (.int rs.length))) = _
    have : PyData.eqv (.int t) (.int rs.length) = false := by
      simp [PyData.eqv]; omega
    rw [this]
theorem foD_end {rs : List (List Nat)} {d s : D} {K : List D} {t : Nat} (ht : t = rs.length) (v5 v6 v7 : Sl) : foD (ED d s K (vD rs) (.s (.int (t : Nat))) v5 v6 v7) = some (.bk (ED d s K (vD rs) (.s (.int (t : Nat))) v5 v6 v7)) := by
  unfold foD sSeq
  rw [sIf_t (ρ1 := ED d s K (vD rs) (.s (.int (t : Nat))) v5 v6 v7) (tF_of (fB_of (x := .int (t : Nat)) (d := .bl true) rfl (fU_of (x := .lst (vD rs)) (d := .int rs.length) rfl ?_) ?_) rfl)]
  · rfl
  · show some (D.int (vD rs).length) = _
    unfold vD; rw [List.length_map]
  · show some (D.bl (PyData.eqv (.int t) (.int rs.length))) = _
    have : PyData.eqv (.int t) (.int rs.length) = true := by
      simp [PyData.eqv]; omega
    rw [this]
theorem fo_ok (R : RD sg ms go) (G : GO ks vs sg ms go) : ∀ (n t : Nat) {rs : List (List Nat)} (v4 v5 v6 v7 : Sl), BI sg ms go rs → t ≤ rs.length → 257 ≤ t + n →
    ∃ v4' v5' v6' v7', forL (gN 4) foD ((List.range' t n).map fun i => D.int (i : Nat)) (ED (dr ms fi ks vs) (.str (T sg)) (kD ms go rs) (vD rs) v4 v5 v6 v7) = some (.nx (ED (dr ms fi ks vs) (.str (T sg)) (kD ms go (bfs sg ms go n t rs)) (vD (bfs sg ms go n t rs)) v4' v5' v6' v7'))
  | 0, t, rs, v4, v5, v6, v7, b, h1, h2 => by have := b.bound R; omega
  | n + 1, t, rs, v4, v5, v6, v7, b, h1, h2 => by
    rw [List.range'_succ, List.map_cons]
    by_cases hlt : t < rs.length
    · obtain ⟨w5, w6, w7, hb⟩ := foD_go (fi := fi) R G b hlt v5 v6 v7
      have hg : rs[t]? = some (rs.getD t []) := by rw [List.getD_eq_getElem?_getD, List.getElem?_eq_getElem hlt]; rfl
      obtain ⟨b1, t1⟩ := b.fold sg hg fun c h => h
      have hl1 := (List.getElem?_eq_some_iff.mp t1).1
      obtain ⟨x4, x5, x6, x7, hr⟩ := fo_ok R G n (t + 1) (.s (.int (t : Nat))) w5 w6 w7 b1 (by omega) (by omega)
      refine ⟨x4, x5, x6, x7, ?_⟩
      have eb : bfs sg ms go (n + 1) t rs = bfs sg ms go n (t + 1) (sg.foldl (grw ms go (rs.getD t [])) rs) := by rw [bfs, if_pos hlt]
      rw [eb, forL_nx (ρ1 := ED (dr ms fi ks vs) (.str (T sg)) (kD ms go rs) (vD rs) (.s (.int (t : Nat))) v5 v6 v7) rfl hb]
      exact hr
    · refine ⟨.s (.int (t : Nat)), v5, v6, v7, ?_⟩
      have eb : bfs sg ms go (n + 1) t rs = rs := by rw [bfs, if_neg hlt]
      rw [eb]
      exact forL_bk (ρ1 := ED (dr ms fi ks vs) (.str (T sg)) (kD ms go rs) (vD rs) (.s (.int (t : Nat))) v5 v6 v7) rfl (foD_end (by omega) v5 v6 v7)
theorem deeds_ok (R : RD sg ms go) (G : GO ks vs sg ms go) : fnD 2 8 b_w_deeds [dr ms fi ks vs, .str (T sg)] = some (.dct 1 (kD ms go (bfs sg ms go 300 0 [[]])) (vD (bfs sg ms go 300 0 [[]]))) := by
  have hb0 : BI sg ms go [[]] := .start
  obtain ⟨v4, v5, v6, v7, hw⟩ := fo_ok (fi := fi) R G 300 0 .u .u .u .u hb0 (by simp) (by omega)
  generalize bfs sg ms go 300 0 [[]] = rs at hw ⊢
  have e0 : kD ms go [[]] = [mS ms] := by unfold kD; rw [List.map_singleton, wt_nil]
  have hf : fB getD (fN 0) (fC (.int 0)) (startE 8 [dr ms fi ks vs, .str (T sg)]) = some (mS ms, startE 8 [dr ms fi ks vs, .str (T sg)]) := fB_of (x := dr ms fi ks vs) (y := .int 0) rfl rfl rfl
  refine fnD_rt (ρ := [.s (dr ms fi ks vs), .s (.str (T sg)), .s (.dct 1 (kD ms go rs) (vD rs)), .o (.lst (vD rs)), v4, v5, v6, v7]) rfl ?_
  refine sSeq_of (ρ1 := [.s (dr ms fi ks vs), .s (.str (T sg)), .o (.dct 1 [mS ms] [.str ""]), .o (.lst [.str ""]), .u, .u, .u, .u]) ((sPar_of (x := .dct 1 [mS ms] [.str ""]) (y := .lst [.str ""]) (ρ1 := startE 8 [dr ms fi ks vs, .str (T sg)]) ?_ rfl).trans rfl) ?_
  · unfold fD1
    rw [show fB getD (fN 0) (fC (.int 0)) _ = _ from hf]
    show Option.map _ (keyTOf (mS ms)) = _
    rw [keyT_mS]; rfl
  rw [e0] at hw
  refine sSeq_of (ρ1 := ED (dr ms fi ks vs) (.str (T sg)) (kD ms go rs) (vD rs) v4 v5 v6 v7) ?_ rfl
  refine Eq.trans ?_ hw
  show (iR1 (aC (fC (.int 300)) aN) _).bind _ = _
  have er : rngD 0 300 = (List.range' 0 300).map fun i => D.int (i : Nat) := by
    unfold rngD
    rw [← List.range_eq_range']
    refine List.map_congr_left fun i _ => ?_
    rw [Int.zero_add]
  show forL (gN 4) foD (rngD 0 300) _ = _
  rw [er]
  rfl
end
end K21
set_option autoImplicit false
namespace K21
open PySem PySem.Spec PyProof.Rows L2 AR VS
/-! ### what is drawn -/
theorem any_gen {c : BoxC} (hc : isFl c) {x : D} {n : Int} {P : D → Prop} (hl : lenD x = some (.int n)) (h0 : 0 < n) (h1 : n < 1073741824) (hg : ∀ v : Int, 0 ≤ v → v < n → ∃ d, getD x (.int v) = some d ∧ P d) : ∃ d c', fnB 1 2 b_w_any_of c [x] = some (d, c') ∧ P d ∧ isFl c' := by
  obtain ⟨v, c', e, a, b, f⟩ := less_in (i := 0) (p := true) (ρ := [.o (.box true c), .s x]) (ga := aC (fU lenD (pN 1)) aN) hc rfl (aC_of (fU_of (x := x) rfl hl) rfl) h0 h1
  obtain ⟨d, e1, e2⟩ := hg v a b
  exact ⟨d, c', fnB_rt (ρ := [.o (.box true c'), .s x]) rfl (sRt_of (fB_of (x := x) rfl e e1)) rfl (fl_form hc f), e2, f⟩
theorem at_in {α : Type} {xs : List α} {v : Int} (h0 : 0 ≤ v) (h1 : v < xs.length) : ∃ x, atI xs v = some x ∧ x ∈ xs := by
  have hl : v.toNat < xs.length := by omega
  refine ⟨xs[v.toNat], ?_, List.getElem_mem hl⟩
  have := at_nat (xs := xs) (i := v.toNat) (List.getElem?_eq_getElem hl)
  rw [Int.toNat_of_nonneg h0] at this
  exact this
theorem any_lst {c : BoxC} (hc : isFl c) {xs : List D} (h0 : xs ≠ []) (h1 : xs.length ≤ 1000) : ∃ d c', fnB 1 2 b_w_any_of c [.lst xs] = some (d, c') ∧ d ∈ xs ∧ isFl c' :=
  any_gen (x := .lst xs) hc rfl (by have := List.length_pos_iff.mpr h0; omega) (by omega) fun v a b => at_in a b
theorem any_tup {c : BoxC} (hc : isFl c) {xs : List D} (h0 : xs ≠ []) (h1 : xs.length ≤ 1000) : ∃ d c', fnB 1 2 b_w_any_of c [.tup xs] = some (d, c') ∧ d ∈ xs ∧ isFl c' :=
  any_gen (x := .tup xs) hc rfl (by have := List.length_pos_iff.mpr h0; omega) (by omega) fun v a b => at_in a b
theorem any_str {c : BoxC} (hc : isFl c) {r : List Nat} (h0 : r ≠ []) (h1 : r.length ≤ 1000) : ∃ d c', fnB 1 2 b_w_any_of c [.str (T r)] = some (d, c') ∧ (∃ a ∈ r, d = .str (T [a])) ∧ isFl c' :=
  any_gen (x := .str (T r)) hc rfl (by have := List.length_pos_iff.mpr h0; rw [T_len]; omega) (by rw [T_len]; omega) fun v a b => by
    rw [T_len] at b
    obtain ⟨x, e1, e2⟩ := at_in (xs := r) a b
    exact ⟨_, show Option.map _ (atI r v) = _ by rw [e1]; rfl, x, e2, rfl⟩
theorem perm_er {α : Type} : ∀ {l : List α} {i : Nat} (h : i < l.length), (l[i] :: l.eraseIdx i).Perm l
  | [], _, h => nomatch h
  | a :: l, 0, _ => List.Perm.refl _
  | a :: l, i + 1, h => by
    have ih := perm_er (l := l) (i := i) (by simpa using h)
    exact (List.Perm.swap _ _ _).trans (ih.cons a)
theorem shaken_ok {c : BoxC} (hc : isFl c) {xs : List D} (h1 : xs.length ≤ 1000) : ∃ ys c', fnB 1 5 b_w_shaken c [.lst xs] = some (.lst ys, c') ∧ ys.Perm xs ∧ isFl c' := by
  have hb := big
  have hi : iR1 (aC (fU lenD (pN 1)) aN) [.o (.box true c), .s (.lst xs), .o (.lst xs), .o (.lst []), .u] = some (rngD 0 xs.length, [.o (.box true c), .s (.lst xs), .o (.lst xs), .o (.lst []), .u]) := by
    exact iR1_of (aC_of (fU_of (x := .lst xs) (d := .int xs.length) rfl rfl) rfl) (by omega) (by omega)
  obtain ⟨ρ', e1, c', left, found, v4, hc', e2, e3, e4⟩ := sFor_rec (tg := gN 4) (b := sEx (fMuL appO 3 (aC (fMuL popAtO 2 (aC (fCaB lessF 0 (aC (fU lenD (pN 2)) aN)) aN)) aN)))
    (fun rest ρ => ∃ c' left found v4, isFl c' ∧ ρ = [.o (.box true c'), .s (.lst xs), .o (.lst left), .o (.lst found), v4] ∧ (left ++ found).Perm xs ∧ left.length = rest.length) hi ⟨c, xs, [], .u, hc, rfl, by simp, by simp [rngD]⟩ (fun x rest ρ h => by
      obtain ⟨c', left, found, v4, hc', rfl, hp, hl⟩ := h
      have hlen := hp.length_eq
      rw [List.length_append] at hlen
      rw [List.length_cons] at hl
      obtain ⟨v, c2, e, a, b, f⟩ := less_in (i := 0) (p := true) (ρ := [.o (.box true c'), .s (.lst xs), .o (.lst left), .o (.lst found), .s x]) (ga := aC (fU lenD (pN 2)) aN) (n := left.length) hc' rfl (aC_of (fU_of (x := .lst left) rfl rfl) rfl) (by omega) (by omega)
      have hv : v.toNat < left.length := by omega
      have hpop : popAtO left [.int v] = some (left[v.toNat], left.eraseIdx v.toNat) := by
        show (if 0 ≤ v ∧ v < left.length ∧ left.length ≤ 1000000 then Option.map _ left[v.toNat]? else none) = _
        rw [if_pos ⟨a, b, by omega⟩, List.getElem?_eq_getElem hv]; rfl
      have happ : appO found [left[v.toNat]] = some (.non, found ++ [left[v.toNat]]) := by
        show (if found.length < sizeLine then _ else _) = _
        rw [if_pos (by omega)]
      refine ⟨_, _, rfl, sEx_of (fMuL_of (ds := found) (ds0 := found) rfl (aC_of (fMuL_of (ds := left) (ds0 := left) rfl (aC_of e rfl) rfl hpop) rfl) rfl happ), c2, left.eraseIdx v.toNat, found ++ [left[v.toNat]], .s x, f, rfl, ?_, ?_⟩
      · have hp2 : left.Perm (left[v.toNat] :: left.eraseIdx v.toNat) := by
          exact (perm_er hv).symm
        refine List.Perm.trans ?_ hp
        have h3 : (left.eraseIdx v.toNat ++ (found ++ [left[v.toNat]])).Perm ((left[v.toNat] :: left.eraseIdx v.toNat) ++ found) := by
          rw [← List.append_assoc]
          exact List.perm_append_singleton _ _
        exact h3.trans (hp2.symm.append_right found)
      · rw [List.length_eraseIdx_of_lt hv]; omega)
  rw [List.length_nil] at e4
  have : left = [] := List.length_eq_zero_iff.mp e4
  subst this
  subst e2
  refine ⟨found, c', fnB_rt (ρ := [.o (.box true c'), .s (.lst xs), .o (.lst []), .s (.lst found), v4]) rfl ?_ rfl (fl_form hc hc'), by simpa using e3, hc'⟩
  refine sSeq_of (ρ1 := [.o (.box true c), .s (.lst xs), .o (.lst xs), .o (.lst []), .u]) ?_ (sSeq_of e1 rfl)
  rfl
def LT15 : List (List Nat) := [[97], [97, 98], [97, 98, 99], [97, 98, 122], [120], [120, 121], [120, 121, 122], [97, 109], [97, 109, 110], [98], [98, 99], [98, 99, 100]]
theorem letters_ok {c : BoxC} (hc : isFl c) : ∃ sg c', fnB 1 3 b_w_letters c [.int 3] = some (.str (T sg), c') ∧ sg ∈ LT15 ∧ isFl c' := by
  obtain ⟨z, c1, e1, hz, hc1⟩ := any_lst hc (xs := [.str "abc", .str "abz", .str "xyz", .str "amn", .str "bcd"]) (by simp) (by simp)
  obtain ⟨v, c2, e, a, b, f⟩ := less_in (i := 0) (p := true) (ρ := [.o (.box true c1), .s (.int 3), .s z]) (ga := aC (fN 1) aN) (n := 3) hc1 rfl (aC_of (x := .int 3) rfl rfl) (by omega) (by omega)
  have key : ∃ sg, slD z none (some (1 + v)) = some (.str (T sg)) ∧ sg ∈ LT15 := by
    have hv : v = 0 ∨ v = 1 ∨ v = 2 := by omega
    simp only [List.mem_cons, List.not_mem_nil, or_false] at hz
    rcases hz with rfl | rfl | rfl | rfl | rfl <;> rcases hv with rfl | rfl | rfl <;> exact ⟨_, rfl, by decide⟩
  obtain ⟨sg, e3, h3⟩ := key
  refine ⟨sg, c2, fnB_rt (ρ := [.o (.box true c2), .s (.int 3), .s z]) rfl ?_ rfl (fl_form hc f), h3, f⟩
  refine sSeq_of (ρ1 := [.o (.box true c1), .s (.int 3), .s z]) ((sSet_of (fCaB_of (p := true) (c := c) (ds := [.lst [.str "abc", .str "abz", .str "xyz", .str "amn", .str "bcd"]]) (ρ1 := startB c 3 [.int 3]) rfl rfl rfl e1)).trans rfl) ?_
  refine sRt_of ?_
  show (some (z, _)).bind _ = _
  show (oSo (fB addO (fC (.int 1)) (fCaB lessF 0 (aC (fN 1) aN))) [.o (.box true c1), .s (.int 3), .s z]).bind _ = _
  have e4 : oSo (fB addO (fC (.int 1)) (fCaB lessF 0 (aC (fN 1) aN))) [.o (.box true c1), .s (.int 3), .s z] = some (some (1 + v), [.o (.box true c2), .s (.int 3), .s z]) := by
    unfold oSo
    rw [fB_of (x := .int 1) rfl e (d := .int (1 + v)) rfl]
    rfl
  rw [e4]
  show Option.map _ (slD z none (some (1 + v))) = _
  rw [e3]; rfl
theorem line_ok {c : BoxC} (hc : isFl c) {sg : List Nat} (h0 : sg ≠ []) (h1 : sg.length ≤ 3) : ∃ r c', fnB 2 4 b_w_line c [.str (T sg), .int 9] = some (.str (T r), c') ∧ (∀ a ∈ r, a ∈ sg) ∧ r.length ≤ 9 ∧ isFl c' := by
  have hb := big
  obtain ⟨v, c2, e, a, b, f⟩ := less_in (i := 0) (p := true) (ρ := [.o (.box true c), .s (.str (T sg)), .s (.int 9), .u]) (ga := aC (fB addO (fN 2) (fC (.int 1))) aN) (n := 10) hc rfl (aC_of (fB_of (x := .int 9) (y := .int 1) rfl rfl rfl) rfl) (by omega) (by omega)
  have hi : iR1 (aC (fCaB lessF 0 (aC (fB addO (fN 2) (fC (.int 1))) aN)) aN) [.o (.box true c), .s (.str (T sg)), .s (.int 9), .u] = some (rngD 0 v, [.o (.box true c2), .s (.str (T sg)), .s (.int 9), .u]) := by
    unfold iR1
    rw [aC_of e (ρ2 := [.o (.box true c2), .s (.str (T sg)), .s (.int 9), .u]) (ds := []) rfl]
    show (if -(2 ^ 62) ≤ v ∧ v < 2 ^ 62 then _ else _) = _
    rw [if_pos ⟨by omega, by omega⟩]
  have hlen : (rngD 0 v).length ≤ 9 := by unfold rngD; rw [List.length_map, List.length_range]; omega
  obtain ⟨ds, E, e1, e2, e3, c3, hc3, rfl⟩ := fLC_inv (fg := gN 3) (us := [3]) (fe := fCaB (fnB 1 2 b_w_any_of) 0 (aC (fN 1) aN)) (fun E => ∃ c3, isFl c3 ∧ E = [.o (.box true c3), .s (.str (T sg)), .s (.int 9), .u]) (fun d => ∃ a ∈ sg, d = .str (T [a])) hi ⟨c2, f, rfl⟩ (by omega) (fun x hx E hE => by
    obtain ⟨c3, hc3, rfl⟩ := hE
    obtain ⟨d, c4, k1, k2, k3⟩ := any_str hc3 h0 (by omega)
    exact ⟨_, d, _, rfl, fCaB_of (p := true) (c := c3) rfl (aC_of (x := .str (T sg)) rfl rfl) rfl k1, k2, c4, k3, rfl⟩)
  have key : ∀ l : List D, (∀ d ∈ l, ∃ a ∈ sg, d = .str (T [a])) → ∃ r, l = chs r ∧ ∀ a ∈ r, a ∈ sg := fun l => by
    induction l with
    | nil => intro _; exact ⟨[], rfl, fun _ z => nomatch z⟩
    | cons d l ih =>
      intro h
      obtain ⟨a, ha, rfl⟩ := h d List.mem_cons_self
      obtain ⟨r, hr, hr2⟩ := ih fun d hd => h d (List.mem_cons_of_mem _ hd)
      exact ⟨a :: r, by rw [hr]; rfl, fun x hx => by rcases List.mem_cons.mp hx with q | q; exact q ▸ ha; exact hr2 x q⟩
  obtain ⟨r, rfl, hr⟩ := key ds e3
  have hrl : r.length ≤ 9 := by unfold chs at e2; rw [List.length_map] at e2; omega
  have hstr : ∀ r : List Nat, strsOf (chs r) = some (r.map fun a => T [a]) := fun r => by
    induction r with
    | nil => rfl
    | cons a r ih => show Option.map _ (strsOf (chs r)) = _; rw [ih]; rfl
  have sums : ∀ r : List Nat, ((r.map fun a => T [a]).map (·.length)).sum = r.length := fun r => by
    induction r with
    | nil => rfl
    | cons a r ih => rw [List.map_cons, List.map_cons, List.sum_cons, ih, T_len]; simp; omega
  have jn : Txt.join "" (r.map fun a => T [a]) = T r := by
    have j1 : ∀ r : List Nat, TL.joinL [] (r.map fun a => [a]) = r := fun r => by
      induction r with
      | nil => rfl
      | cons a r ih =>
        cases r with
        | nil => rfl
        | cons b r => show [a] ++ ([] ++ TL.joinL [] ((b :: r).map fun a => [a])) = _; rw [ih]; rfl
    have j2 := SX.join_S [] (r.map fun a => [a])
    rw [j1, List.map_map] at j2
    exact j2
  refine ⟨r, c3, fnB_rt (ρ := [.o (.box true c3), .s (.str (T sg)), .s (.int 9), .u]) rfl (sRt_of (fB_of (x := .str "") rfl e1 ?_)) rfl (fl_form hc hc3), hr, hrl, hc3⟩
  show (strsOf (chs r)).bind (fun ys => joinB "" ys) = _
  rw [hstr]
  show (if ((r.map fun a => T [a]).map (·.length)).sum + (r.map fun a => T [a]).length * (Str.length "") ≤ 16777216 then some (D.str (Txt.join "" (r.map fun a => T [a]))) else none) = _
  rw [if_pos (by rw [sums, List.length_map]; have : Str.length "" = 0 := rfl; rw [this]; omega), jn]
end K21
set_option autoImplicit false
namespace K21
open PySem PySem.Spec PyProof.Rows L2 AR VS
def five : List Str := ["no", "yes", "ma", "odd", "far"]
def unS : D → Str
  | .str x => x
  | _ => ""
theorem perm_strs {ys : List D} {ns : List Str} (h : ys.Perm (ns.map .str)) : ∃ ms : List Str, ys = ms.map .str ∧ ms.Perm ns := by
  refine ⟨ys.map unS, ?_, ?_⟩
  · rw [List.map_map]
    refine (Eq.trans (List.map_congr_left fun y hy => ?_) (List.map_id ys)).symm
    obtain ⟨n, _, rfl⟩ := List.mem_map.mp (h.mem_iff.mp hy)
    rfl
  · have := h.map unS
    rw [List.map_map] at this
    exact this.trans (by rw [show (unS ∘ D.str) = id from rfl, List.map_id])
def pk (m : Str) (c : Nat) : D := .tup [.str m, .str (T [c])]
def Pt (ms : List Str) (ks vs : List D) (m : Str) (c : Nat) : Prop := ∃ x ∈ ms, dval ks vs (pk m c) = some (.str x)
theorem Pt.put {ms : List Str} {ks vs : List D} {m m' : Str} {c c' : Nat} {x : Str} (hl : ks.length = vs.length) (hx : x ∈ ms) (h : Pt ms ks vs m c) : Pt ms (dputK ks (pk m' c')) (dputV ks vs (pk m' c') (.str x)) m c := by
  by_cases e : pk m c = pk m' c'
  · refine ⟨x, hx, ?_⟩
    rw [e]; exact dval_put hl
  · obtain ⟨y, h1, h2⟩ := h
    exact ⟨y, h1, by rw [dval_put_ne hl e]; exact h2⟩
theorem put_pk {ks vs : List D} {m : Str} {c : Nat} {v : D} (h : ks.length < 1000) : putSl 1 ks vs (pk m c) v = some (.dct 1 (dputK ks (pk m c)) (dputV ks vs (pk m c) v)) := by
  have := big
  show (if ks.length < sizeLine then Option.map _ (keyTOf (pk m c)) else none) = _
  rw [if_pos (by omega)]; rfl
abbrev EF (c : BoxC) (sg : List Nat) (most : Int) (ms : List Str) (ks vs : List D) (f : Int) (v6 v7 v8 v9 : Sl) : En := [.o (.box true c), .s (.str (T sg)), .s (.int most), .s (.lst (ms.map .str)), .o (.dct 1 ks vs), .s (.int f), v6, v7, v8, v9]
section
variable {sg : List Nat} {ms : List Str} {most f : Int}
def inG : FS := (sPut 4 (fAp mkT (aC (fN 6) (aC (fN 7) aN))) (fCaB (fnB 1 2 b_w_any_of) 0 (aC (fN 3) aN)))
theorem inG_ok (h0 : ms ≠ []) (hl : ms.length ≤ 4) {c : BoxC} (hc : isFl c) {ks vs : List D} (hk : ks.length = vs.length) (hk2 : ks.length < 1000) (m : Str) (a : Nat) (v8 v9 : Sl) : ∃ c' x, isFl c' ∧ x ∈ ms ∧ inG (EF c sg most ms ks vs f (.s (.str m)) (.s (.str (T [a]))) v8 v9) = some (.nx (EF c' sg most ms (dputK ks (pk m a)) (dputV ks vs (pk m a) (.str x)) f (.s (.str m)) (.s (.str (T [a]))) v8 v9)) := by
  obtain ⟨d, c', e1, e2, e3⟩ := any_lst hc (xs := ms.map .str) (by simpa using h0) (by rw [List.length_map]; omega)
  obtain ⟨x, hx, rfl⟩ := List.mem_map.mp e2
  refine ⟨c', x, e3, hx, ?_⟩
  exact sPut_of (t := 1) (ks := ks) (vs := vs) (ρ1 := EF c' sg most ms ks vs f (.s (.str m)) (.s (.str (T [a]))) v8 v9) (ρ2 := EF c' sg most ms ks vs f (.s (.str m)) (.s (.str (T [a]))) v8 v9) ((fCaB_of (p := true) (c := c) (ρ := EF c sg most ms ks vs f (.s (.str m)) (.s (.str (T [a]))) v8 v9) (ρ1 := EF c sg most ms ks vs f (.s (.str m)) (.s (.str (T [a]))) v8 v9) rfl (aC_of (x := .lst (ms.map .str)) rfl rfl) rfl e1).trans rfl) rfl (fAp_of (aC_of (x := .str m) rfl (aC_of (x := .str (T [a])) rfl rfl)) (d := pk m a) rfl) rfl (put_pk hk2)
theorem goes_in (h0 : ms ≠ []) (hl : ms.length ≤ 4) {c : BoxC} (hc : isFl c) {ks vs : List D} (hk : ks.length = vs.length) {B : Nat} (hk2 : ks.length + sg.length ≤ B) (hB : B ≤ 900) (m : Str) (v7 v8 v9 : Sl) :
    ∃ c' ks' vs' v7', isFl c' ∧ ks'.length = vs'.length ∧ ks'.length ≤ B ∧ (∀ m' a, Pt ms ks vs m' a → Pt ms ks' vs' m' a) ∧ (∀ a ∈ sg, Pt ms ks' vs' m a) ∧ sFor (iS (fN 1)) (gN 7) inG (EF c sg most ms ks vs f (.s (.str m)) v7 v8 v9) = some (.nx (EF c' sg most ms ks' vs' f (.s (.str m)) v7' v8 v9)) := by
  obtain ⟨ρ', e1, done, rest', c', ks', vs', v7', h1, h2, h3, h4, h5, h6, h7, rfl⟩ := sFor_rec (fi := iS (fN 1)) (tg := gN 7) (b := inG) (ρ := EF c sg most ms ks vs f (.s (.str m)) v7 v8 v9)
    (fun rest ρ => ∃ done rest' c' ks' vs' v7', rest = chs rest' ∧ sg = done ++ rest' ∧ isFl c' ∧ ks'.length = vs'.length ∧ ks'.length + rest'.length ≤ B ∧ (∀ m' a, Pt ms ks vs m' a → Pt ms ks' vs' m' a) ∧ (∀ a ∈ done, Pt ms ks' vs' m a) ∧ ρ = EF c' sg most ms ks' vs' f (.s (.str m)) v7' v8 v9)
    (iS_of (x := .str (T sg)) rfl (congrArg some (chD_T sg))) ⟨[], sg, c, ks, vs, v7, rfl, rfl, hc, hk, hk2, fun _ _ h => h, (fun _ h => nomatch h), rfl⟩ (fun x xs ρ h => by
      obtain ⟨done, rest', c', ks', vs', v7', h1, h2, h3, h4, h5, h6, h7, rfl⟩ := h
      cases rest' with
      | nil => cases h1
      | cons a rest' =>
        have hc : x = .str (T [a]) ∧ xs = chs rest' := by injection h1 with a b; exact ⟨a, b⟩
        obtain ⟨rfl, rfl⟩ := hc
        rw [List.length_cons] at h5
        obtain ⟨c2, y, k1, k2, k3⟩ := inG_ok (sg := sg) (most := most) (f := f) h0 hl h3 h4 (by omega) m a v8 v9
        refine ⟨EF c' sg most ms ks' vs' f (.s (.str m)) (.s (.str (T [a]))) v8 v9, _, rfl, k3, done ++ [a], rest', c2, _, _, .s (.str (T [a])), rfl, by rw [h2]; simp, k1, dput_len h4, by have := dputK_len (ks := ks') (k := pk m a); omega, fun m' a' h => (h6 m' a' h).put h4 k2, fun a' ha => ?_, rfl⟩
        rcases List.mem_append.mp ha with q | q
        · exact (h7 a' q).put h4 k2
        · rw [List.mem_singleton.mp q]
          exact ⟨y, k2, dval_put h4⟩)
  have : rest' = [] := by cases rest' with | nil => rfl | cons => cases h1
  subst this
  rw [List.append_nil] at h2
  exact ⟨c', ks', vs', v7', h3, h4, by simpa using h5, h6, by rw [h2]; exact h7, e1⟩
theorem goes_ok (h0 : ms ≠ []) (hl : ms.length ≤ 4) (hs : sg.length ≤ 3) {c : BoxC} (hc : isFl c) (v6 v7 v8 v9 : Sl) :
    ∃ c' ks vs v6' v7', isFl c' ∧ ks.length = vs.length ∧ ks.length ≤ 100 ∧ (∀ m ∈ ms, ∀ a ∈ sg, Pt ms ks vs m a) ∧ sFor (iS (fN 3)) (gN 6) (sFor (iS (fN 1)) (gN 7) inG) (EF c sg most ms [] [] f v6 v7 v8 v9) = some (.nx (EF c' sg most ms ks vs f v6' v7' v8 v9)) := by
  obtain ⟨ρ', e1, done, rest', c', ks', vs', v6', v7', h1, h2, h3, h4, h5, h6, rfl⟩ := sFor_rec (fi := iS (fN 3)) (tg := gN 6) (b := sFor (iS (fN 1)) (gN 7) inG) (ρ := EF c sg most ms [] [] f v6 v7 v8 v9)
    (fun rest ρ => ∃ (done rest' : List Str) (c' : BoxC) (ks' vs' : List D) (v6' v7' : Sl), rest = rest'.map .str ∧ ms = done ++ rest' ∧ isFl c' ∧ ks'.length = vs'.length ∧ ks'.length + 3 * rest'.length ≤ 50 ∧ (∀ m ∈ done, ∀ a ∈ sg, Pt ms ks' vs' m a) ∧ ρ = EF c' sg most ms ks' vs' f v6' v7' v8 v9)
    (iS_of (x := .lst (ms.map .str)) rfl rfl) ⟨[], ms, c, [], [], v6, v7, rfl, rfl, hc, rfl, by simp; omega, (fun _ h => nomatch h), rfl⟩ (fun x xs ρ h => by
      obtain ⟨done, rest', c', ks', vs', v6', v7', h1, h2, h3, h4, h5, h6, rfl⟩ := h
      cases rest' with
      | nil => cases h1
      | cons m rest' =>
        have hc : x = .str m ∧ xs = rest'.map .str := by injection h1 with a b; exact ⟨a, b⟩
        obtain ⟨rfl, rfl⟩ := hc
        rw [List.length_cons] at h5
        obtain ⟨c2, k2, w2, u7, k3, k4, k5, k6, k7, k8⟩ := goes_in (sg := sg) (most := most) (f := f) h0 hl h3 h4 (B := ks'.length + sg.length) (Nat.le_refl _) (by omega) m v7' v8 v9
        refine ⟨EF c' sg most ms ks' vs' f (.s (.str m)) v7' v8 v9, _, rfl, k8, done ++ [m], rest', c2, k2, w2, .s (.str m), u7, rfl, by rw [h2]; simp, k3, k4, by omega, fun m' hm => ?_, rfl⟩
        rcases List.mem_append.mp hm with q | q
        · exact fun a ha => k6 m' a (h6 m' q a ha)
        · rw [List.mem_singleton.mp q]; exact k7)
  have : rest' = [] := by cases rest' with | nil => rfl | cons => cases h1
  subst this
  rw [List.append_nil] at h2
  exact ⟨c', ks', vs', v6', v7', h3, h4, by omega, by rw [h2]; rw [h2] at h6; exact h6, e1⟩
def inT : FS := (sPut 4 (fAp mkT (aC (fN 6) (aC (fB getD (fN 1) (fC (.int 0))) aN))) (fN 9))
theorem turn_ok {s0 : Nat} {sg' : List Nat} (hsg : sg = s0 :: sg') {tn : List Str} (ht : ∀ x ∈ tn, x ∈ ms) (hl : ms.length ≤ 4) {c : BoxC} {ks vs : List D} (hk : ks.length = vs.length) (hk2 : ks.length ≤ 100) (v6 v7 v9 : Sl) :
    ∃ ks' vs' v6' v9', ks'.length = vs'.length ∧ (∀ m' a, Pt ms ks vs m' a → Pt ms ks' vs' m' a) ∧ sFor (iZp (aC (fN 3) (aC (fN 8) aN))) (gTu 2 (gCo (gN 6) (gCo (gN 9) gNi))) inT (EF c sg most ms ks vs f v6 v7 (.s (.lst (tn.map .str))) v9) = some (.nx (EF c sg most ms ks' vs' f v6' v7 (.s (.lst (tn.map .str))) v9')) := by
  have hz : zipD (ms.map .str) (tn.map .str) = (ms.zip tn).map fun p => D.tup [.str p.1, .str p.2] := by
    unfold zipD
    rw [List.zipWith_map_left, List.zipWith_map_right, List.zip, List.map_zipWith]
  have hzl : (ms.zip tn).length ≤ 4 := by rw [List.length_zip]; omega
  obtain ⟨ρ', e1, done, rest', ks', vs', v6', v9', h1, h2, h4, h5, h6, rfl⟩ := sFor_rec (fi := iZp (aC (fN 3) (aC (fN 8) aN))) (tg := gTu 2 (gCo (gN 6) (gCo (gN 9) gNi))) (b := inT) (ρ := EF c sg most ms ks vs f v6 v7 (.s (.lst (tn.map .str))) v9) (xs := (ms.zip tn).map fun p => D.tup [.str p.1, .str p.2])
    (fun rest ρ => ∃ (done rest' : List (Str × Str)) (ks' vs' : List D) (v6' v9' : Sl), rest = rest'.map (fun p => D.tup [.str p.1, .str p.2]) ∧ ms.zip tn = done ++ rest' ∧ ks'.length = vs'.length ∧ ks'.length + rest'.length ≤ 200 ∧ (∀ m' a, Pt ms ks vs m' a → Pt ms ks' vs' m' a) ∧ ρ = EF c sg most ms ks' vs' f v6' v7 (.s (.lst (tn.map .str))) v9')
    (ρ0 := EF c sg most ms ks vs f v6 v7 (.s (.lst (tn.map .str))) v9) (by
      show some (zipD (ms.map .str) (tn.map .str), _) = _
      rw [hz]) ⟨[], ms.zip tn, ks, vs, v6, v9, rfl, rfl, hk, by omega, fun _ _ h => h, rfl⟩ (fun x xs ρ h => by
      obtain ⟨done, rest', ks', vs', v6', v9', h1, h2, h4, h5, h6, rfl⟩ := h
      cases rest' with
      | nil => cases h1
      | cons p rest' =>
        have hc : x = D.tup [.str p.1, .str p.2] ∧ xs = rest'.map (fun p => D.tup [.str p.1, .str p.2]) := by injection h1 with a b; exact ⟨a, b⟩
        obtain ⟨rfl, rfl⟩ := hc
        rw [List.length_cons] at h5
        have hp : p.2 ∈ ms := ht p.2 (List.of_mem_zip (show (p.1, p.2) ∈ ms.zip tn by rw [h2]; simp)).2
        refine ⟨EF c sg most ms ks' vs' f (.s (.str p.1)) v7 (.s (.lst (tn.map .str))) (.s (.str p.2)), _, rfl, sPut_of (t := 1) (ks := ks') (vs := vs') (v := .str p.2) rfl rfl (fAp_of (aC_of (x := .str p.1) rfl (aC_of (fB_of (x := .str (T sg)) (y := .int 0) (d := .str (T [s0])) rfl rfl ?_) rfl)) (d := pk p.1 s0) rfl) rfl (put_pk (by omega)), done ++ [p], rest', _, _, .s (.str p.1), .s (.str p.2), rfl, by rw [h2]; simp, dput_len h4, by have := dputK_len (ks := ks') (k := pk p.1 s0); omega, fun m' a h => (h6 m' a h).put h4 hp, rfl⟩
        rw [hsg]
        show Option.map (fun c => D.str ⟨#[c]⟩) (atI (s0 :: sg') ((0 : Nat) : Int)) = _
        rw [at_nat (x := s0) rfl]; rfl)
  exact ⟨ks', vs', v6', v9', h4, h6, e1⟩
end
end K21
set_option autoImplicit false
namespace K21
open PySem PySem.Spec PyProof.Rows L2 AR VS
def fiveA : FA := (aC (fC (.str "no")) (aC (fC (.str "yes")) (aC (fC (.str "ma")) (aC (fC (.str "odd")) (aC (fC (.str "far")) aN)))))
theorem eq_int (i j : Int) : eqO (.int i) (.int j) = some (.bl (i == j)) := by
  show some (D.bl (PyData.eqv (.int i) (.int j))) = _
  simp [PyData.eqv]
theorem five_nd : five.Nodup := by decide
theorem marks_drawn {ns : List Str} (h : ns.Perm five) {v : Int} (h0 : 0 ≤ v) (h1 : v < 4) : cutL ns none (some (1 + v)) ≠ [] ∧ (cutL ns none (some (1 + v))).length ≤ 4 ∧ (cutL ns none (some (1 + v))).Nodup ∧ ∀ m ∈ cutL ns none (some (1 + v)), m ∈ five := by
  have hl : ns.length = 5 := h.length_eq
  have e : cutL ns none (some (1 + v)) = ns.take (1 + v).toNat := by
    show (ns.drop 0).take ((if 1 + v < 0 then (1 + v + (ns.length : Int)).toNat else min (1 + v).toNat ns.length) - 0) = _
    rw [if_neg (by omega), List.drop_zero, Nat.sub_zero, Nat.min_eq_left (by omega)]
  rw [e]
  refine ⟨fun z => ?_, ?_, ?_, fun m hm => h.mem_iff.mp (List.mem_of_mem_take hm)⟩
  · have := congrArg List.length z
    rw [List.length_take, List.length_nil] at this
    omega
  · rw [List.length_take]; omega
  · exact ((h.nodup_iff).mpr five_nd).sublist (List.take_sublist _ _)
theorem draft_ok {c : BoxC} (hc : isFl c) {sg : List Nat} {s0 : Nat} {sg' : List Nat} (hsg : sg = s0 :: sg') (hs : sg.length ≤ 3) {most : Int} (h1 : 1 ≤ most) (h4 : most ≤ 4) :
    ∃ ms fi ks vs c', fnB 2 10 b_w_draft c [.str (T sg), .int most] = some (dr ms (.str fi) ks vs, c') ∧ isFl c' ∧ ms ≠ [] ∧ ms.length ≤ 4 ∧ ms.Nodup ∧ (∀ m ∈ ms, m ∈ five) ∧ fi ∈ ms ∧ ∀ m ∈ ms, ∀ a ∈ sg, Pt ms ks vs m a := by
  have hb := big
  obtain ⟨ys, c1, e1, p1, hc1⟩ := shaken_ok hc (xs := five.map .str) (by decide)
  obtain ⟨ns, rfl, pn⟩ := perm_strs p1
  obtain ⟨v, c2, e2, a2, b2, hc2⟩ := less_in (i := 0) (p := true) (ρ := [.o (.box true c1), .s (.str (T sg)), .s (.int most), .u, .u, .u, .u, .u, .u, .u]) (ga := aC (fN 2) aN) (n := most) hc1 rfl (aC_of (x := .int most) rfl rfl) (by omega) (by omega)
  obtain ⟨m0, ml, mn, mf⟩ := marks_drawn pn a2 (by omega)
  have em : cutL (ns.map D.str) none (some (1 + v)) = (cutL ns none (some (1 + v))).map D.str := by
    unfold cutL
    rw [List.map_take, List.map_drop, List.length_map]
  generalize cutL ns none (some (1 + v)) = ms at m0 ml mn mf em
  obtain ⟨f, c3, e3, a3, b3, hc3⟩ := less_in (i := 0) (p := true) (ρ := [.o (.box true c2), .s (.str (T sg)), .s (.int most), .s (.lst (ms.map .str)), .u, .u, .u, .u, .u, .u]) (ga := aC (fC (.int 4)) aN) (n := 4) hc2 rfl rfl (by omega) (by omega)
  obtain ⟨c4, ks, vs, v6, v7, hc4, hk, hk2, hpt, e4⟩ := goes_ok (sg := sg) (most := most) (f := f) m0 ml hs hc3 .u .u .u .u
  have s1 : sSet 3 (fSl (fCaB (fnB 1 5 b_w_shaken) 0 (aC (fAp mkL fiveA) aN)) oNo (oSo (fB addO (fC (.int 1)) (fCaB lessF 0 (aC (fN 2) aN))))) (startB c 10 [.str (T sg), .int most]) = some (.nx [.o (.box true c2), .s (.str (T sg)), .s (.int most), .s (.lst (ms.map .str)), .u, .u, .u, .u, .u, .u]) := by
    refine (sSet_of (d := .lst (ms.map .str)) (ρ1 := [.o (.box true c2), .s (.str (T sg)), .s (.int most), .u, .u, .u, .u, .u, .u, .u]) ?_).trans rfl
    unfold fSl
    rw [fCaB_of (p := true) (c := c) (ρ := startB c 10 [.str (T sg), .int most]) (ρ1 := startB c 10 [.str (T sg), .int most]) (ds := [.lst (five.map .str)]) rfl rfl rfl e1]
    show (oSo (fB addO (fC (.int 1)) (fCaB lessF 0 (aC (fN 2) aN))) [.o (.box true c1), .s (.str (T sg)), .s (.int most), .u, .u, .u, .u, .u, .u, .u]).bind _ = _
    have e5 : oSo (fB addO (fC (.int 1)) (fCaB lessF 0 (aC (fN 2) aN))) [.o (.box true c1), .s (.str (T sg)), .s (.int most), .u, .u, .u, .u, .u, .u, .u] = some (some (1 + v), [.o (.box true c2), .s (.str (T sg)), .s (.int most), .u, .u, .u, .u, .u, .u, .u]) := by
      unfold oSo
      rw [fB_of (x := .int 1) rfl e2 (d := .int (1 + v)) rfl]
      rfl
    rw [e5]
    show some (D.lst (cutL (ns.map D.str) none (some (1 + v))), _) = _
    rw [em]
  have s2 : sPar 4 5 true false (fC (.dct 1 [] [])) (fCaB lessF 0 (aC (fC (.int 4)) aN)) [.o (.box true c2), .s (.str (T sg)), .s (.int most), .s (.lst (ms.map .str)), .u, .u, .u, .u, .u, .u] = some (.nx (EF c3 sg most ms [] [] f .u .u .u .u)) := by
    refine (sPar_of (x := .dct 1 [] []) rfl e3).trans rfl
  have s4 : ∃ c5 ks' vs' w6 w8 w9, isFl c5 ∧ (∀ m ∈ ms, ∀ a ∈ sg, Pt ms ks' vs' m a) ∧ sIf (tF blD (fB eqO (fN 5) (fC (.int 0)))) (sSeq (sSet 8 (fCaB (fnB 1 5 b_w_shaken) 0 (aC (fN 3) aN))) (sFor (iZp (aC (fN 3) (aC (fN 8) aN))) (gTu 2 (gCo (gN 6) (gCo (gN 9) gNi))) inT)) sNx (EF c4 sg most ms ks vs f v6 v7 .u .u) = some (.nx (EF c5 sg most ms ks' vs' f w6 v7 w8 w9)) := by
    by_cases hf : f = 0
    · obtain ⟨zs, c5, e5, p5, hc5⟩ := shaken_ok hc4 (xs := ms.map .str) (by rw [List.length_map]; omega)
      obtain ⟨tn, rfl, pt⟩ := perm_strs p5
      obtain ⟨ks', vs', w6, w9, k1, k2, k3⟩ := turn_ok (sg := sg) (most := most) (f := f) (c := c5) hsg (fun x hx => pt.mem_iff.mp hx) ml hk hk2 v6 v7 .u
      refine ⟨c5, ks', vs', w6, .s (.lst (tn.map .str)), w9, hc5, fun m hm a ha => k2 m a (hpt m hm a ha), ?_⟩
      refine (sIf_t (ρ1 := EF c4 sg most ms ks vs f v6 v7 .u .u) (tF_of (fB_of (x := .int f) (y := .int 0) rfl rfl (eq_int _ _)) ?_)).trans ?_
      · rw [hf]; rfl
      · refine sSeq_of (ρ1 := EF c5 sg most ms ks vs f v6 v7 (.s (.lst (tn.map .str))) .u) ((sSet_of (fCaB_of (p := true) (c := c4) (ρ := EF c4 sg most ms ks vs f v6 v7 .u .u) (ρ1 := EF c4 sg most ms ks vs f v6 v7 .u .u) rfl (aC_of (x := .lst (ms.map .str)) rfl rfl) rfl e5)).trans rfl) k3
    · refine ⟨c4, ks, vs, v6, .u, .u, hc4, hpt, ?_⟩
      refine (sIf_f (ρ1 := EF c4 sg most ms ks vs f v6 v7 .u .u) (tF_of (fB_of (x := .int f) (y := .int 0) rfl rfl (eq_int _ _)) ?_)).trans rfl
      show some (f == 0) = _
      rw [beq_false_of_ne hf]
  obtain ⟨c5, ks', vs', w6, w8, w9, hc5, hpt', e5⟩ := s4
  obtain ⟨d, c6, e6, d6, hc6⟩ := any_lst hc5 (xs := ms.map .str) (by simpa using m0) (by rw [List.length_map]; omega)
  obtain ⟨fi, hfi, rfl⟩ := List.mem_map.mp d6
  refine ⟨ms, fi, ks', vs', c6, fnB_rt (ρ := [.o (.box true c6), .s (.str (T sg)), .s (.int most), .s (.lst (ms.map .str)), .s (.dct 1 ks' vs'), .s (.int f), w6, v7, w8, w9]) rfl ?_ rfl (fl_form hc hc6), hc6, m0, ml, mn, mf, hfi, hpt'⟩
  refine sSeq_of s1 (sSeq_of s2 (sSeq_of e4 (sSeq_of e5 ?_)))
  refine sRt_of (fAp_of (aC_of (fU_of (x := .lst (ms.map .str)) (d := mS ms) rfl rfl) (aC_of (fCaB_of (p := true) (c := c5) (ρ := EF c5 sg most ms ks' vs' f w6 v7 w8 w9) (ρ1 := EF c5 sg most ms ks' vs' f w6 v7 w8 w9) rfl (aC_of (x := .lst (ms.map .str)) rfl rfl) rfl e6) (aC_of (x := .dct 1 ks' vs') rfl rfl))) rfl)
end K21
set_option autoImplicit false
namespace K21
open PySem PySem.Spec PyProof.Rows L2 AR VS
/-! ### readers made -/
theorem signs_ok : ∀ sg ∈ LT15, fnD 1 4 b_are_signs [.str (T sg)] = some (.bl true) := by decide +kernel
theorem name_ok : ∀ m ∈ five, fnD 1 1 b_is_name [.str m] = some (.bl true) := by decide +kernel
theorem isL (xs : List D) : isO2 "list" "tuple" (.lst xs) = some (.bl true) := by
  have h : kitB "list" "list" = some true := by decide +kernel
  unfold isO2
  simp only [tyN, Option.bind_some, h]
  rfl
theorem isS (x : Str) : isO "str" (.str x) = some (.bl true) := by
  have h : kitB "str" "str" = some true := by decide +kernel
  show Option.map _ (kitB "str" "str") = _
  rw [h]; rfl
theorem seq_ok (xs : List D) : fnD 1 1 b_is_sequence [.lst xs] = some (.bl true) := fnD_rt (ρ := [.s (.lst xs)]) rfl (sRt_of (fU_of (x := .lst xs) rfl (isL xs)))
section
variable {sg : List Nat} {ms : List Str} {go : Str → Nat → Str} {fi : Str}
theorem marks_ok (h0 : ms ≠ []) (hl : ms.length ≤ 4) (nd : ms.Nodup) (hf : ∀ m ∈ ms, m ∈ five) : fnD 1 2 b_are_marks [.lst (ms.map .str)] = some (.bl true) := by
  have hb := big
  have hp := List.length_pos_iff.mpr h0
  refine fnD_rt (ρ := [.s (.lst (ms.map .str)), .u]) rfl ?_
  refine sSeq_of (ρ1 := [.s (.lst (ms.map .str)), .u]) ?_ ?_
  · refine (sIf_f (ρ1 := [.s (.lst (ms.map .str)), .u]) ?_).trans rfl
    refine (cOr_f (ρ1 := [.s (.lst (ms.map .str)), .u]) (cNot_of (b := true) (tF_of (fAp_of (aC_of (x := .lst (ms.map .str)) rfl rfl) (seq_ok _)) rfl))).trans ?_
    refine (cOr_f (ρ1 := [.s (.lst (ms.map .str)), .u]) (tF_of (fB_of (fU_of (x := .lst (ms.map .str)) (d := .int ms.length) rfl ?_) (y := .int 0) rfl (eq_int _ _)) ?_)).trans ?_
    · show some (D.int (ms.map D.str).length) = _
      rw [List.length_map]
    · show some (((ms.length : Nat) : Int) == 0) = _
      rw [beq_false_of_ne (by omega)]
    · refine cNot_of (b := true) (tF_of (fU_of (fLC_map (E0 := [.s (.lst (ms.map .str)), .u]) (fun _ => .bl true) (iS_of (x := .lst (ms.map .str)) rfl rfl) rfl (by rw [List.length_map]; omega) fun x hx => ?_) (all_true _)) rfl)
      obtain ⟨m, hm, rfl⟩ := List.mem_map.mp hx
      exact ⟨_, _, rfl, fAp_of (aC_of (x := .str m) rfl rfl) (name_ok m (hf m hm)), rfl⟩
  · refine sRt_of (fB_of (fU_of (d := .int ms.length) (fDC_map (E0 := [.s (.lst (ms.map .str)), .u]) (fun x => x) (fun _ => .bl true) (iS_of (x := .lst (ms.map .str)) rfl rfl) rfl (fun x hx => ?_) (by rw [List.map_id']; exact nodup_strs nd) (by rw [List.length_map]; omega)) ?_) (fU_of (x := .lst (ms.map .str)) (d := .int ms.length) rfl ?_) ?_)
    · obtain ⟨m, hm, rfl⟩ := List.mem_map.mp hx
      exact ⟨_, _, _, rfl, rfl, rfl, rfl, rfl⟩
    · show some (D.int (List.map (fun x => x) (ms.map D.str)).length) = _
      rw [List.length_map, List.length_map]
    · show some (D.int (ms.map D.str).length) = _
      rw [List.length_map]
    · rw [eq_int]; simp
def stD (sg : List Nat) (ms : List Str) (go : Str → Nat → Str) : List D := ms.map fun m => .lst (sg.map fun c => .str (go m c))
def inS : FS := (sSeq (sIf (cOr (cNot (tF blD (fAp (fnD 1 1 b_is_sequence) (aC (fN 3) aN)))) (tF blD (fB neO (fU lenD (pN 3)) (fU lenD (pN 0))))) (sRt (fC (.bl false))) sNx)
      (sIf (cNot (tF blD (fU allO (fLC [4] (iS (fN 3)) (gN 4) cYes (fAnd (fU (isO "str") (pN 4)) (fB inO (fN 4) (pN 1))))))) (sRt (fC (.bl false))) sNx))
theorem steps_ok (R : RD sg ms go) : fnD 3 5 b_are_steps [.str (T sg), .lst (ms.map .str), .lst (stD sg ms go)] = some (.bl true) := by
  have hb := big
  have h1 := R.l1
  have h2 := R.l2
  obtain ⟨ρ', e1, rest', v3, k1, k2, rfl⟩ := sFor_rec (fi := iS (fN 2)) (tg := gN 3) (b := inS) (ρ := [.s (.str (T sg)), .s (.lst (ms.map .str)), .s (.lst (stD sg ms go)), .u, .u]) (xs := stD sg ms go) (ρ0 := [.s (.str (T sg)), .s (.lst (ms.map .str)), .s (.lst (stD sg ms go)), .u, .u])
    (fun rest ρ => ∃ (rest' : List Str) (v3 : Sl), rest = stD sg rest' go ∧ (∀ m ∈ rest', m ∈ ms) ∧ ρ = [.s (.str (T sg)), .s (.lst (ms.map .str)), .s (.lst (stD sg ms go)), v3, .u]) (iS_of (x := .lst (stD sg ms go)) rfl rfl) ⟨ms, .u, rfl, fun _ h => h, rfl⟩ (fun x xs ρ h => by
      obtain ⟨rest', v3, k1, k2, rfl⟩ := h
      cases rest' with
      | nil => cases k1
      | cons m rest' =>
        have hc : x = .lst (sg.map fun c => .str (go m c)) ∧ xs = stD sg rest' go := by injection k1 with a b; exact ⟨a, b⟩
        obtain ⟨rfl, rfl⟩ := hc
        generalize hrow : (sg.map fun c => D.str (go m c)) = row
        have hrl : row.length = sg.length := by rw [← hrow, List.length_map]
        refine ⟨[.s (.str (T sg)), .s (.lst (ms.map .str)), .s (.lst (stD sg ms go)), .s (.lst row), .u], _, rfl, ?_, rest', .s (.lst row), rfl, fun m hm => k2 m (List.mem_cons_of_mem _ hm), rfl⟩
        refine sSeq_of (ρ1 := [.s (.str (T sg)), .s (.lst (ms.map .str)), .s (.lst (stD sg ms go)), .s (.lst row), .u]) ?_ ?_
        · refine (sIf_f (ρ1 := [.s (.str (T sg)), .s (.lst (ms.map .str)), .s (.lst (stD sg ms go)), .s (.lst row), .u]) ?_).trans rfl
          refine (cOr_f (ρ1 := [.s (.str (T sg)), .s (.lst (ms.map .str)), .s (.lst (stD sg ms go)), .s (.lst row), .u]) (cNot_of (b := true) (tF_of (fAp_of (aC_of (x := .lst row) rfl rfl) (seq_ok _)) rfl))).trans ?_
          refine tF_of (fB_of (fU_of (x := .lst row) (d := .int row.length) rfl rfl) (fU_of (x := .str (T sg)) (d := .int (T sg).length) rfl rfl) (ne_int _ _)) ?_
          rw [T_len, hrl]; simp [blD]
        · refine (sIf_f (ρ1 := [.s (.str (T sg)), .s (.lst (ms.map .str)), .s (.lst (stD sg ms go)), .s (.lst row), .u]) ?_).trans rfl
          refine cNot_of (b := true) (tF_of (fU_of (fLC_map (E0 := [.s (.str (T sg)), .s (.lst (ms.map .str)), .s (.lst (stD sg ms go)), .s (.lst row), .u]) (fun _ => .bl true) (iS_of (x := .lst row) rfl rfl) rfl (by omega) fun x hx => ?_) (all_true _)) rfl)
          rw [← hrow] at hx
          obtain ⟨c, hcs, rfl⟩ := List.mem_map.mp hx
          refine ⟨[.s (.str (T sg)), .s (.lst (ms.map .str)), .s (.lst (stD sg ms go)), .s (.lst row), .s (.str (go m c))], [.s (.str (T sg)), .s (.lst (ms.map .str)), .s (.lst (stD sg ms go)), .s (.lst row), .s (.str (go m c))], rfl, ?_, rfl⟩
          unfold fAnd
          rw [fU_of (x := .str (go m c)) (ρ1 := [.s (.str (T sg)), .s (.lst (ms.map .str)), .s (.lst (stD sg ms go)), .s (.lst row), .s (.str (go m c))]) rfl (isS _)]
          show fB inO (fN 4) (pN 1) [.s (.str (T sg)), .s (.lst (ms.map .str)), .s (.lst (stD sg ms go)), .s (.lst row), .s (.str (go m c))] = _
          refine fB_of (x := .str (go m c)) (y := .lst (ms.map .str)) (ρ1 := [.s (.str (T sg)), .s (.lst (ms.map .str)), .s (.lst (stD sg ms go)), .s (.lst row), .s (.str (go m c))]) rfl rfl ?_
          unfold inO
          rw [in_strs (R.gi m (k2 m List.mem_cons_self) c hcs)]; rfl)
  refine fnD_rt (ρ := [.s (.str (T sg)), .s (.lst (ms.map .str)), .s (.lst (stD sg ms go)), v3, .u]) rfl ?_
  refine sSeq_of (ρ1 := [.s (.str (T sg)), .s (.lst (ms.map .str)), .s (.lst (stD sg ms go)), .u, .u]) ?_ (sSeq_of e1 rfl)
  refine (sIf_f (ρ1 := [.s (.str (T sg)), .s (.lst (ms.map .str)), .s (.lst (stD sg ms go)), .u, .u]) ?_).trans rfl
  refine (cOr_f (ρ1 := [.s (.str (T sg)), .s (.lst (ms.map .str)), .s (.lst (stD sg ms go)), .u, .u]) (cNot_of (b := true) (tF_of (fAp_of (aC_of (x := .lst (stD sg ms go)) rfl rfl) (seq_ok _)) rfl))).trans ?_
  refine tF_of (fB_of (fU_of (x := .lst (stD sg ms go)) (d := .int (stD sg ms go).length) rfl rfl) (fU_of (x := .lst (ms.map .str)) (d := .int (ms.map D.str).length) rfl rfl) (ne_int _ _)) ?_
  unfold stD
  rw [List.length_map, List.length_map]; simp [blD]
theorem word_ok (R : RD sg ms go) (hsg : sg ∈ LT15) (h0 : ms ≠ []) (hf : ∀ m ∈ ms, m ∈ five) (hfi : fi ∈ ms) : fnD 4 4 b_wrong_word [.str (T sg), .lst (ms.map .str), .str fi, .lst (stD sg ms go)] = some .non := by
  refine fnD_rt (ρ := [.s (.str (T sg)), .s (.lst (ms.map .str)), .s (.str fi), .s (.lst (stD sg ms go))]) rfl ?_
  refine sSeq_of (ρ1 := [.s (.str (T sg)), .s (.lst (ms.map .str)), .s (.str fi), .s (.lst (stD sg ms go))]) ?_ ?_
  · exact (sIf_f (ρ1 := [.s (.str (T sg)), .s (.lst (ms.map .str)), .s (.str fi), .s (.lst (stD sg ms go))]) (cNot_of (b := true) (tF_of (fAp_of (aC_of (x := .str (T sg)) rfl rfl) (signs_ok sg hsg)) rfl))).trans rfl
  refine sSeq_of (ρ1 := [.s (.str (T sg)), .s (.lst (ms.map .str)), .s (.str fi), .s (.lst (stD sg ms go))]) ?_ ?_
  · exact (sIf_f (ρ1 := [.s (.str (T sg)), .s (.lst (ms.map .str)), .s (.str fi), .s (.lst (stD sg ms go))]) (cNot_of (b := true) (tF_of (fAp_of (aC_of (x := .lst (ms.map .str)) rfl rfl) (marks_ok h0 R.l1 R.nd hf)) rfl))).trans rfl
  refine sSeq_of (ρ1 := [.s (.str (T sg)), .s (.lst (ms.map .str)), .s (.str fi), .s (.lst (stD sg ms go))]) ?_ ?_
  · refine (sIf_f (ρ1 := [.s (.str (T sg)), .s (.lst (ms.map .str)), .s (.str fi), .s (.lst (stD sg ms go))]) ?_).trans rfl
    refine (cOr_f (ρ1 := [.s (.str (T sg)), .s (.lst (ms.map .str)), .s (.str fi), .s (.lst (stD sg ms go))]) (cNot_of (b := true) (tF_of (fU_of (x := .str fi) rfl (isS _)) rfl))).trans ?_
    refine tF_of (fB_of (x := .str fi) (y := .lst (ms.map .str)) (d := .bl false) rfl rfl ?_) rfl
    unfold notInO
    rw [in_strs hfi]; rfl
  refine sRt_of ?_
  unfold fIf
  rw [tF_of (b := true) (fAp_of (aC_of (x := .str (T sg)) rfl (aC_of (x := .lst (ms.map .str)) rfl (aC_of (x := .lst (stD sg ms go)) rfl rfl))) (steps_ok R)) rfl]
  rfl
end
end K21
set_option autoImplicit false
namespace K21
open PySem PySem.Spec PyProof.Rows L2 AR VS
section
variable {sg : List Nat} {ms : List Str} {go : Str → Nat → Str} {fi : Str}
def tD (sg : List Nat) (ms : List Str) (go : Str → Nat → Str) : D := .tup (ms.map fun m => .tup (sg.map fun c => .str (go m c)))
theorem zip_map2 {α : Type} (f g : α → D) : ∀ xs : List α, zipD (xs.map f) (xs.map g) = xs.map fun x => .tup [f x, g x]
  | [] => rfl
  | x :: xs => by
    have := zip_map2 f g xs
    unfold zipD at *
    rw [List.map_cons, List.map_cons, List.zipWith_cons_cons, this]; rfl
abbrev EI (o : D) (sg : List Nat) (ms : List Str) (fi : Str) (go : Str → Nat → Str) (v5 v6 v7 v8 v9 : Sl) : En := [.o o, .s (.str (T sg)), .s (.lst (ms.map .str)), .s (.str fi), .s (.lst (stD sg ms go)), v5, v6, v7, v8, v9]
theorem leads_ex (R : RD sg ms go) (v5 : Sl) : ∃ ld, fDC2 [7, 6, 8, 9] [8, 9] (iZp (aC (fU (attrD ["Reader"] "marks") (pN 0)) (aC (fU (attrD ["Reader"] "steps") (pN 0)) aN))) (gTu 2 (gCo (gN 7) (gCo (gN 6) gNi))) cYes (iZp (aC (fN 1) (aC (fN 6) aN))) (gTu 2 (gCo (gN 8) (gCo (gN 9) gNi))) cYes (fAp mkT (aC (fN 7) (aC (fN 8) aN))) (fN 9)
    (EI (.ins "Reader" ["signs", "marks", "first", "steps"] [.str (T sg), mS ms, .str fi, tD sg ms go]) sg ms fi go v5 .u .u .u .u) = some (ld, EI (.ins "Reader" ["signs", "marks", "first", "steps"] [.str (T sg), mS ms, .str fi, tD sg ms go]) sg ms fi go v5 .u .u .u .u) := by
  have hb := big
  have h1 := R.l1
  have h2 := R.l2
  have hz : zipD (ms.map D.str) (ms.map fun m => D.tup (sg.map fun c => .str (go m c))) = ms.map fun m => .tup [.str m, .tup (sg.map fun c => .str (go m c))] := zip_map2 _ _ ms
  generalize ho : D.ins "Reader" ["signs", "marks", "first", "steps"] [.str (T sg), mS ms, .str fi, tD sg ms go] = o
  have em : attrD ["Reader"] "marks" o = some (mS ms) := by rw [← ho]; rfl
  have es : attrD ["Reader"] "steps" o = some (tD sg ms go) := by rw [← ho]; rfl
  have hbx : o.isBox = false := by rw [← ho]; rfl
  have hp : pN 0 (EI o sg ms fi go v5 .u .u .u .u) = some (o, EI o sg ms fi go v5 .u .u .u .u) := by rw [← ho]; rfl
  have hi : iZp (aC (fU (attrD ["Reader"] "marks") (pN 0)) (aC (fU (attrD ["Reader"] "steps") (pN 0)) aN)) (EI o sg ms fi go v5 .u .u .u .u) = some (ms.map fun m => .tup [.str m, .tup (sg.map fun c => .str (go m c))], EI o sg ms fi go v5 .u .u .u .u) := by
    unfold iZp
    rw [aC_of (fU_of hp em) (aC_of (fU_of hp es) (ds := []) rfl)]
    show some (zipD (ms.map D.str) (ms.map fun m => D.tup (sg.map fun c => .str (go m c))), _) = _
    rw [hz]
  obtain ⟨ks', ds', ρ', e1, e2⟩ := d2_ex (vs := [7, 6, 8, 9]) (us := [8, 9]) (fg := gTu 2 (gCo (gN 7) (gCo (gN 6) gNi))) (fj := iZp (aC (fN 1) (aC (fN 6) aN))) (gj := gTu 2 (gCo (gN 8) (gCo (gN 9) gNi))) (fk := fAp mkT (aC (fN 7) (aC (fN 8) aN))) (fv := fN 9) (E0 := EI o sg ms fi go v5 .u .u .u .u) (n := 3) (B := 100) (ms.map fun m => D.tup [.str m, .tup (sg.map fun c => .str (go m c))]) (EI o sg ms fi go v5 .u .u .u .u) [] [] rfl (fun x hx ks ds hk => by
    obtain ⟨m, hm, rfl⟩ := List.mem_map.mp hx
    have hz2 : zipD (chD (T sg)) (sg.map fun c => D.str (go m c)) = sg.map fun c => .tup [.str (T [c]), .str (go m c)] := by
      rw [chD_T]; exact zip_map2 _ _ sg
    have hj : iZp (aC (fN 1) (aC (fN 6) aN)) (EI o sg ms fi go v5 (.s (.tup (sg.map fun c => .str (go m c)))) (.s (.str m)) .u .u) = some (sg.map fun c => .tup [.str (T [c]), .str (go m c)], EI o sg ms fi go v5 (.s (.tup (sg.map fun c => .str (go m c)))) (.s (.str m)) .u .u) := by
      show some (zipD (chD (T sg)) (sg.map fun c => D.str (go m c)), _) = _
      rw [hz2]
    obtain ⟨k2, d2, ρ3, f1, f2, f3⟩ := in_ex (us := [8, 9]) (gj := gTu 2 (gCo (gN 8) (gCo (gN 9) gNi))) (fk := fAp mkT (aC (fN 7) (aC (fN 8) aN))) (fv := fN 9) (E0 := EI o sg ms fi go v5 (.s (.tup (sg.map fun c => .str (go m c)))) (.s (.str m)) .u .u) (sg.map fun c => D.tup [.str (T [c]), .str (go m c)]) (EI o sg ms fi go v5 (.s (.tup (sg.map fun c => .str (go m c)))) (.s (.str m)) .u .u) ks ds rfl (fun x hx => by
      obtain ⟨c, hc, rfl⟩ := List.mem_map.mp hx
      exact ⟨_, .tup [.str m, .str (T [c])], _, _, _, rfl, rfl, rfl, rfl, rfl⟩) (by rw [List.length_map]; omega)
    rw [List.length_map] at f2
    refine ⟨_, _, _, k2, d2, ρ3, rfl, hj, f1, by omega, ?_⟩
    have : wipeE ρ3 [7, 6, 8, 9] = wipeE (wipeE ρ3 [8, 9]) [7, 6] := rfl
    rw [this, f3]; rfl) (by rw [List.length_map]; simp; omega)
  refine ⟨.dct 1 ks' ds', ?_⟩
  unfold fDC2
  rw [hi]
  show Option.map _ (dcL2 _ _ _ _ _ _ _ _ _ _ _ [] []) = _
  rw [e1]
  show some (_, wipeE ρ' [7, 6, 8, 9]) = _
  rw [e2]
theorem init_ok (R : RD sg ms go) (hsg : sg ∈ LT15) (h0 : ms ≠ []) (hf : ∀ m ∈ ms, m ∈ five) (hfi : fi ∈ ms) : ∃ ld, iniD "Reader" 4 10 b_ReaderD_initD [.str (T sg), .lst (ms.map .str), .str fi, .lst (stD sg ms go)] = some (rd sg ms go (.str fi) ld) := by
  have hb := big
  have h1 := R.l1
  have h2 := R.l2
  obtain ⟨ld, hld⟩ := leads_ex (fi := fi) R (.s .non)
  refine ⟨ld, ?_⟩
  have key : b_ReaderD_initD (startI "Reader" 10 [.str (T sg), .lst (ms.map .str), .str fi, .lst (stD sg ms go)]) = some (.nx (EI (rd sg ms go (.str fi) ld) sg ms fi go (.s .non) .u .u .u .u)) := by
    refine sSeq_of (ρ1 := EI (.ins "Reader" [] []) sg ms fi go (.s .non) .u .u .u .u) ((sSet_of (fAp_of (aC_of (x := .str (T sg)) rfl (aC_of (x := .lst (ms.map .str)) rfl (aC_of (x := .str fi) rfl (aC_of (x := .lst (stD sg ms go)) rfl rfl)))) (word_ok R hsg h0 hf hfi))).trans rfl) ?_
    refine sSeq_of (ρ1 := EI (.ins "Reader" [] []) sg ms fi go (.s .non) .u .u .u .u) ?_ ?_
    · exact (sIf_f (ρ1 := EI (.ins "Reader" [] []) sg ms fi go (.s .non) .u .u .u .u) (tF_of (fB_of (x := .non) (y := .non) (d := .bl false) rfl rfl rfl) rfl)).trans rfl
    refine sSeq_of (ρ1 := EI (.ins "Reader" ["signs"] [.str (T sg)]) sg ms fi go (.s .non) .u .u .u .u) ((sFl_of (d := .str (T sg)) (c := "Reader") (ns := []) (vs := []) rfl rfl (by decide) (by decide)).trans rfl) ?_
    refine sSeq_of (ρ1 := EI (.ins "Reader" ["signs", "marks"] [.str (T sg), mS ms]) sg ms fi go (.s .non) .u .u .u .u) ((sFl_of (d := mS ms) (c := "Reader") (ns := ["signs"]) (vs := [.str (T sg)]) (fU_of (x := .lst (ms.map .str)) rfl rfl) rfl (by decide) (by decide)).trans rfl) ?_
    refine sSeq_of (ρ1 := EI (.ins "Reader" ["signs", "marks", "first"] [.str (T sg), mS ms, .str fi]) sg ms fi go (.s .non) .u .u .u .u) ((sFl_of (d := .str fi) (c := "Reader") (ns := ["signs", "marks"]) (vs := [.str (T sg), mS ms]) rfl rfl (by decide) (by decide)).trans rfl) ?_
    refine sSeq_of (ρ1 := EI (.ins "Reader" ["signs", "marks", "first", "steps"] [.str (T sg), mS ms, .str fi, tD sg ms go]) sg ms fi go (.s .non) .u .u .u .u) ((sFl_of (d := tD sg ms go) (ρ1 := EI (.ins "Reader" ["signs", "marks", "first"] [.str (T sg), mS ms, .str fi]) sg ms fi go (.s .non) .u .u .u .u) (c := "Reader") (ns := ["signs", "marks", "first"]) (vs := [.str (T sg), mS ms, .str fi]) (fU_of (fLC_map (E0 := EI (.ins "Reader" ["signs", "marks", "first"] [.str (T sg), mS ms, .str fi]) sg ms fi go (.s .non) .u .u .u .u) (fun x => match x with | .lst xs => .tup xs | _ => x) (iS_of (x := .lst (stD sg ms go)) rfl rfl) rfl (by unfold stD; rw [List.length_map]; omega) (fun x hx => ?_)) ?_) rfl (by decide) (by decide)).trans rfl) ?_
    · obtain ⟨m, hm, rfl⟩ := List.mem_map.mp hx
      exact ⟨_, _, rfl, fU_of (x := .lst (sg.map fun c => .str (go m c))) rfl rfl, rfl⟩
    · unfold stD
      rw [List.map_map]; rfl
    exact (sFl_of (d := ld) (c := "Reader") (ns := ["signs", "marks", "first", "steps"]) (vs := [.str (T sg), mS ms, .str fi, tD sg ms go]) hld rfl (by decide) (by decide)).trans rfl
  unfold iniD
  rw [if_pos (show [D.str (T sg), D.lst (ms.map D.str), D.str fi, D.lst (stD sg ms go)].length = 4 from rfl), key]
  rfl
theorem reader_ok {ks vs : List D} (R : RD sg ms go) (G : GO ks vs sg ms go) (hsg : sg ∈ LT15) (h0 : ms ≠ []) (hf : ∀ m ∈ ms, m ∈ five) (hfi : fi ∈ ms) : ∃ ld, fnD 2 8 b_w_reader [.str (T sg), dr ms (.str fi) ks vs] = some (rd sg ms go (.str fi) ld) := by
  have hb := big
  have h1 := R.l1
  have h2 := R.l2
  obtain ⟨ld, hld⟩ := init_ok R hsg h0 hf hfi
  refine ⟨ld, fnD_rt (ρ := [.s (.str (T sg)), .s (dr ms (.str fi) ks vs), .s (mS ms), .s (.str fi), .s (.dct 1 ks vs), .s (.lst (stD sg ms go)), .u, .u]) rfl ?_⟩
  refine sSeq_of (ρ1 := [.s (.str (T sg)), .s (dr ms (.str fi) ks vs), .s (mS ms), .s (.str fi), .s (.dct 1 ks vs), .u, .u, .u]) rfl ?_
  refine sSeq_of (ρ1 := [.s (.str (T sg)), .s (dr ms (.str fi) ks vs), .s (mS ms), .s (.str fi), .s (.dct 1 ks vs), .s (.lst (stD sg ms go)), .u, .u]) ((sSet_of (d := .lst (stD sg ms go)) (ρ1 := [.s (.str (T sg)), .s (dr ms (.str fi) ks vs), .s (mS ms), .s (.str fi), .s (.dct 1 ks vs), .u, .u, .u]) ?_).trans rfl) ?_
  · refine (fLC_map (E0 := [.s (.str (T sg)), .s (dr ms (.str fi) ks vs), .s (mS ms), .s (.str fi), .s (.dct 1 ks vs), .u, .u, .u]) (fun x => match x with | .str m => .lst (sg.map fun c => .str (go m c)) | _ => x) (iS_of (x := mS ms) rfl rfl) rfl (by rw [List.length_map]; omega) (fun x hx => ?_)).trans ?_
    · obtain ⟨m, hm, rfl⟩ := List.mem_map.mp hx
      refine ⟨[.s (.str (T sg)), .s (dr ms (.str fi) ks vs), .s (mS ms), .s (.str fi), .s (.dct 1 ks vs), .u, .u, .s (.str m)], [.s (.str (T sg)), .s (dr ms (.str fi) ks vs), .s (mS ms), .s (.str fi), .s (.dct 1 ks vs), .u, .u, .s (.str m)], rfl, ?_, rfl⟩
      refine (fLC_map (E0 := [.s (.str (T sg)), .s (dr ms (.str fi) ks vs), .s (mS ms), .s (.str fi), .s (.dct 1 ks vs), .u, .u, .s (.str m)]) (fun x => (dval ks vs (.tup [.str m, x])).getD .non) (iS_of (x := .str (T sg)) rfl (congrArg some (chD_T sg))) rfl (by unfold chs; rw [List.length_map]; omega) (fun x hx => ?_)).trans ?_
      · obtain ⟨c, hc, rfl⟩ := List.mem_map.mp hx
        refine ⟨_, _, rfl, fB_of (x := .dct 1 ks vs) rfl (fAp_of (aC_of (x := .str m) rfl (aC_of (x := .str (T [c])) rfl rfl)) (d := .tup [.str m, .str (T [c])]) rfl) ?_, rfl⟩
        show dval ks vs (.tup [.str m, .str (T [c])]) = _
        rw [G.get m hm c hc]; rfl
      · unfold chs
        rw [List.map_map]
        congr 3
        refine List.map_congr_left fun c hc => ?_
        show (dval ks vs (.tup [.str m, .str (T [c])])).getD .non = _
        rw [G.get m hm c hc]; rfl
    · unfold stD
      rw [List.map_map]; rfl
  · exact sRt_of (fAp_of (aC_of (x := .str (T sg)) rfl (aC_of (fU_of (x := mS ms) (d := .lst (ms.map .str)) rfl rfl) (aC_of (x := .str fi) rfl (aC_of (x := .lst (stD sg ms go)) rfl rfl)))) hld)
end
end K21
set_option autoImplicit false
namespace VS
open PySem PySem.Spec PyProof.Rows L2 AR
open PySem.Builtin.Str (reprChar)
/-! ### texts of texts and tuples -/
def SGb (B : Nat) (s : Str) : Prop := s.length ≤ B ∧ ∀ c ∈ s.cps.toList, c < 0x110000
theorem SGb.sg {B : Nat} {s : Str} (h : SGb B s) (hB : B ≤ sizeLine) : SG s := SG.mk (Nat.le_trans h.1 hB) h.2
theorem SGb.mono {B C : Nat} {s : Str} (h : SGb B s) (hB : B ≤ C) : SGb C s := ⟨Nat.le_trans h.1 hB, h.2⟩
theorem len_tl (s : Str) : s.length = s.cps.toList.length := by simp [Str.length]
theorem SGb.app {B C : Nat} {s t : Str} (h : SGb B s) (k : SGb C t) : SGb (B + C) (s ++ t) := by
  have e : (s ++ t).cps.toList = s.cps.toList ++ t.cps.toList := by
    show (s.cps ++ t.cps).toList = _
    simp
  refine ⟨?_, fun c hc => ?_⟩
  · rw [len_tl, e, List.length_append, ← len_tl, ← len_tl]; exact Nat.add_le_add h.1 k.1
  · rw [e] at hc
    rcases List.mem_append.mp hc with q | q
    · exact h.2 c q
    · exact k.2 c q
theorem rc_ok : ∀ c < 128, ∀ q ∈ [34, 39], (reprChar q c).all (fun d => decide (d < 0x110000)) = true := by decide +kernel
theorem fold_mem {q : Nat} : ∀ (l : List Nat) (acc : Array Nat) (d : Nat), d ∈ (l.foldl (fun out c => out ++ (reprChar q c).toArray) acc).toList → d ∈ acc.toList ∨ ∃ c ∈ l, d ∈ reprChar q c
  | [], acc, d, h => .inl h
  | c :: l, acc, d, h => by
    rw [List.foldl_cons] at h
    rcases fold_mem l _ d h with q | ⟨x, hx, q⟩
    · rw [Array.toList_append, List.mem_append] at q
      rcases q with q | q
      · exact .inl q
      · exact .inr ⟨c, List.mem_cons_self, by simpa using q⟩
    · exact .inr ⟨x, List.mem_cons_of_mem _ hx, q⟩
theorem repr_SGb {x : Str} (h : ∀ c ∈ x.cps.toList, c < 128) : SGb (10 * x.length + 2) (reprText x) := by
  refine ⟨StrLaws.reprText_len x fun c hc => by have := h c hc; omega, fun d hd => ?_⟩
  have hq : reprQuote x ∈ [34, 39] := by unfold reprQuote; split <;> simp
  generalize hqq : reprQuote x = q at hq
  unfold reprText at hd
  rw [hqq] at hd
  have hd' : d ∈ ((x.cps.foldl (fun out c => out ++ (reprChar q c).toArray) #[q]).push q).toList := hd
  rw [Array.toList_push, List.mem_append, ← Array.foldl_toList] at hd'
  have hq2 : q < 0x110000 := by simp at hq; omega
  rcases hd' with k | k
  · rcases fold_mem _ _ d k with k | ⟨c, hc, k⟩
    · simp at k; omega
    · have := List.all_eq_true.mp (rc_ok c (h c hc) q hq) d k
      simpa using this
  · simp at k; omega
theorem join_SGb {B : Nat} {ys : List Str} (h : ∀ y ∈ ys, SGb B y) : SGb (ys.length * B + ys.length * 2) (Str.join ", " ys) := by
  have e : (Str.join ", " ys).cps.toList = TL.joinL [44, 32] (ys.map fun y => y.cps.toList) := TL.tl_join ", " ys
  refine ⟨?_, fun c hc => ?_⟩
  · rw [len_tl, e]
    refine Nat.le_trans joinL_len ?_
    rw [List.length_map, List.map_map]
    have hs : ∀ l : List Str, (∀ y ∈ l, SGb B y) → (l.map ((fun l : List Nat => l.length) ∘ fun y : Str => y.cps.toList)).sum ≤ l.length * B := fun l => by
      induction l with
      | nil => intro _; simp
      | cons y l ih =>
        intro h
        have h1 := ih fun z hz => h z (List.mem_cons_of_mem _ hz)
        have h2 := (h y List.mem_cons_self).1
        rw [len_tl] at h2
        rw [List.map_cons, List.sum_cons, List.length_cons, Nat.add_mul, Nat.one_mul]
        show y.cps.toList.length + _ ≤ _
        omega
    have := hs ys h
    have h2 : [44, 32].length = 2 := rfl
    rw [h2]
    omega
  · rw [e] at hc
    rcases joinL_mem hc with q | ⟨y, hy, q⟩
    · simp at q; omega
    · obtain ⟨z, hz, rfl⟩ := List.mem_map.mp hy
      exact (h z hz).2 c q
theorem tup_SGb {B : Nat} {xs : List PyData} (h : ∀ x ∈ xs, SGb B x.shown) : SGb (xs.length * B + xs.length * 2 + 3) (PyData.tuple xs).shown := by
  rw [PyData.shown_tuple]
  have hj : SGb (xs.length * B + xs.length * 2) (Str.join ", " (PyData.shownAll xs)) := by
    have := join_SGb (B := B) (ys := PyData.shownAll xs) fun y hy => by
      have key : ∀ xs : List PyData, (∀ x ∈ xs, SGb B x.shown) → ∀ y ∈ PyData.shownAll xs, SGb B y := fun xs => by
        induction xs with
        | nil => intro _ y hy; rw [PyData.shownAll_nil] at hy; cases hy
        | cons x xs ih =>
          intro h y hy
          rw [PyData.shownAll_cons] at hy
          rcases List.mem_cons.mp hy with q | q
          · rw [q]; exact h x List.mem_cons_self
          · exact ih (fun z hz => h z (List.mem_cons_of_mem _ hz)) y q
      exact key xs h y hy
    rw [PyData.shownAll_length] at this
    exact this
  have h1 : SGb 1 ("(" : Str) := ⟨by decide +kernel, by decide +kernel⟩
  have h2 : SGb 2 (((if xs.length == 1 then ",)" else ")" : String)) : Str) := by
    split
    · exact ⟨by decide +kernel, by decide +kernel⟩
    · exact ⟨by decide +kernel, by decide +kernel⟩
  exact ((h1.app hj).app h2).mono (by omega)
end VS
set_option autoImplicit false
namespace K21
open PySem PySem.Spec PyProof.Rows L2 AR VS
theorem ne_self {x : D} {p : PyData} (h : toP x = some p) (hd : p.depth ≤ 64) (hc : p.canLay0 = true) : neO x x = some (.bl false) := by
  unfold neO eqB
  rw [h]
  show Option.map _ (if p.depth ≤ 64 ∧ p.depth ≤ 64 then some (PyData.eqv p p) else none) = _
  rw [if_pos ⟨hd, hd⟩, SeqAt.eqv_refl p hc]; rfl
theorem lay_strs : ∀ {a : List Str}, (∀ m ∈ a, SG m) → PyData.canLayAll0 (a.map PyData.str) = true
  | [], _ => by simp [PyData.canLayAll0]
  | m :: a, h => by
    rw [List.map_cons, PyData.canLayAll0, lay_strs fun x hx => h x (List.mem_cons_of_mem _ hx), PyData.canLay0, (h m List.mem_cons_self).2]; rfl
theorem toP_mS (a : List Str) : toP (mS a) = some (.tuple (a.map .str)) := by
  unfold mS
  rw [toP, toPs_strs]; rfl
theorem ne_mS {a : List Str} (h : ∀ m ∈ a, SG m) : neO (mS a) (mS a) = some (.bl false) :=
  ne_self (toP_mS a) (by rw [PyData.depth, VS.depth_strs]; omega) (by rw [PyData.canLay0]; exact lay_strs h)
theorem five_low : ∀ m ∈ five, SG m ∧ (∀ c ∈ m.cps.toList, c < 128) ∧ m.length ≤ 6 := by
  have h : ∀ m ∈ five, (decide (m.length ≤ sizeLine) && PyData.strOk m) = true ∧ (∀ c ∈ m.cps.toList, c < 128) ∧ m.length ≤ 6 := by decide +kernel
  exact fun m hm => ⟨SG.of (h m hm).1, (h m hm).2⟩
theorem LT_low : ∀ sg ∈ LT15, (∀ c ∈ sg, c < 128) ∧ sg.Nodup ∧ sg ≠ [] ∧ sg.length ≤ 3 := by decide +kernel
section
variable {sg : List Nat} {ms : List Str} {go : Str → Nat → Str} {fi ld : D} {ks vs : List D}
theorem T_SG {r : List Nat} (h : ∀ c ∈ r, c < 128) (hl : r.length ≤ 1000) : SG (T r) := SG.mk (by rw [T_len]; have := big; omega) fun c hc => by
  have : c ∈ r := hc
  have := h c this
  omega
def prP (ms : List Str) (go : Str → Nat → Str) (r : List Nat) : PyData := .tuple [.tuple ((wt ms go r).map .str), .str (T r)]
def prD (ms : List Str) (go : Str → Nat → Str) (r : List Nat) : D := .tup [mS (wt ms go r), .str (T r)]
theorem toP_pr (r : List Nat) : toP (prD ms go r) = some (prP ms go r) := by
  unfold prD prP
  rw [toP]
  show Option.map _ (Option.bind (toP (mS (wt ms go r))) _) = _
  rw [toP_mS]; rfl
theorem toPs_pr : ∀ rs : List (List Nat), toPs (rs.map (prD ms go)) = some (rs.map (prP ms go))
  | [] => by simp [toPs]
  | r :: rs => by
    rw [List.map_cons, toPs, toP_pr]
    show Option.map _ (toPs (rs.map (prD ms go))) = _
    rw [toPs_pr rs]; rfl
theorem showAll : ∀ {xs : List PyData}, (∀ x ∈ xs, x.showable = true) → PyData.showableAll xs = true
  | [], _ => by simp [PyData.showableAll]
  | x :: xs, h => by rw [PyData.showableAll, h x List.mem_cons_self, showAll fun y hy => h y (List.mem_cons_of_mem _ hy)]; rfl
theorem noDicts : ∀ {xs : List PyData}, (∀ x ∈ xs, x.hasDict = false) → PyData.hasDictAll xs = false
  | [], _ => by simp [PyData.hasDictAll]
  | x :: xs, h => by rw [PyData.hasDictAll, h x List.mem_cons_self, noDicts fun y hy => h y (List.mem_cons_of_mem _ hy)]; rfl
theorem depths {n : Nat} : ∀ {xs : List PyData}, (∀ x ∈ xs, x.depth ≤ n) → PyData.depthAll xs ≤ n
  | [], _ => by simp [PyData.depthAll]
  | x :: xs, h => by
    rw [PyData.depthAll]
    exact Nat.max_le.mpr ⟨h x List.mem_cons_self, depths fun y hy => h y (List.mem_cons_of_mem _ hy)⟩
theorem str_facts (a : List Str) : (∀ x ∈ a.map PyData.str, x.showable = true) ∧ (∀ x ∈ a.map PyData.str, x.hasDict = false) := by
  refine ⟨fun x hx => ?_, fun x hx => ?_⟩ <;> obtain ⟨m, _, rfl⟩ := List.mem_map.mp hx
  · rw [PyData.showable]
  · rw [PyData.hasDict]
theorem pr_facts (r : List Nat) : (prP ms go r).showable = true ∧ (prP ms go r).hasDict = false ∧ (prP ms go r).depth ≤ 2 := by
  unfold prP
  refine ⟨?_, ?_, ?_⟩
  · rw [PyData.showable]
    refine showAll fun x hx => ?_
    simp only [List.mem_cons, List.not_mem_nil, or_false] at hx
    rcases hx with rfl | rfl
    · rw [PyData.showable]; exact showAll (str_facts _).1
    · rw [PyData.showable]
  · rw [PyData.hasDict]
    refine noDicts fun x hx => ?_
    simp only [List.mem_cons, List.not_mem_nil, or_false] at hx
    rcases hx with rfl | rfl
    · rw [PyData.hasDict]; exact noDicts (str_facts _).2
    · rw [PyData.hasDict]
  · rw [PyData.depth]
    refine Nat.succ_le_succ (depths fun x hx => ?_)
    simp only [List.mem_cons, List.not_mem_nil, or_false] at hx
    rcases hx with rfl | rfl
    · rw [PyData.depth, VS.depth_strs]; omega
    · rw [PyData.depth]; omega
theorem pr_SGb (R : RD sg ms go) (hf : ∀ m ∈ ms, m ∈ five) (hsg : sg ∈ LT15) {r : List Nat} (hr : ∀ c ∈ r, c ∈ sg) (hl : r.length ≤ 256) : SGb 10000 (prP ms go r).shown := by
  have h1 : SGb 300 (PyData.tuple ((wt ms go r).map .str)).shown := by
    refine (tup_SGb (B := 62) fun x hx => ?_).mono ?_
    · obtain ⟨m, hm, rfl⟩ := List.mem_map.mp hx
      have hlow := five_low m (hf m (wt_in R hr m hm))
      rw [PyData.shown_str]
      exact (repr_SGb hlow.2.1).mono (by omega)
    · rw [List.length_map, wt_len]; have := R.l1; omega
  have h2 : SGb 2600 (PyData.str (T r)).shown := by
    rw [PyData.shown_str]
    refine (repr_SGb (x := T r) fun c hc => ?_).mono (by rw [T_len]; omega)
    have : c ∈ r := hc
    exact (LT_low sg hsg).1 c (hr c this)
  refine (tup_SGb (B := 2600) fun x hx => ?_).mono ?_
  · simp only [List.mem_cons, List.not_mem_nil, or_false] at hx
    rcases hx with rfl | rfl
    · exact h1.mono (by omega)
    · exact h2
  · simp
theorem repr_ok (R : RD sg ms go) (hf : ∀ m ∈ ms, m ∈ five) (hsg : sg ∈ LT15) {rs : List (List Nat)} (b : BI sg ms go rs) : ∃ s, reprO (.tup (rs.map (prD ms go))) = some (.str s) ∧ SG s := by
  have hbd := b.bound R
  have hs : SGb (rs.length * 10000 + rs.length * 2 + 3) (PyData.tuple (rs.map (prP ms go))).shown := by
    have := tup_SGb (B := 10000) (xs := rs.map (prP ms go)) fun x hx => by
      obtain ⟨r, hr, rfl⟩ := List.mem_map.mp hx
      obtain ⟨i, hi⟩ := List.mem_iff_getElem?.mp hr
      have := b.ln i r hi
      have hlt := (List.getElem?_eq_some_iff.mp hi).1
      exact pr_SGb R hf hsg (b.ov r hr) (by omega)
    rw [List.length_map] at this
    exact this
  have hbig : (10000000 : Nat) ≤ sizeLine := by decide
  have sg' := hs.sg (by omega)
  refine ⟨_, ?_, sg'⟩
  unfold reprO
  rw [toP, toPs_pr]
  show (if isSq (.tup (rs.map (prD ms go))) && shO (.tuple (rs.map (prP ms go))) then some (D.str (PyData.tuple (rs.map (prP ms go))).shown) else none) = _
  rw [if_pos]
  unfold shO
  have e1 : (PyData.tuple (rs.map (prP ms go))).showable = true := by
    rw [PyData.showable]
    refine showAll fun x hx => ?_
    obtain ⟨r, hr, rfl⟩ := List.mem_map.mp hx
    exact (pr_facts r).1
  have e2 : (PyData.tuple (rs.map (prP ms go))).hasDict = false := by
    rw [PyData.hasDict]
    refine noDicts fun x hx => ?_
    obtain ⟨r, hr, rfl⟩ := List.mem_map.mp hx
    exact (pr_facts r).2.1
  have e3 : (PyData.tuple (rs.map (prP ms go))).depth ≤ 64 := by
    rw [PyData.depth]
    have := depths (n := 2) (xs := rs.map (prP ms go)) fun x hx => by
      obtain ⟨r, hr, rfl⟩ := List.mem_map.mp hx
      exact (pr_facts r).2.2
    omega
  rw [e1, e2, decide_eq_true e3, decide_eq_true sg'.1, sg'.2]; rfl
end
end K21
set_option autoImplicit false
namespace K21
open PySem PySem.Spec PyProof.Rows L2 AR VS
abbrev EL (xs : List D) (v1 v2 v3 v4 v5 v6 v7 v8 v9 v10 v11 v12 v13 : Sl) : En := [.s (.lst xs), v1, v2, v3, v4, v5, v6, v7, v8, v9, v10, v11, v12, v13]
def turnB : FS := (sSeq (sPar 7 8 false false (fCaB (fnB 2 4 b_w_line) 2 (aC (fN 3) (aC (fC (.int 9)) aN))) (fCaB (fnB 2 4 b_w_line) 2 (aC (fN 3) (aC (fC (.int 9)) aN))))
      (sSeq (sIf (cOr (tF blD (fB neO (fAp (fnD 2 5 b_act) (aC (fN 5) (aC (fN 7) aN))) (fAp (fnD 2 3 b_w_deed) (aC (fN 4) (aC (fN 7) aN))))) (tF blD (fB neO (fAp (fnD 2 5 b_act) (aC (fN 5) (aC (fB addO (fN 7) (fN 8)) aN))) (fAp (fnD 2 3 b_w_deed) (aC (fN 4) (aC (fB addO (fN 7) (fN 8)) aN)))))) (sRt (fC (.bl false))) sNx)
      (sIf (tF blD (fB neO (fAp (fnD 3 5 b_act_then) (aC (fN 5) (aC (fAp (fnD 2 5 b_act) (aC (fN 5) (aC (fN 7) aN))) (aC (fAp (fnD 2 5 b_act) (aC (fN 5) (aC (fN 8) aN))) aN)))) (fAp (fnD 2 5 b_act) (aC (fN 5) (aC (fB addO (fN 7) (fN 8)) aN))))) (sRt (fC (.bl false))) sNx)))
section
variable {sg : List Nat} {ms : List Str} {go : Str → Nat → Str} {fi ld : D} {ks vs : List D} {xs : List D}
theorem wt_SG (R : RD sg ms go) {r : List Nat} (hr : ∀ c ∈ r, c ∈ sg) : ∀ m ∈ wt ms go r, SG m := fun m hm => R.ok m (wt_in R hr m hm)
theorem cat_ok {r q : List Nat} (h1 : r.length ≤ 9) (h2 : q.length ≤ 9) : addO (.str (T r)) (.str (T q)) = some (.str (T (r ++ q))) := by
  have hb := big
  show (if (T r).length + (T q).length ≤ sizeLine then _ else _) = _
  rw [if_pos (by rw [T_len, T_len]; omega), T_app]
theorem turnB_ok (R : RD sg ms go) (G : GO ks vs sg ms go) (h0 : sg ≠ []) {c : BoxC} (hc : isFl c) (v1 v6 v7 v8 v9 v10 v11 v12 v13 : Sl) :
    ∃ c' v7' v8', isFl c' ∧ turnB (EL xs v1 (.o (.box false c)) (.s (.str (T sg))) (.s (dr ms fi ks vs)) (.s (rd sg ms go fi ld)) v6 v7 v8 v9 v10 v11 v12 v13) = some (.nx (EL xs v1 (.o (.box false c')) (.s (.str (T sg))) (.s (dr ms fi ks vs)) (.s (rd sg ms go fi ld)) v6 v7' v8' v9 v10 v11 v12 v13)) := by
  obtain ⟨r, c1, e1, hr, hrl, hc1⟩ := line_ok hc h0 R.l2
  obtain ⟨q, c2, e2, hq, hql, hc2⟩ := line_ok hc1 h0 R.l2
  have hrq : ∀ a ∈ r ++ q, a ∈ sg := fun a ha => by
    rcases List.mem_append.mp ha with z | z
    · exact hr a z
    · exact hq a z
  refine ⟨c2, .s (.str (T r)), .s (.str (T q)), hc2, ?_⟩
  generalize hE : EL xs v1 (.o (.box false c2)) (.s (.str (T sg))) (.s (dr ms fi ks vs)) (.s (rd sg ms go fi ld)) v6 (.s (.str (T r))) (.s (.str (T q))) v9 v10 v11 v12 v13 = E
  have f4 : fN 4 E = some (dr ms fi ks vs, E) := by rw [← hE]; rfl
  have f5 : fN 5 E = some (rd sg ms go fi ld, E) := by rw [← hE]; rfl
  have f7 : fN 7 E = some (.str (T r), E) := by rw [← hE]; rfl
  have f8 : fN 8 E = some (.str (T q), E) := by rw [← hE]; rfl
  have fc : fB addO (fN 7) (fN 8) E = some (.str (T (r ++ q)), E) := fB_of f7 f8 (cat_ok hrl hql)
  have a7 : fAp (fnD 2 5 b_act) (aC (fN 5) (aC (fN 7) aN)) E = some (mS (wt ms go r), E) := fAp_of (aC_of f5 (aC_of f7 rfl)) (act_ok R hr)
  have a8 : fAp (fnD 2 5 b_act) (aC (fN 5) (aC (fN 8) aN)) E = some (mS (wt ms go q), E) := fAp_of (aC_of f5 (aC_of f8 rfl)) (act_ok R hq)
  have ac : fAp (fnD 2 5 b_act) (aC (fN 5) (aC (fB addO (fN 7) (fN 8)) aN)) E = some (mS (wt ms go (r ++ q)), E) := fAp_of (aC_of f5 (aC_of fc rfl)) (act_ok R hrq)
  have d7 : fAp (fnD 2 3 b_w_deed) (aC (fN 4) (aC (fN 7) aN)) E = some (mS (wt ms go r), E) := fAp_of (aC_of f4 (aC_of f7 rfl)) (deed_ok R G hr)
  have dc : fAp (fnD 2 3 b_w_deed) (aC (fN 4) (aC (fB addO (fN 7) (fN 8)) aN)) E = some (mS (wt ms go (r ++ q)), E) := fAp_of (aC_of f4 (aC_of fc rfl)) (deed_ok R G hrq)
  have t7 : fAp (fnD 3 5 b_act_then) (aC (fN 5) (aC (fAp (fnD 2 5 b_act) (aC (fN 5) (aC (fN 7) aN))) (aC (fAp (fnD 2 5 b_act) (aC (fN 5) (aC (fN 8) aN))) aN))) E = some (mS (wt ms go (r ++ q)), E) := by
    refine fAp_of (aC_of f5 (aC_of a7 (aC_of a8 rfl))) ?_
    rw [then_ok R (wt_in R hr) wt_len (by rw [wt_len]; exact R.l1), then_wt R hr]
  refine sSeq_of (ρ1 := E) ?_ ?_
  · rw [← hE]
    exact (sPar_of (fCaB_of (p := false) (c := c) (ρ := EL xs v1 (.o (.box false c)) (.s (.str (T sg))) (.s (dr ms fi ks vs)) (.s (rd sg ms go fi ld)) v6 v7 v8 v9 v10 v11 v12 v13) (ρ1 := EL xs v1 (.o (.box false c)) (.s (.str (T sg))) (.s (dr ms fi ks vs)) (.s (rd sg ms go fi ld)) v6 v7 v8 v9 v10 v11 v12 v13) rfl (aC_of (x := .str (T sg)) rfl (aC_of (x := .int 9) rfl rfl)) rfl e1) (fCaB_of (p := false) (c := c1) (ρ1 := EL xs v1 (.o (.box false c1)) (.s (.str (T sg))) (.s (dr ms fi ks vs)) (.s (rd sg ms go fi ld)) v6 v7 v8 v9 v10 v11 v12 v13) rfl (aC_of (x := .str (T sg)) rfl (aC_of (x := .int 9) rfl rfl)) rfl e2)).trans rfl
  · refine sSeq_of (ρ1 := E) ?_ ?_
    · exact (sIf_f (ρ1 := E) ((cOr_f (ρ1 := E) (tF_of (fB_of a7 d7 (ne_mS (wt_SG R hr))) rfl)).trans (tF_of (fB_of ac dc (ne_mS (wt_SG R hrq))) rfl))).trans rfl
    · exact (sIf_f (ρ1 := E) (tF_of (fB_of t7 ac (ne_mS (wt_SG R hrq))) rfl)).trans rfl
theorem keys_good (R : RD sg ms go) {rs : List (List Nat)} (b : BI sg ms go rs) : (kD ms go rs).all gTb = true := by
  have hb := big
  refine List.all_eq_true.mpr fun x hx => ?_
  obtain ⟨r, hr, rfl⟩ := List.mem_map.mp hx
  show (decide (((wt ms go r).map D.str).length ≤ sizeLine) && ((wt ms go r).map D.str).all gKb) = true
  rw [Bool.and_eq_true]
  refine ⟨decide_eq_true (by rw [List.length_map, wt_len]; have := R.l1; omega), List.all_eq_true.mpr fun y hy => ?_⟩
  obtain ⟨m, hm, rfl⟩ := List.mem_map.mp hy
  have g := wt_SG R (b.ov r hr) m hm
  show (decide (m.length ≤ sizeLine) && PyData.strOk m) = true
  rw [decide_eq_true g.1, g.2]; rfl
end
end K21
set_option autoImplicit false
namespace K21
open PySem PySem.Spec PyProof.Rows L2 AR VS
def restL : FS := (sSeq (sSet 9 (fAp (fnD 2 8 b_w_deeds) (aC (fN 4) (aC (fN 3) aN))))
      (sSeq (sSet 10 (fU tupO (fLC [11] (iK 9) (gN 11) cYes (fAp mkT (aC (fN 11) (aC (fB getD (fN 9) (fN 11)) aN))))))
      (sSeq (sIf (cOr (tF blD (fB neO (fU reprO (fAp (fnD 1 9 b_acts) (aC (fN 5) aN))) (fU reprO (fN 10)))) (tF blD (fB neO (fAp (fnD 1 1 b_first_act) (aC (fN 5) aN)) (fB getD (fN 4) (fC (.int 0)))))) (sRt (fC (.bl false))) sNx)
      (sSeq (sIf (tF blD (fB neO (fB getD (fAp (fnD 1 9 b_acts) (aC (fN 5) aN)) (fC (.int 0))) (fAp mkT (aC (fAp (fnD 1 1 b_first_act) (aC (fN 5) aN)) (aC (fC (.str "")) aN))))) (sRt (fC (.bl false))) sNx)
      (sSeq (sSet 12 (fU tupO (fLC [13] (iS (fB getD (fN 4) (fC (.int 0)))) (gN 13) cYes (fCaB (fnB 1 2 b_w_any_of) 2 (aC (fB getD (fN 4) (fC (.int 0))) aN)))))
      (sIf (cOr (tF blD (fB neO (fAp (fnD 3 5 b_act_then) (aC (fN 5) (aC (fN 12) (aC (fAp (fnD 1 1 b_first_act) (aC (fN 5) aN)) aN)))) (fN 12))) (tF blD (fB neO (fAp (fnD 3 5 b_act_then) (aC (fN 5) (aC (fAp (fnD 1 1 b_first_act) (aC (fN 5) aN)) (aC (fN 12) aN)))) (fN 12)))) (sRt (fC (.bl false))) sNx))))))
def bodyL : FS := (sSeq (sSetO 2 (fAp (fNB flowF) (aC (fN 0) (aC (fN 1) aN))))
      (sSeq (sSet 3 (fCaB (fnB 1 3 b_w_letters) 2 (aC (fC (.int 3)) aN)))
      (sSeq (sSet 4 (fCaB (fnB 2 10 b_w_draft) 2 (aC (fN 3) (aC (fB subO (fC (.int 4)) (fU intO (fB gtO (fU lenD (pN 3)) (fC (.int 2))))) aN))))
      (sSeq (sSet 5 (fAp (fnD 2 8 b_w_reader) (aC (fN 3) (aC (fN 4) aN))))
      (sSeq (sFor (iR1 (aC (fC (.int 5)) aN)) (gN 6) turnB) restL)))))
theorem b_law_eq : b_law = sSeq (sFor (iR1 (aC (fB maxO (fC (.int 1)) (fB minO (fC (.int 3)) (fU lenD (pN 0)))) aN)) (gN 1) bodyL) (sRt (fC (.bl true))) := rfl
section
variable {sg : List Nat} {ms : List Str} {go : Str → Nat → Str} {fi : Str} {ld : D} {ks vs : List D} {xs : List D}
theorem restL_ok (R : RD sg ms go) (G : GO ks vs sg ms go) (hsg : sg ∈ LT15) (h0 : ms ≠ []) (hf : ∀ m ∈ ms, m ∈ five) {c : BoxC} (hc : isFl c) (v1 v6 v7 v8 v9 v10 v11 v12 v13 : Sl) :
    ∃ w2 w9 w10 w11 w12 w13, restL (EL xs v1 (.o (.box false c)) (.s (.str (T sg))) (.s (dr ms (.str fi) ks vs)) (.s (rd sg ms go (.str fi) ld)) v6 v7 v8 v9 v10 v11 v12 v13) = some (.nx (EL xs v1 w2 (.s (.str (T sg))) (.s (dr ms (.str fi) ks vs)) (.s (rd sg ms go (.str fi) ld)) v6 v7 v8 w9 w10 w11 w12 w13)) := by
  have hb := big
  have h1 := R.l1
  have hb0 : BI sg ms go (bfs sg ms go 300 0 [[]]) := BI.bfs 300 0 .start
  have hdu := deeds_ok (fi := .str fi) R G
  have hac := acts_ok (fi := .str fi) (ld := ld) R
  have hrep := repr_ok R hf hsg hb0
  have hkg := keys_good R hb0
  generalize bfs sg ms go 300 0 [[]] = rs at hb0 hdu hac hrep hkg
  have hbd := hb0.bound R
  obtain ⟨s, hs, hsS⟩ := hrep
  have ms_SG : ∀ m ∈ ms, SG m := R.ok
  have hdv : ∀ r ∈ rs, dval (kD ms go rs) (vD rs) (mS (wt ms go r)) = some (.str (T r)) := fun r hr => dval_at (f := fun r => mS (wt ms go r)) (g := fun r => D.str (T r)) (kD_nd hb0) hr
  obtain ⟨E, hE⟩ : ∃ E, EL xs v1 (.o (.box false c)) (.s (.str (T sg))) (.s (dr ms (.str fi) ks vs)) (.s (rd sg ms go (.str fi) ld)) v6 v7 v8 (.s (.dct 1 (kD ms go rs) (vD rs))) (.s (.tup (rs.map (prD ms go)))) .u v12 v13 = E := ⟨_, rfl⟩
  have f5 : fN 5 E = some (rd sg ms go (.str fi) ld, E) := by rw [← hE]; rfl
  have f10 : fN 10 E = some (.tup (rs.map (prD ms go)), E) := by rw [← hE]; rfl
  have f4 : fB getD (fN 4) (fC (.int 0)) E = some (mS ms, E) := by rw [← hE]; exact fB_of (x := dr ms (.str fi) ks vs) (y := .int 0) rfl rfl rfl
  have fa : fAp (fnD 1 9 b_acts) (aC (fN 5) aN) E = some (.tup (rs.map (prD ms go)), E) := fAp_of (aC_of f5 rfl) hac
  have ff : fAp (fnD 1 1 b_first_act) (aC (fN 5) aN) E = some (mS ms, E) := fAp_of (aC_of f5 rfl) first_ok
  -- odd
  have hi : iS (fB getD (fN 4) (fC (.int 0))) E = some (ms.map .str, E) := iS_of f4 rfl
  obtain ⟨ds, E2, e1, e2, e3, c2, hc2, rfl⟩ := fLC_inv (fg := gN 13) (us := [13]) (fe := fCaB (fnB 1 2 b_w_any_of) 2 (aC (fB getD (fN 4) (fC (.int 0))) aN)) (fun E => ∃ c2, isFl c2 ∧ E = EL xs v1 (.o (.box false c2)) (.s (.str (T sg))) (.s (dr ms (.str fi) ks vs)) (.s (rd sg ms go (.str fi) ld)) v6 v7 v8 (.s (.dct 1 (kD ms go rs) (vD rs))) (.s (.tup (rs.map (prD ms go)))) .u v12 .u) (fun d => d ∈ ms.map D.str) hi ⟨c, hc, by rw [← hE]; rfl⟩ (by rw [List.length_map]; omega) (fun x hx E' hE' => by
    obtain ⟨c3, hc3, rfl⟩ := hE'
    obtain ⟨d, c4, k1, k2, k3⟩ := any_tup hc3 (xs := ms.map .str) (by simpa using h0) (by rw [List.length_map]; omega)
    exact ⟨_, d, _, rfl, fCaB_of (p := false) (c := c3) rfl (aC_of (fB_of (x := dr ms (.str fi) ks vs) (y := .int 0) (d := .tup (ms.map .str)) rfl rfl rfl) rfl) rfl k1, k2, c4, k3, rfl⟩)
  have hod : ∃ od : List Str, ds = od.map .str ∧ (∀ m ∈ od, m ∈ ms) := by
    refine ⟨ds.map unS, ?_, fun m hm => ?_⟩
    · rw [List.map_map]
      refine (Eq.trans (List.map_congr_left fun y hy => ?_) (List.map_id ds)).symm
      obtain ⟨n, _, rfl⟩ := List.mem_map.mp (e3 y hy)
      rfl
    · obtain ⟨y, hy, rfl⟩ := List.mem_map.mp hm
      obtain ⟨n, hn, rfl⟩ := List.mem_map.mp (e3 y hy)
      exact hn
  obtain ⟨od, rfl, hod⟩ := hod
  rw [List.length_map, List.length_map] at e2
  -- due
  refine ⟨.o (.box false c2), .s (.dct 1 (kD ms go rs) (vD rs)), .s (.tup (rs.map (prD ms go))), .u, .s (mS od), .u, sSeq_of (ρ1 := EL xs v1 (.o (.box false c)) (.s (.str (T sg))) (.s (dr ms (.str fi) ks vs)) (.s (rd sg ms go (.str fi) ld)) v6 v7 v8 (.s (.dct 1 (kD ms go rs) (vD rs))) v10 v11 v12 v13) ((sSet_of (fAp_of (aC_of (x := dr ms (.str fi) ks vs) rfl (aC_of (x := .str (T sg)) rfl rfl)) hdu)).trans rfl) ?_⟩
  -- some
  refine sSeq_of (ρ1 := EL xs v1 (.o (.box false c)) (.s (.str (T sg))) (.s (dr ms (.str fi) ks vs)) (.s (rd sg ms go (.str fi) ld)) v6 v7 v8 (.s (.dct 1 (kD ms go rs) (vD rs))) (.s (.tup (rs.map (prD ms go)))) .u v12 v13) ?_ ?_
  · have hi : iK 9 (EL xs v1 (.o (.box false c)) (.s (.str (T sg))) (.s (dr ms (.str fi) ks vs)) (.s (rd sg ms go (.str fi) ld)) v6 v7 v8 (.s (.dct 1 (kD ms go rs) (vD rs))) v10 v11 v12 v13) = some (kD ms go rs, EL xs v1 (.o (.box false c)) (.s (.str (T sg))) (.s (dr ms (.str fi) ks vs)) (.s (rd sg ms go (.str fi) ld)) v6 v7 v8 (.s (.dct 1 (kD ms go rs) (vD rs))) v10 v11 v12 v13) := by
      show (if (kD ms go rs).all gTb = true then _ else _) = _
      rw [if_pos hkg]
    refine (sSet_of (fU_of (fLC_map (E0 := EL xs v1 (.o (.box false c)) (.s (.str (T sg))) (.s (dr ms (.str fi) ks vs)) (.s (rd sg ms go (.str fi) ld)) v6 v7 v8 (.s (.dct 1 (kD ms go rs) (vD rs))) v10 .u v12 v13) (fun x => .tup [x, (dval (kD ms go rs) (vD rs) x).getD .non]) hi rfl (by unfold kD; rw [List.length_map]; omega) (fun x hx => ?_)) (d := .tup (rs.map (prD ms go))) ?_)).trans rfl
    · obtain ⟨r, hr, rfl⟩ := List.mem_map.mp hx
      refine ⟨_, _, rfl, fAp_of (aC_of rfl (aC_of (fB_of (x := .dct 1 (kD ms go rs) (vD rs)) (y := mS (wt ms go r)) (d := .str (T r)) rfl rfl ?_) rfl)) ?_, rfl⟩
      · show (keyTOf (mS (wt ms go r))).bind (fun _ => dval (kD ms go rs) (vD rs) (mS (wt ms go r))) = _
        rw [keyT_mS]; exact hdv r hr
      · show mkT [mS (wt ms go r), .str (T r)] = some (.tup [mS (wt ms go r), (dval (kD ms go rs) (vD rs) (mS (wt ms go r))).getD .non])
        rw [hdv r hr]; rfl
    · show some (D.tup ((kD ms go rs).map _)) = _
      congr 2
      unfold kD
      rw [List.map_map]
      refine List.map_congr_left fun r hr => ?_
      show D.tup [mS (wt ms go r), (dval (kD ms go rs) (vD rs) (mS (wt ms go r))).getD .non] = _
      rw [hdv r hr]; rfl
  rw [hE]
  refine sSeq_of (ρ1 := E) ?_ ?_
  · refine (sIf_f (ρ1 := E) ((cOr_f (ρ1 := E) (tF_of (fB_of (fU_of fa hs) (fU_of f10 hs) (ne_self (p := .str s) (by rw [toP]) (by rw [PyData.depth]; omega) (by rw [PyData.canLay0]; exact hsS.2))) rfl)).trans (tF_of (fB_of ff f4 (ne_mS ms_SG)) rfl))).trans rfl
  refine sSeq_of (ρ1 := E) ?_ ?_
  · have h00 : getD (.tup (rs.map (prD ms go))) (.int 0) = some (prD ms go []) := by
      show atI (rs.map (prD ms go)) ((0 : Nat) : Int) = _
      exact at_nat (by rw [List.getElem?_map, hb0.hd]; rfl)
    have hpr : prD ms go [] = .tup [mS ms, .str ""] := by unfold prD; rw [wt_nil]; rfl
    rw [hpr] at h00
    refine (sIf_f (ρ1 := E) (tF_of (fB_of (fB_of fa (y := .int 0) rfl h00) (fAp_of (aC_of ff (aC_of (x := .str "") rfl rfl)) (d := .tup [mS ms, .str ""]) rfl) (ne_self (p := .tuple [.tuple (ms.map .str), .str ""]) ?_ ?_ ?_)) rfl)).trans rfl
    · rw [← hpr, toP_pr]; unfold prP; rw [wt_nil]; rfl
    · have := (pr_facts (ms := ms) (go := go) []).2.2
      unfold prP at this
      rw [wt_nil] at this
      exact Nat.le_trans this (by omega)
    · rw [PyData.canLay0, PyData.canLayAll0, PyData.canLay0, lay_strs ms_SG, PyData.canLayAll0, PyData.canLayAll0, PyData.canLay0]
      decide +kernel
  refine sSeq_of (ρ1 := EL xs v1 (.o (.box false c2)) (.s (.str (T sg))) (.s (dr ms (.str fi) ks vs)) (.s (rd sg ms go (.str fi) ld)) v6 v7 v8 (.s (.dct 1 (kD ms go rs) (vD rs))) (.s (.tup (rs.map (prD ms go)))) .u (.s (mS od)) .u) ((sSet_of (fU_of e1 (d := mS od) rfl)).trans rfl) ?_
  generalize hE3 : EL xs v1 (.o (.box false c2)) (.s (.str (T sg))) (.s (dr ms (.str fi) ks vs)) (.s (rd sg ms go (.str fi) ld)) v6 v7 v8 (.s (.dct 1 (kD ms go rs) (vD rs))) (.s (.tup (rs.map (prD ms go)))) .u (.s (mS od)) .u = E3
  have g5 : fN 5 E3 = some (rd sg ms go (.str fi) ld, E3) := by rw [← hE3]; rfl
  have g12 : fN 12 E3 = some (mS od, E3) := by rw [← hE3]; rfl
  have gf : fAp (fnD 1 1 b_first_act) (aC (fN 5) aN) E3 = some (mS ms, E3) := fAp_of (aC_of g5 rfl) first_ok
  have od_SG : ∀ m ∈ od, SG m := fun m hm => R.ok m (hod m hm)
  have t1 : fnD 3 5 b_act_then [rd sg ms go (.str fi) ld, mS od, mS ms] = some (mS od) := by
    rw [then_ok R hod rfl (by omega)]
    congr 2
    exact (List.map_congr_left fun m hm => app_self (hod m hm)).trans (List.map_id _)
  have t2 : fnD 3 5 b_act_then [rd sg ms go (.str fi) ld, mS ms, mS od] = some (mS od) := by
    rw [then_ok R (fun m h => h) e2 h1, app_list R.nd e2]
  refine (sIf_f (ρ1 := E3) ((cOr_f (ρ1 := E3) (tF_of (fB_of (fAp_of (aC_of g5 (aC_of g12 (aC_of gf rfl))) t1) g12 (ne_mS od_SG)) rfl)).trans (tF_of (fB_of (fAp_of (aC_of g5 (aC_of gf (aC_of g12 rfl))) t2) g12 (ne_mS od_SG)) rfl))).trans ?_
  rw [← hE3]
  rfl
end
def goF (ks vs : List D) (m : Str) (c : Nat) : Str := match dval ks vs (pk m c) with
  | some (.str x) => x
  | _ => m
theorem goF_ok {ms : List Str} {ks vs : List D} {m : Str} {c : Nat} (h : Pt ms ks vs m c) : dval ks vs (pk m c) = some (.str (goF ks vs m c)) ∧ goF ks vs m c ∈ ms := by
  obtain ⟨x, h1, h2⟩ := h
  have : goF ks vs m c = x := by unfold goF; rw [h2]
  rw [this]; exact ⟨h2, h1⟩
theorem ints_map : ∀ ns : List Int, intsOf (ns.map D.int) = some ns
  | [] => rfl
  | n :: ns => by show Option.map _ (intsOf (ns.map D.int)) = _; rw [ints_map ns]; rfl
theorem most_ok (sg : List Nat) : ∃ most : Int, 1 ≤ most ∧ most ≤ 4 ∧ ∀ E : En, pN 3 E = some (.str (T sg), E) → fB subO (fC (.int 4)) (fU intO (fB gtO (fU lenD (pN 3)) (fC (.int 2)))) E = some (.int most, E) := by
  by_cases h : (2 : Int) < (T sg).length
  · refine ⟨3, by omega, by omega, fun E hE => fB_of (x := .int 4) (y := .int 1) rfl (fU_of (x := .bl true) (fB_of (fU_of hE (d := .int (T sg).length) rfl) (y := .int 2) rfl ?_) rfl) rfl⟩
    show some (D.bl (decide ((2 : Int) < (T sg).length))) = _
    rw [decide_eq_true h]
  · refine ⟨4, by omega, by omega, fun E hE => fB_of (x := .int 4) (y := .int 0) rfl (fU_of (x := .bl false) (fB_of (fU_of hE (d := .int (T sg).length) rfl) (y := .int 2) rfl ?_) rfl) rfl⟩
    show some (D.bl (decide ((2 : Int) < (T sg).length))) = _
    rw [decide_eq_false h]
theorem flow_ok {ns : List Int} (hn : ns.length ≤ 1000) {k : Int} (hk : 0 ≤ k ∧ k < 1000) : ∃ c0, isFl c0 ∧ fNB flowF [.lst (ns.map .int), .int k] = some (.box false c0) := by
  refine ⟨flowB ns k, by unfold flowB; trivial, ?_⟩
  unfold fNB flowF
  simp only [ints_map, Option.bind_some]
  rw [if_pos ⟨hn, hk.1, hk.2⟩]; rfl
theorem bodyL_ok {ns : List Int} (hn : ns.length ≤ 1000) {k : Int} (hk : 0 ≤ k ∧ k < 1000) (v2 v3 v4 v5 v6 v7 v8 v9 v10 v11 v12 v13 : Sl) :
    ∃ w2 w3 w4 w5 w6 w7 w8 w9 w10 w11 w12 w13, bodyL (EL (ns.map .int) (.s (.int k)) v2 v3 v4 v5 v6 v7 v8 v9 v10 v11 v12 v13) = some (.nx (EL (ns.map .int) (.s (.int k)) w2 w3 w4 w5 w6 w7 w8 w9 w10 w11 w12 w13)) := by
  obtain ⟨c0, hc0, e0⟩ := flow_ok hn hk
  obtain ⟨sg, c1, e1, hsg, hc1⟩ := letters_ok hc0
  obtain ⟨hlow, hsd, hs0, hsl⟩ := LT_low sg hsg
  obtain ⟨s0, sg', hsc⟩ : ∃ s0 sg', sg = s0 :: sg' := by
    cases sg with
    | nil => exact absurd rfl hs0
    | cons a b => exact ⟨a, b, rfl⟩
  obtain ⟨most, hm1, hm2, hm3⟩ := most_ok sg
  obtain ⟨ms, fi, ks, vs, c2, e2, hc2, m0, ml, mn, mf, hfi, hpt⟩ := draft_ok (most := most) hc1 hsc hsl hm1 hm2
  have R : RD sg ms (goF ks vs) := ⟨mn, hsd, fun m hm c hc => (goF_ok (hpt m hm c hc)).2, ml, hsl, fun m hm => (five_low m (mf m hm)).1⟩
  have G : GO ks vs sg ms (goF ks vs) := ⟨fun m hm c hc => (goF_ok (hpt m hm c hc)).1⟩
  obtain ⟨ld, e3⟩ := reader_ok R G hsg m0 mf hfi
  have hrng : iR1 (aC (fC (.int 5)) aN) (EL (ns.map .int) (.s (.int k)) (.o (.box false c2)) (.s (.str (T sg))) (.s (dr ms (.str fi) ks vs)) (.s (rd sg ms (goF ks vs) (.str fi) ld)) v6 v7 v8 v9 v10 v11 v12 v13) = some (rngD 0 5, EL (ns.map .int) (.s (.int k)) (.o (.box false c2)) (.s (.str (T sg))) (.s (dr ms (.str fi) ks vs)) (.s (rd sg ms (goF ks vs) (.str fi) ld)) v6 v7 v8 v9 v10 v11 v12 v13) := iR1_of (j := 5) rfl (by omega) (by omega)
  obtain ⟨ρ', e4, c3, w6, w7, w8, hc3, rfl⟩ := sFor_rec (tg := gN 6) (b := turnB) (fun _ ρ => ∃ c3 w6 w7 w8, isFl c3 ∧ ρ = EL (ns.map .int) (.s (.int k)) (.o (.box false c3)) (.s (.str (T sg))) (.s (dr ms (.str fi) ks vs)) (.s (rd sg ms (goF ks vs) (.str fi) ld)) w6 w7 w8 v9 v10 v11 v12 v13) hrng ⟨c2, v6, v7, v8, hc2, rfl⟩ (fun x xs ρ h => by
    obtain ⟨c3, w6, w7, w8, hc3, rfl⟩ := h
    obtain ⟨c4, u7, u8, hc4, e5⟩ := turnB_ok (xs := ns.map .int) (fi := .str fi) (ld := ld) R G hs0 hc3 (.s (.int k)) (.s x) w7 w8 v9 v10 v11 v12 v13
    exact ⟨_, _, rfl, e5, c4, .s x, u7, u8, hc4, rfl⟩)
  obtain ⟨w2, w9, w10, w11, w12, w13, e6⟩ := restL_ok (xs := ns.map .int) (fi := fi) (ld := ld) R G hsg m0 mf hc3 (.s (.int k)) w6 w7 w8 v9 v10 v11 v12 v13
  refine ⟨w2, .s (.str (T sg)), .s (dr ms (.str fi) ks vs), .s (rd sg ms (goF ks vs) (.str fi) ld), w6, w7, w8, w9, w10, w11, w12, w13, ?_⟩
  refine sSeq_of (ρ1 := EL (ns.map .int) (.s (.int k)) (.o (.box false c0)) v3 v4 v5 v6 v7 v8 v9 v10 v11 v12 v13) ((sSetO_of (fAp_of (aC_of (x := .lst (ns.map .int)) rfl (aC_of (x := .int k) rfl rfl)) e0)).trans rfl) ?_
  refine sSeq_of (ρ1 := EL (ns.map .int) (.s (.int k)) (.o (.box false c1)) (.s (.str (T sg))) v4 v5 v6 v7 v8 v9 v10 v11 v12 v13) ((sSet_of (fCaB_of (p := false) (c := c0) (ρ := EL (ns.map .int) (.s (.int k)) (.o (.box false c0)) v3 v4 v5 v6 v7 v8 v9 v10 v11 v12 v13) (ρ1 := EL (ns.map .int) (.s (.int k)) (.o (.box false c0)) v3 v4 v5 v6 v7 v8 v9 v10 v11 v12 v13) rfl (aC_of (x := .int 3) rfl rfl) rfl e1)).trans rfl) ?_
  refine sSeq_of (ρ1 := EL (ns.map .int) (.s (.int k)) (.o (.box false c2)) (.s (.str (T sg))) (.s (dr ms (.str fi) ks vs)) v5 v6 v7 v8 v9 v10 v11 v12 v13) ((sSet_of (fCaB_of (p := false) (c := c1) (ρ := EL (ns.map .int) (.s (.int k)) (.o (.box false c1)) (.s (.str (T sg))) v4 v5 v6 v7 v8 v9 v10 v11 v12 v13) (ρ1 := EL (ns.map .int) (.s (.int k)) (.o (.box false c1)) (.s (.str (T sg))) v4 v5 v6 v7 v8 v9 v10 v11 v12 v13) rfl (aC_of (x := .str (T sg)) rfl (aC_of (hm3 _ rfl) rfl)) rfl e2)).trans rfl) ?_
  refine sSeq_of (ρ1 := EL (ns.map .int) (.s (.int k)) (.o (.box false c2)) (.s (.str (T sg))) (.s (dr ms (.str fi) ks vs)) (.s (rd sg ms (goF ks vs) (.str fi) ld)) v6 v7 v8 v9 v10 v11 v12 v13) ((sSet_of (fAp_of (aC_of (x := .str (T sg)) rfl (aC_of (x := dr ms (.str fi) ks vs) rfl rfl)) e3)).trans rfl) ?_
  exact sSeq_of e4 e6
theorem law_ok {ns : List Int} (hn : ns.length ≤ 1000) : fnD 1 14 b_law [.lst (ns.map .int)] = some (.bl true) := by
  have hmx : fB maxO (fC (.int 1)) (fB minO (fC (.int 3)) (fU lenD (pN 0))) (EL (ns.map .int) .u .u .u .u .u .u .u .u .u .u .u .u .u) = some (.int (if (if ((ns.map D.int).length : Int) < 3 then ((ns.map D.int).length : Int) else 3) > 1 then (if ((ns.map D.int).length : Int) < 3 then ((ns.map D.int).length : Int) else 3) else 1), EL (ns.map .int) .u .u .u .u .u .u .u .u .u .u .u .u .u) := fB_of (x := .int 1) rfl (fB_of (x := .int 3) rfl (fU_of (x := .lst (ns.map .int)) rfl rfl) rfl) rfl
  generalize hN : (if (if ((ns.map D.int).length : Int) < 3 then ((ns.map D.int).length : Int) else 3) > 1 then (if ((ns.map D.int).length : Int) < 3 then ((ns.map D.int).length : Int) else 3) else (1 : Int)) = N at hmx
  have hNb : 1 ≤ N ∧ N ≤ 3 := by
    rw [← hN]
    constructor <;> (repeat' split) <;> omega
  have hrng : iR1 (aC (fB maxO (fC (.int 1)) (fB minO (fC (.int 3)) (fU lenD (pN 0)))) aN) (EL (ns.map .int) .u .u .u .u .u .u .u .u .u .u .u .u .u) = some (rngD 0 N, EL (ns.map .int) .u .u .u .u .u .u .u .u .u .u .u .u .u) := iR1_of (aC_of hmx rfl) (by omega) (by omega)
  obtain ⟨ρ', e1, hm, v1, v2, v3, v4, v5, v6, v7, v8, v9, v10, v11, v12, v13, rfl⟩ := sFor_rec (tg := gN 1) (b := bodyL) (fun rest ρ => (∀ x ∈ rest, ∃ k : Int, x = .int k ∧ 0 ≤ k ∧ k < 1000) ∧ ∃ v1 v2 v3 v4 v5 v6 v7 v8 v9 v10 v11 v12 v13, ρ = EL (ns.map .int) v1 v2 v3 v4 v5 v6 v7 v8 v9 v10 v11 v12 v13) hrng ⟨fun x hx => by
      unfold rngD at hx
      obtain ⟨i, hi, rfl⟩ := List.mem_map.mp hx
      rw [List.mem_range] at hi
      exact ⟨_, rfl, by omega, by omega⟩, .u, .u, .u, .u, .u, .u, .u, .u, .u, .u, .u, .u, .u, rfl⟩ (fun x xs ρ h => by
      obtain ⟨hm, v1, v2, v3, v4, v5, v6, v7, v8, v9, v10, v11, v12, v13, rfl⟩ := h
      obtain ⟨k, rfl, hk⟩ := hm x List.mem_cons_self
      obtain ⟨w2, w3, w4, w5, w6, w7, w8, w9, w10, w11, w12, w13, e⟩ := bodyL_ok hn hk v2 v3 v4 v5 v6 v7 v8 v9 v10 v11 v12 v13
      exact ⟨_, _, rfl, e, fun y hy => hm y (List.mem_cons_of_mem _ hy), .s (.int k), w2, w3, w4, w5, w6, w7, w8, w9, w10, w11, w12, w13, rfl⟩)
  refine fnD_rt (ρ := EL (ns.map .int) v1 v2 v3 v4 v5 v6 v7 v8 v9 v10 v11 v12 v13) rfl ?_
  rw [b_law_eq]
  exact sSeq_of e1 rfl
end K21
namespace K21
open PySem PySem.Spec PyProof.Rows L2 AR VS
theorem factsL {w : World} {K : PySem.W.Frag} {h : Heap} {mg : Str → Option Value} (X : K.In h) (G : h.Ns mainGlobals mg) (c : He.SaysX faL fnL [] [] exL w h K) : Tx K mg := by
  have x0 : exL K = true := c.more
  unfold exL at x0
  have y0 := x0
  have c0 := c
  exact {
    b_len := He.free_ok X G (c.t.d.fact 1 (f := .free "len") rfl),
    b_list := He.free_ok X G (c.t.d.fact 2 (f := .free "list") rfl),
    b_range := He.free_ok X G (c.t.d.fact 3 (f := .free "range") rfl),
    b_zip := He.free_ok X G (c.t.d.fact 4 (f := .free "zip") rfl),
    b_tuple := He.free_ok X G (c.t.d.fact 5 (f := .free "tuple") rfl),
    b_enumerate := He.free_ok X G (c.t.d.fact 6 (f := .free "enumerate") rfl),
    b_dict := He.free_ok X G (c.t.d.fact 7 (f := .free "dict") rfl),
    b_isinstance := He.free_ok X G (c.t.d.fact 8 (f := .free "isinstance") rfl),
    b_str := He.free_ok X G (c.t.d.fact 9 (f := .free "str") rfl),
    b_all := He.free_ok X G (c.t.d.fact 10 (f := .free "all") rfl),
    b_int := He.free_ok X G (c.t.d.fact 11 (f := .free "int") rfl),
    b_abs := He.free_ok X G (c.t.d.fact 12 (f := .free "abs") rfl),
    b_max := He.free_ok X G (c.t.d.fact 13 (f := .free "max") rfl),
    b_min := He.free_ok X G (c.t.d.fact 14 (f := .free "min") rfl),
    b_repr := He.free_ok X G (c.t.d.fact 15 (f := .free "repr") rfl),
    k_LETTERS := by
      obtain ⟨t, e⟩ := He.str_ok X G (c.t.d.fact 16 (f := .str "LETTERS" "abcdefghijklmnopqrstuvwxyz") rfl)
      exact ⟨_, .str "abcdefghijklmnopqrstuvwxyz", e, ⟨t, rfl⟩, fun H => .str (SG.of (by decide +kernel))⟩,
    k_KEPT := ⟨_, .ref (He.ga K "KEPT"), He.glo_ok X G (c.t.d.fact 0 (f := .glo "KEPT") rfl), rfl, fun H => .ktp (He.tupB_ok y0 H) (by rw [List.length_map]; decide) (by
      have : ∀ l : List Str, (∀ x ∈ l, (decide (x.length ≤ sizeLine) && PyData.strOk x) = true) → RepAll K H ((l.map He.Dv.str).map (He.Dv.v K)) (l.map D.str) := fun l => by
        induction l with
        | nil => intro _; exact .nil
        | cons a l ih => intro hl; exact .cons (.str (SG.of (hl a List.mem_cons_self))) (ih fun x hx => hl x (List.mem_cons_of_mem _ hx))
      exact this keptL (by decide +kernel))⟩,
    at_marks := fun c hc => by
      rw [List.mem_singleton.mp hc]
      exact ⟨He.cls_ok (c0.t.d.fact 43 (f := .cls "Reader") rfl), He.noat_ok (c0.t.d.fact 44 (f := .noat "Reader" "marks") rfl)⟩,
    at_signs := fun c hc => by
      rw [List.mem_singleton.mp hc]
      exact ⟨He.cls_ok (c0.t.d.fact 43 (f := .cls "Reader") rfl), He.noat_ok (c0.t.d.fact 45 (f := .noat "Reader" "signs") rfl)⟩,
    at_steps := fun c hc => by
      rw [List.mem_singleton.mp hc]
      exact ⟨He.cls_ok (c0.t.d.fact 43 (f := .cls "Reader") rfl), He.noat_ok (c0.t.d.fact 46 (f := .noat "Reader" "steps") rfl)⟩,
    at_first := fun c hc => by
      rw [List.mem_singleton.mp hc]
      exact ⟨He.cls_ok (c0.t.d.fact 43 (f := .cls "Reader") rfl), He.noat_ok (c0.t.d.fact 47 (f := .noat "Reader" "first") rfl)⟩,
    at_leads := fun c hc => by
      rw [List.mem_singleton.mp hc]
      exact ⟨He.cls_ok (c0.t.d.fact 43 (f := .cls "Reader") rfl), He.noat_ok (c0.t.d.fact 48 (f := .noat "Reader" "leads") rfl)⟩,
    cl_Reader := He.cls_ok (c.t.d.fact 43 (f := .cls "Reader") rfl),
    d_less := by
      obtain ⟨fd, F⟩ := c.t.d.def_ 0 (d := dD_w_less) rfl
      exact ⟨_, fd, F, He.glo_ok X G (c.t.d.fact 17 (f := .glo "_law_less") rfl), F.bindsN (ps := ["_law_flow_here", "_law_wide"]) (fun _ _ _ _ _ _ us hl => match us, hl with | [_, _], _ => rfl)⟩,
    d_flow := by
      obtain ⟨fd, F⟩ := c.t.d.def_ 1 (d := dD_w_flow) rfl
      exact ⟨_, fd, F, He.glo_ok X G (c.t.d.fact 18 (f := .glo "_law_flow") rfl), F.bindsN (ps := ["_law_script", "_law_base"]) (fun _ _ _ _ _ _ us hl => match us, hl with | [_, _], _ => rfl)⟩,
    d_any_of := by
      obtain ⟨fd, F⟩ := c.t.d.def_ 2 (d := dD_w_any_of) rfl
      exact ⟨_, fd, F, He.glo_ok X G (c.t.d.fact 19 (f := .glo "_law_any_of") rfl), F.bindsN (ps := ["_law_flow_here", "_law_some"]) (fun _ _ _ _ _ _ us hl => match us, hl with | [_, _], _ => rfl)⟩,
    d_shaken := by
      obtain ⟨fd, F⟩ := c.t.d.def_ 3 (d := dD_w_shaken) rfl
      exact ⟨_, fd, F, He.glo_ok X G (c.t.d.fact 20 (f := .glo "_law_shaken") rfl), F.bindsN (ps := ["_law_flow_here", "_law_some"]) (fun _ _ _ _ _ _ us hl => match us, hl with | [_, _], _ => rfl)⟩,
    d_letters := by
      obtain ⟨fd, F⟩ := c.t.d.def_ 4 (d := dD_w_letters) rfl
      exact ⟨_, fd, F, He.glo_ok X G (c.t.d.fact 21 (f := .glo "_law_letters") rfl), F.bindsN (ps := ["_law_flow_here", "_law_most"]) (fun _ _ _ _ _ _ us hl => match us, hl with | [_, _], _ => rfl)⟩,
    d_draft := by
      obtain ⟨fd, F⟩ := c.t.d.def_ 5 (d := dD_w_draft) rfl
      exact ⟨_, fd, F, He.glo_ok X G (c.t.d.fact 22 (f := .glo "_law_draft") rfl), F.bindsN (ps := ["_law_flow_here", "_law_signs_here", "_law_most"]) (fun _ _ _ _ _ _ us hl => match us, hl with | [_, _, _], _ => rfl)⟩,
    d_line := by
      obtain ⟨fd, F⟩ := c.t.d.def_ 6 (d := dD_w_line) rfl
      exact ⟨_, fd, F, He.glo_ok X G (c.t.d.fact 23 (f := .glo "_law_line") rfl), F.bindsN (ps := ["_law_flow_here", "_law_signs_here", "_law_most"]) (fun _ _ _ _ _ _ us hl => match us, hl with | [_, _, _], _ => rfl)⟩,
    d_first_act := by
      obtain ⟨fd, F⟩ := c.t.d.def_ 7 (d := dD_first_act) rfl
      exact ⟨_, fd, F, He.glo_ok X G (c.t.d.fact 24 (f := .glo "first_act") rfl), F.bindsN (ps := ["reader"]) (fun _ _ _ _ _ _ us hl => match us, hl with | [_], _ => rfl)⟩,
    d_sign_acts := by
      obtain ⟨fd, F⟩ := c.t.d.def_ 8 (d := dD_sign_acts) rfl
      exact ⟨_, fd, F, He.glo_ok X G (c.t.d.fact 25 (f := .glo "sign_acts") rfl), F.bindsN (ps := ["reader"]) (fun _ _ _ _ _ _ us hl => match us, hl with | [_], _ => rfl)⟩,
    d_act_then := by
      obtain ⟨fd, F⟩ := c.t.d.def_ 9 (d := dD_act_then) rfl
      exact ⟨_, fd, F, He.glo_ok X G (c.t.d.fact 26 (f := .glo "act_then") rfl), F.bindsN (ps := ["reader", "one", "other"]) (fun _ _ _ _ _ _ us hl => match us, hl with | [_, _, _], _ => rfl)⟩,
    d_act := by
      obtain ⟨fd, F⟩ := c.t.d.def_ 10 (d := dD_act) rfl
      exact ⟨_, fd, F, He.glo_ok X G (c.t.d.fact 27 (f := .glo "act") rfl), F.bindsN (ps := ["reader", "row"]) (fun _ _ _ _ _ _ us hl => match us, hl with | [_, _], _ => rfl)⟩,
    d_acts := by
      obtain ⟨fd, F⟩ := c.t.d.def_ 11 (d := dD_acts) rfl
      exact ⟨_, fd, F, He.glo_ok X G (c.t.d.fact 28 (f := .glo "acts") rfl), F.bindsN (ps := ["reader"]) (fun _ _ _ _ _ _ us hl => match us, hl with | [_], _ => rfl)⟩,
    d_is_sequence := by
      obtain ⟨fd, F⟩ := c.t.d.def_ 12 (d := dD_is_sequence) rfl
      exact ⟨_, fd, F, He.glo_ok X G (c.t.d.fact 29 (f := .glo "is_sequence") rfl), F.bindsN (ps := ["value"]) (fun _ _ _ _ _ _ us hl => match us, hl with | [_], _ => rfl)⟩,
    d_are_signs := by
      obtain ⟨fd, F⟩ := c.t.d.def_ 13 (d := dD_are_signs) rfl
      exact ⟨_, fd, F, He.glo_ok X G (c.t.d.fact 30 (f := .glo "are_signs") rfl), F.bindsN (ps := ["value"]) (fun _ _ _ _ _ _ us hl => match us, hl with | [_], _ => rfl)⟩,
    d_is_row := by
      obtain ⟨fd, F⟩ := c.t.d.def_ 14 (d := dD_is_row) rfl
      exact ⟨_, fd, F, He.glo_ok X G (c.t.d.fact 31 (f := .glo "is_row") rfl), F.bindsN (ps := ["signs", "value"]) (fun _ _ _ _ _ _ us hl => match us, hl with | [_, _], _ => rfl)⟩,
    d_is_some_row := by
      obtain ⟨fd, F⟩ := c.t.d.def_ 15 (d := dD_is_some_row) rfl
      exact ⟨_, fd, F, He.glo_ok X G (c.t.d.fact 32 (f := .glo "is_some_row") rfl), F.bindsN (ps := ["value"]) (fun _ _ _ _ _ _ us hl => match us, hl with | [_], _ => rfl)⟩,
    d_is_name := by
      obtain ⟨fd, F⟩ := c.t.d.def_ 16 (d := dD_is_name) rfl
      exact ⟨_, fd, F, He.glo_ok X G (c.t.d.fact 33 (f := .glo "is_name") rfl), F.bindsN (ps := ["value"]) (fun _ _ _ _ _ _ us hl => match us, hl with | [_], _ => rfl)⟩,
    d_are_marks := by
      obtain ⟨fd, F⟩ := c.t.d.def_ 17 (d := dD_are_marks) rfl
      exact ⟨_, fd, F, He.glo_ok X G (c.t.d.fact 34 (f := .glo "are_marks") rfl), F.bindsN (ps := ["value"]) (fun _ _ _ _ _ _ us hl => match us, hl with | [_], _ => rfl)⟩,
    d_are_steps := by
      obtain ⟨fd, F⟩ := c.t.d.def_ 18 (d := dD_are_steps) rfl
      exact ⟨_, fd, F, He.glo_ok X G (c.t.d.fact 35 (f := .glo "are_steps") rfl), F.bindsN (ps := ["signs", "marks", "value"]) (fun _ _ _ _ _ _ us hl => match us, hl with | [_, _, _], _ => rfl)⟩,
    d_wrong_word := by
      obtain ⟨fd, F⟩ := c.t.d.def_ 19 (d := dD_wrong_word) rfl
      exact ⟨_, fd, F, He.glo_ok X G (c.t.d.fact 36 (f := .glo "wrong_word") rfl), F.bindsN (ps := ["signs", "marks", "first", "steps"]) (fun _ _ _ _ _ _ us hl => match us, hl with | [_, _, _, _], _ => rfl)⟩,
    i_Reader := by
      obtain ⟨fd, F⟩ := c.t.d.def_ 25 (d := dD_Reader_init) rfl
      exact ⟨_, fd, F, He.mkr_ok (c.t.d.fact 49 (f := .mkr "Reader") rfl), He.glo_ok X G (c.t.d.fact 42 (f := .glo "Reader") rfl), F.bindsN (ps := ["self", "signs", "marks", "first", "steps"]) (fun _ _ _ _ _ _ us hl => match us, hl with | [_, _, _, _, _], _ => rfl)⟩,
    d_reader := by
      obtain ⟨fd, F⟩ := c.t.d.def_ 20 (d := dD_w_reader) rfl
      exact ⟨_, fd, F, He.glo_ok X G (c.t.d.fact 37 (f := .glo "_law_reader") rfl), F.bindsN (ps := ["_law_signs_here", "_law_draft_here"]) (fun _ _ _ _ _ _ us hl => match us, hl with | [_, _], _ => rfl)⟩,
    d_leads := by
      obtain ⟨fd, F⟩ := c.t.d.def_ 21 (d := dD_w_leads) rfl
      exact ⟨_, fd, F, He.glo_ok X G (c.t.d.fact 38 (f := .glo "_law_leads") rfl), F.bindsN (ps := ["_law_draft_here", "_law_mark", "_law_line_here"]) (fun _ _ _ _ _ _ us hl => match us, hl with | [_, _, _], _ => rfl)⟩,
    d_deed := by
      obtain ⟨fd, F⟩ := c.t.d.def_ 22 (d := dD_w_deed) rfl
      exact ⟨_, fd, F, He.glo_ok X G (c.t.d.fact 39 (f := .glo "_law_deed") rfl), F.bindsN (ps := ["_law_draft_here", "_law_line_here"]) (fun _ _ _ _ _ _ us hl => match us, hl with | [_, _], _ => rfl)⟩,
    d_deeds := by
      obtain ⟨fd, F⟩ := c.t.d.def_ 23 (d := dD_w_deeds) rfl
      exact ⟨_, fd, F, He.glo_ok X G (c.t.d.fact 40 (f := .glo "_law_deeds") rfl), F.bindsN (ps := ["_law_draft_here", "_law_signs_here"]) (fun _ _ _ _ _ _ us hl => match us, hl with | [_, _], _ => rfl)⟩ }
end K21
open PySem PySem.W PySem.Calls PyProof.Rows
theorem PySem.Challenge.cw_allrows_k21_acts_of_rows_holds : PySem.Challenge.rw_allrows_k21_acts_of_rows.Holds := by
  w_on; o_law
  refine HandSHeadRun.head_any (r := OpenLaw.row PySem.Challenge.rw_allrows_k21_acts_of_rows) (q := view (OpenLaw.row PySem.Challenge.rw_allrows_k21_acts_of_rows).prog [38]) (H := K21.hkL) (ob := K21.obL) (M := 4000) (loose := K21.looseL) (d := HandSHeadRun.topDef (OpenLaw.row PySem.Challenge.rw_allrows_k21_acts_of_rows).prog 38) (kwd := []) K21.ob_eq
    (by kernel_rfl) (fun s => by kernel_rfl) K21.runL (by kernel_rfl) (by kernel_rfl) (by kernel_rfl) (by rfl) (by first | assumption | decide +kernel) (by decide +kernel) ⟨rfl, rfl, rfl, rfl, rfl, by decide +kernel⟩ ?hw ?hc
  case hw => w_witness2
  case hc =>
    refine AR.walkG (l := PySem.Challenge.rw_allrows_k21_acts_of_rows) (n := 63) (k := 9) (x := "_law_script") rfl (by decide) (by kernel_rfl) ⟨rfl, by decide, by decide⟩ ?F
    intro w mg fa h Y G hmg0
    obtain ⟨K, KX, c⟩ := Y
    have hmg : mg ("law" : PySem.Str) = some (.ref fa) := by
      have e : (HandSHeadRun.topDef (OpenLaw.row PySem.Challenge.rw_allrows_k21_acts_of_rows).prog 38).name = ("law" : PySem.Str) := by kernel_rfl
      rw [← e]
      exact hmg0
    have T := K21.factsL KX G c
    obtain ⟨fd, F⟩ := c.t.d.def_ 24 (d := K21.dD_law) rfl
    have e := hmg.symm.trans (He.glo_ok KX G (c.t.d.fact 41 (f := .glo "law") rfl))
    cases e
    have b := L2.FunD.bindsA (ps := ["_law_script"]) F fun _ _ _ _ _ _ us hl => match us, hl with | [_], _ => rfl
    exact ⟨K, fd, VS.spF K 1 (VS.fnD 1 14 K21.b_law), KX, fun s v => b s [v] rfl, fun H a ns hl o hS => VS.law_sp o hS (Nat.le_trans hl (by decide)) (K21.law_ok (by omega)), fun base _ _ => K21.v_law T F⟩
