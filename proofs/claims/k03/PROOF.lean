import PyProof.Rows.All
import Wide.All
import OpenK.AllK
import Wide.FinOn
import HandS.ForMost
import HandS.Codes
import HandS.Defaults
import PyProof.StrLawsIn
import PyProof.StrLawsChain
import PyProof.StrBlockL
import KE.GoesNew
import KE.GoesEnum
import HandS.Walk
import HandS.SlotsOwn
import PyProof.ListStr
import PyProof.Rows.StrRev
import HandS.Style
import KE.KxIndex
import KE.KDictZip
import KE.KDictItemsList
import HandS.IsInst
import HandS.NoneIn
import HandS.TupAny
import HandS.Replace
import HandS.HeadHook4
import HandS.Head0
import HandS.Head1
import HandS.Head2
import HandS.HeadEnd
import PySem.Challenge.RW_allrows_k03_changes_done_one_behind_anot
set_option Elab.async false
set_option linter.all false
set_option maxRecDepth 100000
set_option maxHeartbeats 0
/-! AR: the small layer of this work over HandS -/
namespace AR
open PySem PySem.Spec PyProof.Rows L2
/-- a def of the module under its name, as the top leaves it -/
structure GD (K : PySem.W.Frag) (mg : Str → Option Value) (x : Str) (st : Stmt) (ps : List Str) : Prop where
  ex : ∃ (f : Addr) (fd : FuncData), FunD K x x (defArgs st) (defBody st) (defScope st) [] [] f fd ∧ mg x = some (.ref f) ∧ Binds K fd ps []
section
variable {P : Program} {w : World} {K : PySem.W.Frag} {mg : Str → Option Value} {base : Heap}
theorem GD.cal {x : Str} {st : Stmt} {N ps : List Str} {k : Nat} {sp : Sp} (G : GD K mg x st ps) (S : FnScope N ps (defScope st)) (len : ∀ vs H Q E, sp vs H Q E → vs.length = ps.length)
    (hbody : ∀ (f : Addr) (cdv : Value) (A : Around) (outer : List Env) (s : Shared) (H : Hp) (vs : List V) (Q : VK) (E : XK), Room k (A.deeper (envOfC x (defScope st) s.heap.objs.size f cdv)) → sp vs H Q E →
      ∃ t, PSs (cxOf CX0 P w K mg base N x (defScope st) f cdv A outer s H E).nox (defBody st) t ∧ t { nx := fun _ H' => Q .non H', rt := Q } (start N vs) H) : C8.Cal P w K mg base (k + 1) x sp [] := by
  obtain ⟨f, fd, F, m, b⟩ := G.ex
  refine ⟨f, fd, ps, [], F.ok S len fun cdv A outer s H vs Q E hr hsp => ?_, m, F.kp, b, .nil⟩
  obtain ⟨t, h, q⟩ := hbody f cdv A outer s H vs Q E hr hsp
  exact ⟨t, h.nox, q⟩
end
/-! ### boxes -/
/-- a list of three ints -/
def Box (o : HO) : Prop := ∃ x y z : Int, o = .lst [.int x, .int y, .int z]
/-- what is no box stays as it is; a box stays a box -/
structure Keep (H H' : Hp) : Prop where
  st : ∀ a o, H a = some o → ¬ Box o → H' a = some o
  bx : ∀ a o, H a = some o → Box o → ∃ o', H' a = some o' ∧ Box o'
theorem Keep.refl (H : Hp) : Keep H H := ⟨fun _ _ h _ => h, fun _ _ h b => ⟨_, h, b⟩⟩
theorem Keep.trans {H H1 H2 : Hp} (a : Keep H H1) (b : Keep H1 H2) : Keep H H2 :=
  ⟨fun c o h n => b.st c o (a.st c o h n) n, fun c o h n => by
    obtain ⟨o', h1, b1⟩ := a.bx c o h n
    exact b.bx c o' h1 b1⟩
theorem Keep.free {H H' : Hp} (e : Keep H H') {l : Addr} (h : H' l = none) : H l = none := by
  cases q : H l with
  | none => rfl
  | some o =>
    by_cases b : Box o
    · obtain ⟨o', h1, _⟩ := e.bx l o q b
      rw [h] at h1; cases h1
    · rw [e.st l o q b] at h; cases h
theorem Keep.same {H H' : Hp} (e : Same H H') : Keep H H' := ⟨fun a o h _ => e a o h, fun a o h b => ⟨o, e a o h, b⟩⟩
/-- a new object -/
theorem Keep.new {H : Hp} {p : Addr} {o : HO} (h : H p = none) : Keep H (upd H p o) := Keep.same fun a u e => by rw [upd_ne (ne_of_none e h)]; exact e
/-- an object that H does not know may change -/
theorem Keep.mut {H H' : Hp} {p : Addr} {o : HO} (e : Keep H H') (h : H p = none) : Keep H (upd H' p o) :=
  ⟨fun a u ha n => by rw [upd_ne (ne_of_none ha h)]; exact e.st a u ha n, fun a u ha n => by rw [upd_ne (ne_of_none ha h)]; exact e.bx a u ha n⟩
/-- a box is changed -/
theorem Keep.box {H : Hp} {p : Addr} {o o' : HO} (h : H p = some o) (b : Box o) (b' : Box o') : Keep H (upd H p o') :=
  ⟨fun a u ha n => by
    by_cases e : a = p
    · subst e; rw [h] at ha; cases ha; exact absurd b n
    · rw [upd_ne e]; exact ha, fun a u ha n => by
    by_cases e : a = p
    · subst e; exact ⟨_, upd_same, b'⟩
    · rw [upd_ne e]; exact ⟨_, ha, n⟩⟩
/-- the box at b -/
def BoxAt (H : Hp) (b : Addr) : Prop := ∃ x y z : Int, H b = some (.lst [.int x, .int y, .int z])
theorem BoxAt.keep {H H' : Hp} {b : Addr} (h : BoxAt H b) (k : Keep H H') : BoxAt H' b := by
  obtain ⟨x, y, z, e⟩ := h
  obtain ⟨o', h1, x', y', z', rfl⟩ := k.bx b _ e ⟨x, y, z, rfl⟩
  exact ⟨x', y', z', h1⟩
end AR
namespace AR
open PySem
abbrev toL (s : Str) : List Nat := s.cps.toList
def ofL (l : List Nat) : Str := ⟨l.toArray⟩
@[simp] theorem toL_ofL (l : List Nat) : toL (ofL l) = l := by simp [toL, ofL]
theorem str_ext {a b : Str} (h : toL a = toL b) : a = b := by
  obtain ⟨a⟩ := a
  obtain ⟨b⟩ := b
  have : a = b := Array.ext' h
  rw [this]
@[simp] theorem ofL_toL (s : Str) : ofL (toL s) = s := str_ext (by simp)
theorem len_toL (s : Str) : s.length = (toL s).length := by simp [toL, Str.length]
theorem toL_append (a b : Str) : toL (a ++ b) = toL a ++ toL b := by
  obtain ⟨a⟩ := a
  obtain ⟨b⟩ := b
  show (a ++ b).toList = a.toList ++ b.toList
  simp
theorem join_empty : ∀ ys : List Str, toL (Str.join Str.empty ys) = ys.flatMap toL
  | [] => rfl
  | [x] => by simp [Str.join]
  | x :: y :: r => by
    show toL (x ++ Str.empty ++ Str.join Str.empty (y :: r)) = _
    rw [toL_append, toL_append, join_empty (y :: r)]
    have : toL Str.empty = [] := rfl
    rw [this, List.append_nil]
    rfl
theorem txt_join (ys : List Str) : toL (Txt.join Str.empty ys) = ys.flatMap toL := by
  show toL (Builtin.Str.glued Str.empty ys) = _
  rw [StrLaws.glued_eq_join, join_empty]
theorem txt_join0 (ys : List Str) : Txt.join "" ys = ofL (ys.flatMap toL) := by
  have e : ("" : Str) = Str.empty := by decide +kernel
  rw [e]
  exact str_ext (by rw [txt_join]; simp)
theorem occ_one {x : Str} {c : Nat} (h : c ∈ toL x) : ∃ i rest, Builtin.Str.occurrences x ⟨#[c]⟩ 0 x.length 1 = i :: rest ∧ (toL x)[i]? = some c := by
  have h1 := StrLaws.found_one x c
  rw [decide_eq_true h] at h1
  obtain ⟨f, hc⟩ := StrLaws.occ_chain x ⟨#[c]⟩ 1
  cases e : Builtin.Str.occurrences x ⟨#[c]⟩ 0 x.length 1 with
  | nil => rw [e] at h1; cases h1
  | cons i r =>
    rw [e] at hc
    exact ⟨i, r, rfl, (StrLaws.subAt_one x c i).mp hc.2.1⟩
end AR
namespace AR
open PySem PySem.Spec PyProof.Rows L2
section
variable {K : PySem.W.Frag} {σ : L2.St} {H H' : Hp} {Q : VK} {D : Ends} {i : Nat} {v x y : V} {ta tb te : TE} {t u : TS} {c : TT} {r : R2} {a b p : Addr}
theorem i_var {v : V} (h : σ[i]? = some (some v)) (k : Q v H) : tVar i σ H Q := ⟨v, h, k⟩
theorem i_c (k : Q v H) : tC v σ H Q := k
theorem i_op (k : ta σ H fun x H1 => tb σ H1 fun y H2 => r x y H2 Q) : tOp r ta tb σ H Q := k
theorem i_un {r : V → Hp → VK → Prop} (k : ta σ H fun x H1 => r x H1 Q) : tUn r ta σ H Q := k
theorem i_I0 {g : Int → Int → V} {i j : Int} (k : Q (g i j) H) : rI0 g (.int i) (.int j) H Q := ⟨i, j, rfl, rfl, k⟩
theorem i_I {C : Int → Int → Prop} {g : Int → Int → V} {i j : Int} (c : C i j) (k : Q (g i j) H) : rI C g (.int i) (.int j) H Q := ⟨i, j, rfl, rfl, c, k⟩
theorem i_U {g : Int → V} {i : Int} (k : Q (g i) H) : rU g (.int i) H Q := ⟨i, rfl, k⟩
theorem i_eq (s : scal x y = true) (k : Q (.bl (decide (x = y))) H) : rEq x y H Q := ⟨s, k⟩
theorem i_ne (s : scal x y = true) (k : Q (.bl (!decide (x = y))) H) : rNe x y H Q := ⟨s, k⟩
theorem i_ixL {xs : List V} {i : Int} {v : V} (h : SqL K H p xs) (e : atI xs i = some v) (k : Q v H) : rIxL K (.ref p) (.int i) H Q := ⟨p, xs, i, v, rfl, rfl, h, e, k⟩
theorem i_ixT {xs : List V} {i : Int} {v : V} (h : SqT K H p xs) (e : atI xs i = some v) (k : Q v H) : rIxT K (.ref p) (.int i) H Q := ⟨p, xs, i, v, rfl, rfl, h, e, k⟩
theorem i_nil {Q : List V → Hp → Prop} (k : Q [] H) : tNil σ H Q := k
theorem i_cons {tr : TA} {Q : List V → Hp → Prop} (k : ta σ H fun x H1 => tr σ H1 fun xs H2 => Q (x :: xs) H2) : tCons ta tr σ H Q := k
theorem i_cb {r : List V → Hp → VK → Prop} {t : TA} (k : t σ H fun vs H1 => r vs H1 Q) : tCB r t σ H Q := k
theorem i_call {sp : Sp} {dvs : List V} {E : XK} {t : TA} (k : t σ H fun vs H1 => sp (vs ++ dvs) H1 Q E) : tCall sp dvs E t σ H Q := k
theorem i_seq (k : t { D with nx := u D } σ H) : tSeq t u D σ H := k
theorem i_asg {g : TG} (k : te σ H fun x H1 => g x σ H1 D.nx) : tAsg te g D σ H := k
theorem i_name {Q : L2.St → Hp → Prop} (k : Q (σ.set i (some v)) H) : gName i v σ H Q := k
theorem i_sub {to ti : TE} {ts : TSet} {Q : L2.St → Hp → Prop} (k : to σ H fun o H1 => ti σ H1 fun i H2 => ts o i v H2 fun H3 => Q σ H3) : gSub to ti ts v σ H Q := k
theorem i_drop (k : te σ H fun _ H1 => D.nx σ H1) : tDrop te D σ H := k
theorem i_ret (k : te σ H D.rt) : tRet te D σ H := k
theorem i_retN (k : D.rt .non H) : tRetN D σ H := k
theorem i_next (k : D.nx σ H) : tNext D σ H := k
theorem i_ifS (k : c σ H fun b H1 => if b = true then t D σ H1 else u D σ H1) : tIfS c t u D σ H := k
theorem i_test {Q : Bool → Hp → Prop} (k : te σ H fun x H1 => ∃ k, x = .bl k ∧ Q k H1) : tTest te σ H Q := k
theorem i_B {Q : Bool → Hp → Prop} (k : te σ H fun x H1 => ∃ k, x = .bl k ∧ Q k H1) : tB te σ H Q := k
theorem i_not {Q : Bool → Hp → Prop} (k : c σ H fun b H1 => Q (!b) H1) : tNot c σ H Q := k
theorem i_if {c : TT} (k : c σ H fun b H1 => if b = true then ta σ H1 Q else tb σ H1 Q) : tIf c ta tb σ H Q := k
/-- a test's bool is at hand -/
theorem i_bl {b : Bool} {P : Bool → Prop} (k : P b) : ∃ k, V.bl b = .bl k ∧ P k := ⟨b, rfl, k⟩
theorem i_dec {p : Prop} [Decidable p] {A B : Prop} (h1 : p → A) (h2 : ¬ p → B) : if decide p = true then A else B := by
  by_cases h : p
  · rw [if_pos (decide_eq_true h)]; exact h1 h
  · rw [if_neg (by simpa using h)]; exact h2 h
theorem i_decN {p : Prop} [Decidable p] {A B : Prop} (h1 : ¬ p → A) (h2 : p → B) : if (!decide p) = true then A else B := by
  by_cases h : p
  · rw [if_neg (by simpa using h)]; exact h2 h
  · rw [if_pos (by simpa using h)]; exact h1 h
/-- a new list, a new tuple: the heap behind it is any that keeps what stood -/
theorem i_lst {t : TA} (k : t σ H fun xs H1 => xs.length ≤ sizeLine ∧ ∀ p H', H1 p = none → Keep H1 H' → H' p = some (.lst xs) → Q (.ref p) H') : (t σ H fun xs H1 => xs.length ≤ sizeLine ∧ ∀ p H', H1 p = none → Keep H1 H' → H' p = some (.lst xs) → Q (.ref p) H') := k
theorem new_of {o : HO} {F : Addr → Hp → Prop} (k : ∀ p H', H p = none → Keep H H' → H' p = some o → F p H') : ∀ p, H p = none → F p (upd H p o) :=
  fun p hp => k p _ hp (Keep.new hp) upd_same
theorem i_setL {xs : List V} {k : Int} {j : Nat} {Q : Hp → Prop} (h : H p = some (.lst xs)) (e : ixN xs.length k = some j) (q : Q (upd H p (.lst (xs.set j v)))) : rSetL (.ref p) (.int k) v H Q := ⟨p, xs, k, j, rfl, rfl, h, e, q⟩
theorem i_setB {xs : List V} {k : Int} {j : Nat} {Q : Hp → Prop} (h : H p = some (.lst xs)) (b : Box (.lst xs)) (b' : Box (.lst (xs.set j v))) (e : ixN xs.length k = some j) (q : ∀ H', Keep H H' → H' p = some (.lst (xs.set j v)) → Q H') : rSetL (.ref p) (.int k) v H Q :=
  ⟨p, xs, k, j, rfl, rfl, h, e, q _ (Keep.box h b b') upd_same⟩
theorem i_int1 {n : Int} (k : Q (.int n) H) : (∃ i, [V.int n] = [V.int i] ∧ Q (.int i) H) ∨ ∃ b, [V.int n] = [V.bl b] ∧ Q (.int (if b = true then 1 else 0)) H := .inl ⟨n, rfl, k⟩
end
/-! ### what is no box -/
theorem nb_tup {xs : List V} : ¬ Box (.tup xs) := fun ⟨_, _, _, e⟩ => nomatch e
theorem nb_ins {C dx : Addr} {fs : List (Str × V)} : ¬ Box (.ins C dx fs) := fun ⟨_, _, _, e⟩ => nomatch e
theorem nb_dK {kvs : List (Key × V)} : ¬ Box (.dK kvs) := fun ⟨_, _, _, e⟩ => nomatch e
theorem nb_dT {kvs : List (List Key × V)} : ¬ Box (.dT kvs) := fun ⟨_, _, _, e⟩ => nomatch e
theorem nb_frz {o : Obj} {u : HO} : ¬ Box (.frz o u) := fun ⟨_, _, _, e⟩ => nomatch e
theorem nb_own {a : Addr} : ¬ Box (.own a) := fun ⟨_, _, _, e⟩ => nomatch e
theorem nb_strs {ys : List Str} : ¬ Box (.lst (ys.map V.str)) := fun ⟨x, y, z, e⟩ => by
  injection e with e
  cases ys with
  | nil => cases e
  | cons s r => rw [List.map_cons] at e; injection e with e1; cases e1
theorem nb_refs {ys : List Addr} : ¬ Box (.lst (ys.map V.ref)) := fun ⟨x, y, z, e⟩ => by
  injection e with e
  cases ys with
  | nil => cases e
  | cons s r => rw [List.map_cons] at e; injection e with e1; cases e1
theorem nb_nil : ¬ Box (.lst []) := fun ⟨_, _, _, e⟩ => by injection e with e; cases e
theorem nb_str1 {s : Str} {r : List V} : ¬ Box (.lst (V.str s :: r)) := fun ⟨_, _, _, e⟩ => by injection e with e; injection e with e1; cases e1
theorem nb_ref1 {s : Addr} {r : List V} : ¬ Box (.lst (V.ref s :: r)) := fun ⟨_, _, _, e⟩ => by injection e with e; injection e with e1; cases e1
section
variable {K : PySem.W.Frag} {H H' : Hp} {a : Addr} {xs : List V}
theorem Keep.rd {u : HO} (k : Keep H H') (n : ¬ Box u) (h : Rd H a u) : Rd H' a u := by
  rcases h with h | ⟨o, h⟩
  · exact .inl (k.st _ _ h n)
  · exact .inr ⟨o, k.st _ _ h nb_frz⟩
theorem Keep.sqT (k : Keep H H') (h : SqT K H a xs) : SqT K H' a xs := by
  rcases h with h | h
  · exact .inl (k.rd nb_tup h)
  · exact .inr h
theorem Keep.sqL (k : Keep H H') (n : ¬ Box (.lst xs)) (h : SqL K H a xs) : SqL K H' a xs := by
  rcases h with h | h
  · exact .inl (k.rd n h)
  · exact .inr h
end
/-- the script: whatever is drawn it is read -/
def Scr (K : PySem.W.Frag) (H : Hp) (a : Addr) (xs : List V) : Prop := ∀ H', Keep H H' → SqL K H' a xs
theorem Scr.keep {K : PySem.W.Frag} {H H' : Hp} {a : Addr} {xs : List V} (h : Scr K H a xs) (k : Keep H H') : Scr K H' a xs := fun H2 k2 => h H2 (k.trans k2)
theorem Scr.sq {K : PySem.W.Frag} {H : Hp} {a : Addr} {xs : List V} (h : Scr K H a xs) : SqL K H a xs := h H (Keep.refl H)
theorem Scr.of {K : PySem.W.Frag} {H : Hp} {a : Addr} {xs : List V} (o : ∀ b, H b = none ∨ ∃ o ys, H b = some (.frz o (.lst ys))) (h : SqL K H a xs) : Scr K H a xs := fun H' k => by
  rcases h with (h | ⟨ob, h⟩) | h
  · rcases o a with e | ⟨o', ys, e⟩
    · rw [e] at h; cases h
    · rw [e] at h; cases h
  · exact .inl (.inr ⟨ob, k.st _ _ h nb_frz⟩)
  · exact .inr h
section
variable {K : PySem.W.Frag} {σ : L2.St} {H H' : Hp} {Q : VK} {D : Ends} {p : Addr}
theorem i_tup {t : TA} (k : t σ H fun xs H1 => xs.length ≤ sizeLine ∧ ∀ p H', H1 p = none → Keep H1 H' → H' p = some (.tup xs) → Q (.ref p) H') (m : ∀ (A B : List V → Hp → Prop), (∀ x h, A x h → B x h) → t σ H A → t σ H B) : tTup t σ H Q :=
  m _ _ (fun xs H1 h => ⟨h.1, fun p hp => h.2 p _ hp (Keep.new hp) upd_same⟩) k
theorem newK {p : Addr} {o : HO} {H1 : Hp} (np : H p = none) (e : upd H p o = H1) : Keep H H1 ∧ H1 p = some o := by rw [← e]; exact ⟨Keep.new np, upd_same⟩
theorem newS {p : Addr} {o : HO} {H1 : Hp} (np : H p = none) (e : upd H p o = H1) : Same H H1 ∧ H1 p = some o := by rw [← e]; exact ⟨fun a u h => by rw [upd_ne (ne_of_none h np)]; exact h, upd_same⟩
/-- the display's own items are there -/
theorem i_lst1 {xs : List V} (hl : xs.length ≤ sizeLine) (k : ∀ p H', H p = none → Keep H H' → H' p = some (.lst xs) → Q (.ref p) H') : xs.length ≤ sizeLine ∧ ∀ p, H p = none → Q (.ref p) (upd H p (.lst xs)) :=
  ⟨hl, fun p hp => k p _ hp (Keep.new hp) upd_same⟩
theorem i_tup1 {xs : List V} {F : Addr → Hp → Prop} (hl : xs.length ≤ sizeLine) (k : ∀ p H', H p = none → Keep H H' → H' p = some (.tup xs) → F p H') : xs.length ≤ sizeLine ∧ ∀ p, H p = none → F p (upd H p (.tup xs)) :=
  ⟨hl, fun p hp => k p _ hp (Keep.new hp) upd_same⟩
theorem i_lst1S {xs : List V} {F : Addr → Hp → Prop} (hl : xs.length ≤ sizeLine) (k : ∀ p H', H p = none → Same H H' → H' p = some (.lst xs) → F p H') : xs.length ≤ sizeLine ∧ ∀ p, H p = none → F p (upd H p (.lst xs)) :=
  ⟨hl, fun p hp => k p _ hp (fun a u e => by rw [upd_ne (ne_of_none e hp)]; exact e) upd_same⟩
theorem i_tup1S {xs : List V} {F : Addr → Hp → Prop} (hl : xs.length ≤ sizeLine) (k : ∀ p H', H p = none → Same H H' → H' p = some (.tup xs) → F p H') : xs.length ≤ sizeLine ∧ ∀ p, H p = none → F p (upd H p (.tup xs)) :=
  ⟨hl, fun p hp => k p _ hp (fun a u e => by rw [upd_ne (ne_of_none e hp)]; exact e) upd_same⟩
/-- a new object of any kind -/
theorem i_new {o : HO} {F : Addr → Hp → Prop} (k : ∀ p H', H p = none → Keep H H' → H' p = some o → F p H') : ∀ p, H p = none → F p (upd H p o) := fun p hp => k p _ hp (Keep.new hp) upd_same
theorem i_newS {o : HO} {F : Addr → Hp → Prop} (k : ∀ p H', H p = none → Same H H' → H' p = some o → F p H') : ∀ p, H p = none → F p (upd H p o) := fun p hp => k p _ hp (fun a u e => by rw [upd_ne (ne_of_none e hp)]; exact e) upd_same
theorem i_Lst {t : TA} (k : t σ H fun xs H1 => xs.length ≤ sizeLine ∧ ∀ p, H1 p = none → Q (.ref p) (upd H1 p (.lst xs))) : tLst t σ H Q := k
theorem i_Tup {t : TA} (k : t σ H fun xs H1 => xs.length ≤ sizeLine ∧ ∀ p, H1 p = none → Q (.ref p) (upd H1 p (.tup xs))) : tTup t σ H Q := k
theorem i_par {i j : Nat} {ta : TA} {D : Ends} (k : ta σ H fun vs H1 => ∃ v w, vs = [v, w] ∧ D.nx ((σ.set i (some v)).set j (some w)) H1) : tPar i j ta D σ H := k
theorem i_and {c d : TT} {Q : Bool → Hp → Prop} (k : c σ H fun b H1 => if b = true then d σ H1 Q else Q false H1) : tAnd c d σ H Q := k
theorem i_or {c d : TT} {Q : Bool → Hp → Prop} (k : c σ H fun b H1 => if b = true then Q true H1 else d σ H1 Q) : tOr c d σ H Q := k
theorem i_andV {ta tb : TE} (k : ta σ H fun x H1 => ∃ c, x = .bl c ∧ if c = true then tb σ H1 Q else Q (.bl false) H1) : tAndV ta tb σ H Q := k
theorem i_orV {ta tb : TE} (k : ta σ H fun x H1 => ∃ c, x = .bl c ∧ if c = true then Q (.bl true) H1 else tb σ H1 Q) : tOrV ta tb σ H Q := k
theorem i_notV {ta : TE} (k : ta σ H fun x H1 => ∃ c, x = .bl c ∧ Q (.bl (!c)) H1) : tNotV ta σ H Q := k
theorem i_m1 {r : V → List V → Hp → VK → Prop} {to te : TE} (k : to σ H fun x H1 => (∃ z, x = .str z) ∧ te σ H1 fun y H2 => r x [y] H2 Q) : (to σ H fun x H1 => (∃ z, x = .str z) ∧ te σ H1 fun y H2 => r x [y] H2 Q) := k
theorem i_M1 {r : V → List V → Hp → VK → Prop} {to te : TE} (k : to σ H fun x H1 => (∃ z, x = .str z) ∧ te σ H1 fun y H2 => r x [y] H2 Q) : tM1 r to te σ H Q := k
theorem i_M0 {r : V → List V → Hp → VK → Prop} {to : TE} (k : to σ H fun x H1 => (∃ z, x = .str z) ∧ r x [] H1 Q) : tM0 r to σ H Q := k
theorem i_isS {z : Str} {B : Prop} (k : B) : (∃ a, V.str z = .str a) ∧ B := ⟨⟨z, rfl⟩, k⟩
theorem i_bm {T : String} {r : V → List V → Hp → VK → Prop} {to : TE} {t : TA} (k : to σ H fun x H1 => tyV K T x H1 ∧ t σ H1 fun xs H2 => r x xs H2 Q) : tBM K T r to t σ H Q := k
theorem i_bm0 {T : String} {r : V → List V → Hp → VK → Prop} {to : TE} (k : to σ H fun x H1 => tyV K T x H1 ∧ r x [] H1 Q) : tBM0 K T r to σ H Q := k
theorem i_fld {ta : TE} {f : Str} {a C dx : Addr} {fs : List (Str × V)} {v : V} (k : ta σ H fun x H1 => ∃ a C dx fs v, x = .ref a ∧ H1 a = some (.ins C dx fs) ∧ Cls K C ∧ NoAttr K C f ∧ fs.lookup f = some v ∧ Q v H1) : tFld K ta f σ H Q := k
theorem i_sl {r : V → Option Int → Option Int → Hp → VK → Prop} {te : TE} {tl th : TO} (k : te σ H fun x H1 => tl σ H1 fun l H2 => th σ H2 fun u H3 => r x l u H3 Q) : tSl r te tl th σ H Q := k
theorem i_part {t : TE} {Q : Option Int → Hp → Prop} (k : t σ H fun x H1 => ∃ i, x = .int i ∧ Q (some i) H1) : tPart t σ H Q := k
theorem i_nopart {Q : Option Int → Hp → Prop} (k : Q none H) : tNoPart σ H Q := k
theorem i_yes {Q : Bool → Hp → Prop} (k : Q true H) : tYes σ H Q := k
theorem i_it {A B : Prop} (h : A) : if true = true then A else B := by rw [if_pos rfl]; exact h
theorem i_if0 {A B : Prop} (h : B) : if false = true then A else B := by rw [if_neg (by decide)]; exact h
theorem i_iRng1 {ta : TA} {R : It → Hp → Prop} (k : ta σ H fun vs H1 => ∃ j : Int, vs = [.int j] ∧ -(2 ^ 62) ≤ j ∧ j < 2 ^ 62 ∧ R (Itr 0 j.toNat) H1) : iRng1 ta σ H R := k
theorem i_iStr {te : TE} {R : It → Hp → Prop} (k : te σ H fun v H1 => ∃ x, v = .str x ∧ R (Its x) H1) : iStr te σ H R := k
theorem i_iList {te : TE} {R : It → Hp → Prop} (k : te σ H fun x H1 => ∃ a, x = .ref a ∧ (∃ xs, SqL K H1 a xs) ∧ R (Itl K a) H1) : iList K te σ H R := k
theorem i_iTup {te : TE} {R : It → Hp → Prop} (k : te σ H fun x H1 => ∃ a, x = .ref a ∧ (∃ xs, SqT K H1 a xs) ∧ R (Itt K a) H1) : iTup K te σ H R := k
theorem i_for {wi : TI} {g : TG} {tb : TS} (k : wi σ H fun J H1 => ∃ W : Nat → Nat → L2.St → Hp → Prop, (∃ m, W 0 m σ H1) ∧ ∀ i m σ H, W i m σ H →
    (J.stop i H ∧ D.nx σ H) ∨ (J.go i H ∧ ∃ N : L2.St → Hp → Prop, (∀ σ' H', N σ' H' → ∃ m', m' < m ∧ W (i + 1) m' σ' H') ∧ ∀ x H', J.yld i H x H' → g x σ H' fun σ2 H2 => tb { D with nx := N, ct := N, bk := D.nx } σ2 H2)) : tFor wi g tb D σ H := k
end
end AR
namespace AR
open PySem PySem.Spec PyProof.Rows L2
/-! ### what is walked: a text, a list, a tuple -/
inductive Src where
  | txt (x : Str) | lst (a : Addr) | tup (a : Addr)
def Src.v : Src → V
  | .txt x => .str x
  | .lst a => .ref a
  | .tup a => .ref a
/-- the signs of a text as values -/
def chV (x : Str) : List V := x.cps.toList.map fun c => V.str ⟨#[c]⟩
def Src.has (K : PySem.W.Frag) (H : Hp) (xs : List V) : Src → Prop
  | .txt x => xs = chV x
  | .lst a => SqL K H a xs
  | .tup a => SqT K H a xs
def Src.fp : Src → List Addr
  | .txt _ => []
  | .lst a => [a]
  | .tup a => [a]
/-- the value it stands for -/
def Src.is (t : Tok) : Src → Value → Prop
  | .txt x, v => v = .str x t
  | .lst a, v => v = .ref a
  | .tup a, v => v = .ref a
def Src.obj (t : Tok) : Src → Obj
  | .txt x => { cls := .type (strIterType x), data := .fields #[.str x t, .int 0 0] }
  | .lst l => { cls := .type "list_iterator", data := .fields #[.ref l, .int 0 0] }
  | .tup l => { cls := .type "tuple_iterator", data := .fields #[.ref l, .int 0 0] }
/-- its iterator's state -/
def Src.at (t : Tok) (it : Addr) (i : Nat) (h : Heap) : Src → Prop
  | .txt x => h.IsStrIter it (strIterType x) x t i
  | .lst a => h.IsListIter it a i
  | .tup a => h.IsTupleIter it a i
/-- what the heap holds of it -/
def Src.ok (items : Array Value) (h : Heap) : Src → Prop
  | .txt _ => True
  | .lst a => h.IsList a items
  | .tup a => h.IsTuple a items
def Src.rel (xs : List V) (items : Array Value) : Src → Prop
  | .txt x => xs = chV x
  | .lst _ => Vals xs items.toList
  | .tup _ => Vals xs items.toList
section
variable {P : Program} {w : World} {A : Around}
theorem Src.draws (hh : A.handled = none) (src : Src) (t : Tok) (it : Addr) (items : Array Value) (xs : List V) (hr : src.rel xs items) (hne : ∀ b ∈ src.fp, b ≠ it) :
    Draws P w A it (it :: src.fp) xs.length (fun i v => ∃ x, xs[i]? = some x ∧ RelV x v) (fun i h => src.at t it i h ∧ src.ok items h) := by
  cases src with
  | txt x =>
    have hx : xs = chV x := hr
    have D := Draws.text (prog := P) (w := w) hh it x t
    have hl : xs.length = x.cps.size := by rw [hx]; simp [chV]
    refine ⟨fun i h st => D.live i h st.1, fun i h h' st k => ⟨D.frame i h h' st.1 fun b hb o e => k b (by rw [List.mem_singleton.mp hb]; exact List.mem_cons_self) o e, trivial⟩, fun i s Q E hi st hQ => ?_, fun s Q E st hE => ?_⟩
    · refine D.item i s Q E (by omega) st.1 fun v h' tk hv st' sb => hQ v h' tk ?_ ⟨st', trivial⟩ sb
      obtain ⟨c, u, hc, rfl⟩ := hv
      refine ⟨.str ⟨#[c]⟩, ?_, u, rfl⟩
      rw [hx]
      unfold chV
      rw [List.getElem?_map, Array.getElem?_toList, hc]
      rfl
    · exact D.done s Q E (by rw [← hl]; exact st.1) hE
  | lst a =>
    have hv : Vals xs items.toList := hr
    have D := Draws.list (prog := P) (w := w) hh it a (hne a (by simp [Src.fp])) items
    have hl : xs.length = items.size := by rw [hv.length]; simp
    refine ⟨fun i h st => D.live i h st, fun i h h' st k => D.frame i h h' st fun b hb o e => k b (by simpa [Src.fp] using hb) o e, fun i s Q E hi st hQ => ?_, fun s Q E st hE => ?_⟩
    · refine D.item i s Q E (by omega) st fun v h' tk hv' st' sb => hQ v h' tk ?_ st' sb
      obtain ⟨x, hx⟩ : ∃ x, xs[i]? = some x := ⟨xs[i], by simp [hi]⟩
      obtain ⟨u, hu, r⟩ := hv.get hx
      have : u = v := by
        rw [Array.getElem?_toList] at hu
        rw [hu] at hv'
        exact Option.some.inj hv'
      subst this
      exact ⟨x, hx, r⟩
    · exact D.done s Q E (by rw [← hl]; exact st) hE
  | tup a =>
    have hv : Vals xs items.toList := hr
    have D := Draws.tuple (prog := P) (w := w) hh it a (hne a (by simp [Src.fp])) items
    have hl : xs.length = items.size := by rw [hv.length]; simp
    refine ⟨fun i h st => D.live i h st, fun i h h' st k => D.frame i h h' st fun b hb o e => k b (by simpa [Src.fp] using hb) o e, fun i s Q E hi st hQ => ?_, fun s Q E st hE => ?_⟩
    · refine D.item i s Q E (by omega) st fun v h' tk hv' st' sb => hQ v h' tk ?_ st' sb
      obtain ⟨x, hx⟩ : ∃ x, xs[i]? = some x := ⟨xs[i], by simp [hi]⟩
      obtain ⟨u, hu, r⟩ := hv.get hx
      have : u = v := by
        rw [Array.getElem?_toList] at hu
        rw [hu] at hv'
        exact Option.some.inj hv'
      subst this
      exact ⟨x, hx, r⟩
    · exact D.done s Q E (by rw [← hl]; exact st) hE
theorem Src.begins (src : Src) (t : Tok) (items : Array Value) {v : Value} (hv : src.is t v) : Begins v (src.obj t) (src.ok items) := by
  cases src with
  | txt x => cases hv; exact begins_text x t
  | lst a => cases hv; exact begins_list a items
  | tup a => cases hv; exact begins_tuple a items
theorem Src.at_obj (src : Src) (t : Tok) {it : Addr} {h : Heap} (e : h.get? it = some (src.obj t)) : src.at t it 0 h := by
  cases src with
  | txt x => exact ⟨_, e, rfl, rfl⟩
  | lst a => exact ⟨_, e, rfl, rfl⟩
  | tup a => exact ⟨_, e, rfl, rfl⟩
theorem Src.at_keep (src : Src) {t : Tok} {it : Addr} {i : Nat} {h h' : Heap} (x : src.at t it i h) (k : ∀ o, h.get? it = some o → h'.get? it = some o) : src.at t it i h' := by
  cases src with
  | txt x' => obtain ⟨o, e, r⟩ := x; exact ⟨o, k o e, r⟩
  | lst a => obtain ⟨o, e, r⟩ := x; exact ⟨o, k o e, r⟩
  | tup a => obtain ⟨o, e, r⟩ := x; exact ⟨o, k o e, r⟩
theorem Src.at_live (src : Src) {t : Tok} {it : Addr} {i : Nat} {h : Heap} (x : src.at t it i h) : ∃ o, h.get? it = some o ∧ ∀ v, o.data ≠ .cell v := by
  cases src with
  | txt x' => obtain ⟨o, e, _, d⟩ := x; exact ⟨o, e, fun v q => by rw [d] at q; cases q⟩
  | lst a => obtain ⟨o, e, _, d⟩ := x; exact ⟨o, e, fun v q => by rw [d] at q; cases q⟩
  | tup a => obtain ⟨o, e, _, d⟩ := x; exact ⟨o, e, fun v q => by rw [d] at q; cases q⟩
end
section
variable {X : Cx} {pins : List (Addr × Obj)} {σ : L2.St} {H : Hp} {s : Shared}
theorem Src.given (I : Inv X pins σ H s) (src : Src) {xs : List V} (h : src.has X.K H xs) : ∃ items : Array Value, src.ok items s.heap ∧ src.rel xs items ∧ (∀ b ∈ src.fp, b < s.heap.objs.size) ∧ (∀ b ∈ src.fp, ∃ o, s.heap.get? b = some o) := by
  cases src with
  | txt x => exact ⟨#[], trivial, h, fun b hb => absurd hb (by simp [Src.fp]), fun b hb => absurd hb (by simp [Src.fp])⟩
  | lst a =>
    obtain ⟨its, r, pl, _⟩ := I.list h
    obtain ⟨o, e, q⟩ := pl.isList
    refine ⟨its.toArray, pl.isList, by simpa [Src.rel] using r, fun b hb => ?_, fun b hb => ?_⟩
    · have : b = a := by simpa [Src.fp] using hb
      subst this; exact pl.lt
    · have : b = a := by simpa [Src.fp] using hb
      subst this; exact ⟨o, e⟩
  | tup a =>
    obtain ⟨its, r, pl, _⟩ := I.tuple h
    obtain ⟨o, e, q⟩ := id pl
    refine ⟨its.toArray, pl, by simpa [Src.rel] using r, fun b hb => ?_, fun b hb => ?_⟩
    · have : b = a := by simpa [Src.fp] using hb
      subst this; exact Heap.lt_size e
    · have : b = a := by simpa [Src.fp] using hb
      subst this; exact ⟨o, e⟩
theorem Src.is_of (src : Src) {v : Value} (r : RelV src.v v) : ∃ t, src.is t v := by
  cases src with
  | txt x => obtain ⟨t, e⟩ := r; exact ⟨t, e⟩
  | lst a => exact ⟨0, r⟩
  | tup a => exact ⟨0, r⟩
end
/-! ### zip -/
def ItZ (K : PySem.W.Frag) (s1 s2 : Src) (xs ys : List V) : It :=
  ⟨fun i H => s1.has K H xs ∧ s2.has K H ys ∧ i < min xs.length ys.length,
    fun i H v H' => ∃ T x y, v = .ref T ∧ H T = none ∧ H' = upd H T (.tup [x, y]) ∧ xs[i]? = some x ∧ ys[i]? = some y,
    fun i H => s1.has K H xs ∧ s2.has K H ys ∧ i = min xs.length ys.length⟩
theorem walk_Z {K : PySem.W.Frag} {s1 s2 : Src} {xs ys : List V} : Walk (ItZ K s1 s2 xs ys) (min xs.length ys.length) (fun H => s1.has K H xs ∧ s2.has K H ys) (YPair (fun i => xs[i]?) (fun i => ys[i]?)) :=
  ⟨fun i H hi q => ⟨q.1, q.2, hi⟩, fun H q => ⟨q.1, q.2, rfl⟩, fun i H v H' _ _ y => y⟩
theorem turn_Z {P : Program} {w : World} {K : PySem.W.Frag} {elts : List Expr} {kk : Nat} {tpos : Pos} {z TI TO i1 i2 : Addr} {s1 s2 : Src} {t1 t2 : Tok} {xs ys : List V} (S : ZipSep2 z TI TO i1 i2 (i1 :: s1.fp) (i2 :: s2.fp)) (n1 : ∀ b ∈ s1.fp, b ≠ i1) (n2 : ∀ b ∈ s2.fp, b ≠ i2) :
    Turn P w K (.Tuple elts kk tpos) (ItZ K s1 s2 xs ys) [z, TI, TO, i1, i2] z (fun i h => IsZip h z TI TO .none ∧ IsTupOf2 h TI (.ref i1) (.ref i2) ∧ (∃ x y, IsTupOf2 h TO x y) ∧ s1.at t1 i1 i h ∧ s2.at t2 i2 i h) where
  mem := by simp
  obj := fun i h st c hc => by
    obtain ⟨hz, hTI, ⟨x, y, hTO⟩, h1, h2⟩ := st
    have e' : c = z ∨ c = TI ∨ c = TO ∨ c = i1 ∨ c = i2 := by simpa using hc
    rcases e' with q | q | q | q | q
    · rw [q]; exact ⟨_, hz, fun v q => nomatch q⟩
    · rw [q]; exact ⟨_, hTI, fun v q => nomatch q⟩
    · rw [q]; exact ⟨_, hTO, fun v q => nomatch q⟩
    · rw [q]; exact s1.at_live h1
    · rw [q]; exact s2.at_live h2
  keep := fun i h h' st k => by
    obtain ⟨hz, hTI, ⟨x, y, hTO⟩, h1, h2⟩ := st
    exact ⟨k z (by simp) _ hz, k TI (by simp) _ hTI, ⟨x, y, k TO (by simp) _ hTO⟩, s1.at_keep h1 fun o q => k i1 (by simp) o q, s2.at_keep h2 fun o q => k i2 (by simp) o q⟩
  item := by
    intro X hP hw hK hc i pins s σ H E I hf st hg
    subst hP hw hK
    obtain ⟨hz, hTI, hTO, h1, h2⟩ := st
    obtain ⟨g1, g2, hi⟩ := hg
    obtain ⟨it1, o1, r1, _, _⟩ := Src.given I s1 g1
    obtain ⟨it2, o2, r2, _, _⟩ := Src.given I s2 g2
    have D1 := Src.draws (P := X.prog) (w := X.w) (A := X.A.in1) (I.ok.hd hc) s1 t1 i1 it1 xs r1 n1
    have D2 := Src.draws (P := X.prog) (w := X.w) (A := X.A.in1) (I.ok.hd hc) s2 t2 i2 it2 ys r2 n2
    have G := GoesN.zip2 (elts := elts) (x1 := kk) (pos := tpos) S D1 D2
    refine G.goes i s (fun u s2' => ∃ x H', Inv X pins σ H' s2' ∧ RelV x u ∧ (ItZ X.K s1 s2 xs ys).yld i H x H' ∧ (IsZip s2'.heap z TI TO .none ∧ IsTupOf2 s2'.heap TI (.ref i1) (.ref i2) ∧ (∃ x y, IsTupOf2 s2'.heap TO x y) ∧ s1.at t1 i1 (i + 1) s2'.heap ∧ s2.at t2 i2 (i + 1) s2'.heap) ∧ ∀ b ∈ [z, TI, TO, i1, i2], H' b = none) E hi ⟨hz, hTI, hTO, ⟨h1, o1⟩, ⟨h2, o2⟩⟩ ?_
    rintro v h' tk ⟨T, u, u2, rfl, hT, ⟨x, hx, rx⟩, ⟨y, hy, ry⟩, isT⟩ ⟨z', TI', TO', ⟨a1, _⟩, ⟨a2, _⟩⟩ kept _
    have new : ObjOk X.prog X.w (upd H T (.tup [x, y])) h' T (.tup [x, y]) := ⟨by show 2 ≤ sizeLine; decide, [u, u2], .cons rx (.cons ry .nil), isT⟩
    have I1 : Inv X pins σ (upd H T (.tup [x, y])) { s with heap := h', toks := tk } := I.turnedNew (t' := tk) (ch := [z, TI, TO, i1, i2]) (fun c o hb q => kept c o (fun m => hb (by
      have e' : c = z ∨ c = TO ∨ c = i1 ∨ c = i2 := by simpa using m
      rcases e' with q | q | q | q <;> simp [q])) q) hf hT new
    refine ⟨.ref T, _, I1, rfl, ⟨T, x, y, rfl, I.hok.fresh hT, rfl, hx, hy⟩, ⟨z', TI', TO', a1, a2⟩, fun c hcm => ?_⟩
    have hlt : c ≠ T := by
      intro e
      have e' : c = z ∨ c = TI ∨ c = TO ∨ c = i1 ∨ c = i2 := by simpa using hcm
      have hl : c < s.heap.objs.size := by
        obtain ⟨_, _, hTO⟩ := hTO
        rcases e' with q | q | q | q | q
        · rw [q]; exact Heap.lt_size hz
        · rw [q]; exact Heap.lt_size hTI
        · rw [q]; exact Heap.lt_size hTO
        · rw [q]; obtain ⟨_, e1, _⟩ := s1.at_live h1; exact Heap.lt_size e1
        · rw [q]; obtain ⟨_, e2, _⟩ := s2.at_live h2; exact Heap.lt_size e2
      rw [e] at hl
      exact absurd (Nat.lt_of_lt_of_le hl hT) (Nat.lt_irrefl _)
    rw [upd_ne hlt]
    exact (hf c hcm).1
  done := by
    intro X hP hw hK hc i pins s σ H E I hf st hg
    subst hP hw hK
    obtain ⟨hz, hTI, hTO, h1, h2⟩ := st
    obtain ⟨g1, g2, hi⟩ := hg
    obtain ⟨it1, o1, r1, _, _⟩ := Src.given I s1 g1
    obtain ⟨it2, o2, r2, _, _⟩ := Src.given I s2 g2
    have D1 := Src.draws (P := X.prog) (w := X.w) (A := X.A.in1) (I.ok.hd hc) s1 t1 i1 it1 xs r1 n1
    have D2 := Src.draws (P := X.prog) (w := X.w) (A := X.A.in1) (I.ok.hd hc) s2 t2 i2 it2 ys r2 n2
    have G := GoesN.zip2 (elts := elts) (x1 := kk) (pos := tpos) S D1 D2
    refine G.stops s (fun s' => Inv X pins σ H s') E (by rw [← hi]; exact ⟨hz, hTI, hTO, ⟨h1, o1⟩, ⟨h2, o2⟩⟩) fun h' tk kept _ => I.turnedL (t' := tk) (ch := [z, TI, TO, i1, i2]) (fun c o hb q => kept c o (fun m => hb (by
      have e' : c = z ∨ c = TO ∨ c = i1 ∨ c = i2 := by simpa using m
      rcases e' with q | q | q | q <;> simp [q])) q) hf
  self := fun A i s Q E st h => wpAny_pyIter_zip st.1 h
def iZ (K : PySem.W.Frag) (ta : TA) : TI := fun σ H R => ta σ H fun vs H1 => ∃ s1 s2 : Src, ∃ xs ys, vs = [s1.v, s2.v] ∧ s1.has K H1 xs ∧ s2.has K H1 ys ∧ R (ItZ K s1 s2 xs ys) H1
theorem pi_Z {X : Cx} {e e2 : Expr} {ta : TA} {p pos tpos : Pos} {elts : List Expr} {kk : Nat} (hg : Gl X "zip") (hm : X.mg "zip" = none) (ha : PA X [e, e2] ta)
    (hs : starEach [e, e2] X.env = (false, eval e X.env) :: starEach [e2] X.env := by rfl) (hpl : (backTo pos (starEach [e2] X.env)).any (·.1) = false := by rfl) :
    PI X (.Tuple elts kk tpos) (.Call (.Name "zip" p) [e, e2] [] pos) (iZ X.K ta) := by
  refine ⟨fun pins s σ H R I h => ?_⟩
  refine Call_ (ld_blt I hg hm PyProof.Rows.boot_zip (PyProof.Rows.callWith_type1 (thn (ha.run pos pins s σ H _ I h) fun us s1 ⟨vs, H1, I1, r1, q1⟩ => ?_) hs hpl))
  obtain ⟨c1, c2, xs, ys, rfl, g1, g2, q⟩ := q1
  cases r1 with
  | cons r rr =>
    cases rr with
    | cons r' rr =>
      cases rr
      obtain ⟨t1, e1⟩ := c1.is_of r
      obtain ⟨t2, e2⟩ := c2.is_of r'
      obtain ⟨it1, o1, r1, l1, _⟩ := Src.given I1 c1 g1
      obtain ⟨it2, o2, r2, l2, _⟩ := Src.given I1 c2 g2
      refine zip_begins2 (c1.begins t1 it1 e1) (c2.begins t2 it2 e2) o1 o2 fun h' hz hTI hTO h1 h2 hsz hk => wpAny_pyIter_zip hz ?_
      have I2 : Inv X pins σ H1 { s1 with heap := h' } := I1.kept (t' := s1.toks) hk
      refine ⟨s1.heap.objs.size + 4, [s1.heap.objs.size + 4, s1.heap.objs.size + 2, s1.heap.objs.size + 3, s1.heap.objs.size, s1.heap.objs.size + 1], _, _, H1, rfl, I2,
        turn_Z (t1 := t1) (t2 := t2) (zip_sep2 l1 l2) (fun b hb => Nat.ne_of_lt (l1 b hb)) (fun b hb => Nat.ne_of_lt (Nat.lt_succ_of_lt (l2 b hb))), ⟨hz, hTI, ⟨_, _, hTO⟩, c1.at_obj t1 h1, c2.at_obj t2 h2⟩, fun c hcm => ?_, q⟩
      have e' : c = s1.heap.objs.size + 4 ∨ c = s1.heap.objs.size + 2 ∨ c = s1.heap.objs.size + 3 ∨ c = s1.heap.objs.size ∨ c = s1.heap.objs.size + 1 := by simpa using hcm
      have hle : s1.heap.objs.size ≤ c := by
        rcases e' with z | z | z | z | z
        · rw [z]; exact Nat.le_add_right _ _
        · rw [z]; exact Nat.le_add_right _ _
        · rw [z]; exact Nat.le_add_right _ _
        · rw [z]; exact Nat.le_refl _
        · rw [z]; exact Nat.le_add_right _ _
      exact I1.fpOk hle (I1.hok.fresh hle)
end AR
namespace AR
open PySem PySem.Spec PyProof.Rows L2
theorem same_new {H : Hp} {p : Addr} {o : HO} (h : H p = none) : Same H (upd H p o) := fun a u e => by rw [upd_ne (ne_of_none e h)]; exact e
theorem same_mut {H H' : Hp} {p : Addr} {o : HO} (e : Same H H') (h : H p = none) : Same H (upd H' p o) := fun a u ha => by rw [upd_ne (ne_of_none ha h)]; exact e a u ha
theorem sameSqT {K : PySem.W.Frag} {H H' : Hp} {a : Addr} {xs : List V} (e : Same H H') (h : SqT K H a xs) : SqT K H' a xs := by
  rcases h with (h | ⟨o, h⟩) | h
  · exact .inl (.inl (e _ _ h))
  · exact .inl (.inr ⟨o, e _ _ h⟩)
  · exact .inr h
theorem sameHas {K : PySem.W.Frag} {H H' : Hp} {s : Src} {xs : List V} (e : Same H H') (h : s.has K H xs) : s.has K H' xs := by
  cases s with
  | txt x => exact h
  | lst a => exact e.seq h
  | tup a => exact sameSqT e h
section
variable {J : It} {n : Nat} {G : Hp → Prop} {Y : Nat → Hp → V → Hp → Prop} {g : TG} {tt : TT} {te : TE} {vs : List Nat} {σ : L2.St} {H1 : Hp} {Qd : Addr → Hp → Prop}
/-- what a comprehension asks of the new list -/
def LcAsk (J : It) (g : TG) (tt : TT) (te : TE) (vs : List Nat) (σ : L2.St) (H1 : Hp) (Qd : Addr → Hp → Prop) : Prop :=
  ∀ D, H1 D = none → ∃ W : Nat → Nat → Hp → Prop, (∃ m, W 0 m (upd H1 D (.lst []))) ∧ ∀ i m H, W i m H →
      (J.stop i H ∧ Qd D H) ∨ (J.go i H ∧ ∃ Nx : Hp → Prop, (∀ H', Nx H' → ∃ m', m' < m ∧ W (i + 1) m' H') ∧ ∀ x H', J.yld i H x H' → g x (wipe σ vs) H' fun σ2 H2 => wipe σ2 vs = wipe σ vs ∧ tt σ2 H2 fun b H3 =>
        if b = true then te σ2 H3 fun y H4 => ∃ acc, H4 D = some (.lst acc) ∧ acc.length < sizeLine ∧ Nx (upd H4 D (.lst (acc ++ [y]))) else Nx H3)
theorem i_lc {wi : TI} {H : Hp} {Q : VK} (k : wi σ H fun J H1 => LcAsk J g tt te vs σ H1 fun D H' => Q (.ref D) H') : tLc wi g tt te vs σ H Q := k
/-- a comprehension whose elements are told by their places and that leaves all as it was -/
theorem lcF (w : Walk J n G Y) (kp : Nat → Bool) (out : Nat → V) (hn : n ≤ sizeLine) (hG : ∀ H, Same H1 H → G H)
    (hs : ∀ i x H H' (C : VK) (N : Hp → Prop), i < n → Same H1 H → Y i H x H' → (kp i = true → ∀ H4, Same H H4 → C (out i) H4) → (kp i = false → ∀ H3, Same H H3 → N H3) →
      g x (wipe σ vs) H' fun σ2 H2 => wipe σ2 vs = wipe σ vs ∧ tt σ2 H2 fun b H3 => if b = true then te σ2 H3 C else N H3)
    (hd : ∀ D H', H1 D = none → Same H1 H' → H' D = some (.lst (((List.range n).filter kp).map out)) → Qd D H') : LcAsk J g tt te vs σ H1 Qd := by
  intro D hD
  refine lc_it w (Qd := Qd D) (fun i H => Same H1 H ∧ H D = some (.lst (((List.range i).filter kp).map out))) ⟨same_new hD, upd_same⟩ (fun i H _ p => hG H p.1) (fun i x H H' hi p y => ?_) fun H p => hd D H hD p.1 p.2
  refine hs i x H H' _ _ hi p.1 y (fun hk H4 s4 => ?_) fun hk H3 s3 => ?_
  · refine ⟨_, s4 _ _ p.2, ?_, same_mut (p.1.trans s4) hD, ?_⟩
    · rw [List.length_map]
      have := List.length_filter_le kp (List.range i)
      rw [List.length_range] at this
      omega
    · rw [upd_same, List.range_succ, List.filter_append, List.map_append]
      simp [hk]
  · refine ⟨p.1.trans s3, ?_⟩
    rw [List.range_succ, List.filter_append, List.map_append]
    simp [hk]
    exact s3 _ _ p.2
theorem lcS (w : Walk J n G Y) (out : Nat → V) (hn : n ≤ sizeLine) (hG : ∀ H, Same H1 H → G H)
    (hs : ∀ i x H H' (C : VK) (N : Hp → Prop), i < n → Same H1 H → Y i H x H' → (∀ H4, Same H H4 → C (out i) H4) →
      g x (wipe σ vs) H' fun σ2 H2 => wipe σ2 vs = wipe σ vs ∧ tt σ2 H2 fun b H3 => if b = true then te σ2 H3 C else N H3)
    (hd : ∀ D H', H1 D = none → Same H1 H' → H' D = some (.lst ((List.range n).map out)) → Qd D H') : LcAsk J g tt te vs σ H1 Qd :=
  lcF w (fun _ => true) out hn hG (fun i x H H' C N hi s y k _ => hs i x H H' C N hi s y (k rfl)) fun D H' h1 h2 h3 => hd D H' h1 h2 (by rw [h3, List.filter_eq_self.mpr (fun _ _ => rfl)])
/-- a comprehension whose elements draw from a box -/
theorem lcK (w : Walk J n G Y) (Pe : Nat → V → Prop) (hn : n ≤ sizeLine) (nb : ∀ ys : List V, (∀ (j : Nat) y, ys[j]? = some y → Pe j y) → ¬ Box (.lst ys)) (hG : ∀ H, Keep H1 H → G H)
    (hs : ∀ i x H H' (C : VK) (N : Hp → Prop), i < n → Keep H1 H → Y i H x H' → (∀ y H4, Pe i y → Keep H H4 → C y H4) →
      g x (wipe σ vs) H' fun σ2 H2 => wipe σ2 vs = wipe σ vs ∧ tt σ2 H2 fun b H3 => if b = true then te σ2 H3 C else N H3)
    (hd : ∀ D H' (ys : List V), H1 D = none → Keep H1 H' → H' D = some (.lst ys) → ys.length = n → (∀ (j : Nat) y, ys[j]? = some y → Pe j y) → Qd D H') : LcAsk J g tt te vs σ H1 Qd := by
  intro D hD
  refine lc_it w (Qd := Qd D) (fun i H => Keep H1 H ∧ ∃ ys : List V, H D = some (.lst ys) ∧ ys.length = i ∧ ∀ (j : Nat) y, ys[j]? = some y → Pe j y) ⟨Keep.new hD, [], upd_same, rfl, fun j y h => by simp at h⟩ (fun i H _ p => hG H p.1) (fun i x H H' hi p y => ?_) fun H p => ?_
  · obtain ⟨kp, ys, hys, hl, hp⟩ := p
    refine hs i x H H' _ _ hi kp y fun y' H4 pe k4 => ?_
    refine ⟨ys, k4.st _ _ hys (nb ys hp), by omega, (kp.trans k4).mut hD, ys ++ [y'], upd_same, by rw [List.length_append, hl]; rfl, fun j v hv => ?_⟩
    rcases Nat.lt_trichotomy j ys.length with h1 | h1 | h1
    · rw [List.getElem?_append_left h1] at hv; exact hp j v hv
    · subst h1
      have : y' = v := by simpa using hv
      subst this; rw [hl]; exact pe
    · have hnone : (ys ++ [y'])[j]? = none := List.getElem?_eq_none (by rw [List.length_append, List.length_singleton]; omega)
      rw [hnone] at hv; cases hv
  · obtain ⟨kp, ys, hys, hl, hp⟩ := p
    exact hd D H ys hD kp hys hl hp
end
end AR
namespace AR
open PySem PySem.Spec PyProof.Rows L2
theorem nb_ref_all {ys : List V} (h : ∀ (j : Nat) y, ys[j]? = some y → ∃ l, y = V.ref l) : ¬ Box (.lst ys) := fun ⟨a, b, c, e⟩ => by
  injection e with e
  subst e
  obtain ⟨l, hl⟩ := h 0 _ rfl
  cases hl
section
variable {J : It} {n : Nat} {G : Hp → Prop} {Y : Nat → Hp → V → Hp → Prop} {g : TG} {tt : TT} {te : TE} {vs : List Nat} {σ : L2.St} {H1 : Hp} {Qd : Addr → Hp → Prop}
/-- a comprehension whose elements are new objects that draw from a box: Pe tells of each, in the heap -/
theorem lcH (w : Walk J n G Y) (Pe : Addr → Nat → Hp → V → Prop) (hn : n ≤ sizeLine) (hk : ∀ D i H H' y, Keep H H' → Pe D i H y → Pe D i H' y) (hm : ∀ D i H o y, Pe D i H y → Pe D i (upd H D o) y) (rf : ∀ D i H y, Pe D i H y → ∃ l, y = V.ref l)
    (hG : ∀ H, Keep H1 H → G H)
    (hs : ∀ D acc i x H H' (C : VK) (N : Hp → Prop), i < n → Keep H1 H → H1 D = none → H D = some (.lst acc) → Y i H x H' → (∀ y H4, Pe D i H4 y → Keep H H4 → C y H4) →
      g x (wipe σ vs) H' fun σ2 H2 => wipe σ2 vs = wipe σ vs ∧ tt σ2 H2 fun b H3 => if b = true then te σ2 H3 C else N H3)
    (hd : ∀ D H' (ys : List V), H1 D = none → Keep H1 H' → H' D = some (.lst ys) → ys.length = n → (∀ (j : Nat) y, ys[j]? = some y → Pe D j H' y) → Qd D H') : LcAsk J g tt te vs σ H1 Qd := by
  intro D hD
  refine lc_it w (Qd := Qd D) (fun i H => Keep H1 H ∧ ∃ ys : List V, H D = some (.lst ys) ∧ ys.length = i ∧ ∀ (j : Nat) y, ys[j]? = some y → Pe D j H y) ⟨Keep.new hD, [], upd_same, rfl, fun j y h => by simp at h⟩ (fun i H _ p => hG H p.1) (fun i x H H' hi p y => ?_) fun H p => ?_
  · obtain ⟨kp, ys, hys, hl, hp⟩ := p
    refine hs D ys i x H H' _ _ hi kp hD hys y fun y' H4 pe k4 => ?_
    refine ⟨ys, k4.st _ _ hys (nb_ref_all fun j y h => rf _ _ _ _ (hp j y h)), by omega, (kp.trans k4).mut hD, ys ++ [y'], upd_same, by rw [List.length_append, hl]; rfl, fun j v hv => ?_⟩
    rcases Nat.lt_trichotomy j ys.length with h1 | h1 | h1
    · rw [List.getElem?_append_left h1] at hv; exact hm _ _ _ _ _ (hk _ _ _ _ _ k4 (hp j v hv))
    · subst h1
      have : y' = v := by simpa using hv
      subst this; rw [hl]; exact hm _ _ _ _ _ pe
    · have hnone : (ys ++ [y'])[j]? = none := List.getElem?_eq_none (by rw [List.length_append, List.length_singleton]; omega)
      rw [hnone] at hv; cases hv
  · obtain ⟨kp, ys, hys, hl, hp⟩ := p
    exact hd D H ys hD kp hys hl hp
end
theorem len3 {ys : List V} (h : ys.length = 3) : ∃ a b c, ys = [a, b, c] := by
  match ys, h with
  | [a, b, c], _ => exact ⟨a, b, c, rfl⟩
theorem len2 {ys : List V} (h : ys.length = 2) : ∃ a b, ys = [a, b] := by
  match ys, h with
  | [a, b], _ => exact ⟨a, b, rfl⟩
end AR
namespace AR
open PySem PySem.Spec PyProof.Rows L2 PySem.W
section
variable {prog : Program} {w : World} {A : Around} {E : Value → Shared → Prop} {s : Shared} {K : PySem.W.Frag} {x C L f : Addr} {h₀ : Heap} {m : Str → Option Value} {ox : Obj} {od : Option Obj} {b tb : Value}
/-- the check ahead of a built-in slot of object, its self an own instance -/
theorem check_obj {M : Model} {id n : String} {rest : List Value} {Q : Unit → Shared → Prop} (hk : builtinKind id = some .slot) (hs : splitId id = some ("object", n)) (ha : argsOk id ⟨.ref x :: rest, []⟩)
    (X : K.In s.heap) (I : InstAt s.heap x ox C od) (hm : mroIn K C (.type "object") = some true) (hq : Q () s) : wpAny M A (checkBuiltinCall id ⟨.ref x :: rest, []⟩) Q E s := by
  have L0 := I.type (M := M)
  have L1 := looks_mroIn (M := M) X hm
  obtain ⟨hh, g, d, t, os⟩ := s
  simp only [checkBuiltinCall, hk, hs]
  refine wpAny_bind ?_
  unfold isInstance
  repeat lk
  cases hsig : Manifest.signature? id with
  | none => exact wpAny_pure hq
  | some sig =>
    simp only [argsOk, hsig] at ha
    have h2 : Bind.checkArgs id sig ⟨.ref x :: rest, []⟩ = pure () := ha
    show wpAny M A (Bind.checkArgs id sig ⟨.ref x :: rest, []⟩) Q E _
    rw [h2]; exact wpAny_pure hq
/-- a special method that is a built-in of object -/
theorem ifBound_B {M : Model} {name : Str} {id : String} {T : String} {args : List Value} {Q : Option Value → Shared → Prop} (X : K.In s.heap) (I : InstAt s.heap x ox C od) (hs : findIn K (.ref C) name = some (some (.builtin id))) (S : Slot T name id)
    (h : wpAny M A (call (.builtin id) (.ref x :: args)) (fun v => Q (some v)) E s) : wpAny M A (callSpecialIfBound? (.ref x) name args) Q E s := by
  simp only [callSpecialIfBound?, bindSpecialIfBound?]
  refine wpAny_holding (wpAny_bind (wpAny_bind (wpAny_bind (I.type.here ((looks_findIn X hs).here ?_)))))
  simp only [S.bind]
  refine wpAny_bind (wpAny_askSetting (wpAny_ite ?_))
  have fin : wpAny M A (call (.builtin id) ([.ref x] ++ args) >>= fun v => pure (some v)) Q E s := wpAny_bind (wpAny_mono h (fun v s' h' => wpAny_pure h') fun _ _ h' => h')
  split
  · exact wpAny_bind (wpAny_pure (wpAny_pure fin))
  · exact wpAny_tryCatch (wpAny_bind (wpAny_pure (wpAny_pure fin)))
/-- x != b of an own class with an own __eq__ and no own __ne__ -/
theorem ne_K {Q : Value → Shared → Prop} (hu : A.units + 1 < cLine) (X : K.In s.heap) (I : InstAt s.heap x ox C od) (hb : Looks (model prog w) s.heap (typeOf b) tb) (hn : notFirst K C tb = true)
    (hne : findIn K (.ref C) "__ne__" = some (some (.builtin "object.__ne__"))) (hm : mroIn K C (.type "object") = some true) (hs : findIn K (.ref C) "__eq__" = some (some (.ref f))) (hf : isFn K (.ref f) = true)
    (h : wpAny (model prog w) A.in1 (call (.ref f) [.ref x, b]) (fun v s' => ∃ k, v = .bool k ∧ Q (.bool (!k)) s') E s) : wpAny (model prog w) A (richCompare .NotEq (.ref x) b) Q E s := by
  have ent : wpAny (model prog w) A.in1 (Builtin.«object.__ne__» ⟨[.ref x, b], []⟩) (fun fin s' => ∃ k, fin = .done (.ret (.bool k)) ∧ Q (.bool k) s') E s := by
    unfold Builtin.«object.__ne__»
    repeat (first
      | with_reducible refine wpAny_cRoomFor hu ?_
      | (refine wpAny_bind (m := callSpecialIfBound? (.ref x) (Str.ofString "__eq__") [b])
          (ifBound_K X I hs hf (wpAny_mono h (fun r s' hr => by
            obtain ⟨k, rfl, hq⟩ := hr
            repeat (first | exact ⟨_, rfl, hq⟩ | exact wpAny_pure ⟨_, rfl, hq⟩ | exact wpAny_truthy_bool hq | (refine wpAny_bind (m := truthy (.bool _)) (wpAny_truthy_bool ?_)) | wp_step)) fun _ _ e => e)))
      | wp_step)
  have one : wpAny (model prog w) A (tryCompare (.ref x) (cmpInfo .NotEq).2.1 b) (fun r s' => ∃ v, r = some v ∧ Q v s') E s := by
    rw [cmpInfo_NotEq]
    dsimp only
    unfold tryCompare
    refine wpAny_bind (ifBound_B (T := "zip") X I hne F.slot_zip_ne (wpAny_call (codeAny_call_builtin F.slot_zip_ne.plain F.cmpEntry_ne (check_obj F.cmpKind_ne F.cmpSplit_ne (F.cmpArgs_ne _ _) X I hm
      (wpAny_mono ent (fun fin s' z => ?_) fun _ _ e => e)))))
    obtain ⟨k, rfl, hq⟩ := z
    exact wpAny_pure ⟨_, rfl, hq⟩
  unfold richCompare
  simp only [oneThing_ref]
  refine wpAny_holding (wpAny_bind (wpAny_cRoomFor (Nat.lt_of_succ_lt hu) ?_))
  refine wpAny_bind (I.type.here (wpAny_bind (hb.here ?_)))
  split
  · rename_i q
    have e : subIn K tb (.ref C) = some false := by
      rcases Bool.or_eq_true_iff.mp hn with e | e
      · rw [beq_iff_eq.mp e] at q; simp at q
      · exact beq_iff_eq.mp e
    refine wpAny_bind ((looks_subIn X e).here ?_)
    simp only [Bool.false_eq_true, if_false]
    refine wpAny_bind (wpAny_mono one (fun r s' z => ?_) fun _ _ e => e)
    obtain ⟨v, rfl, hq⟩ := z
    exact wpAny_pure hq
  · refine wpAny_bind (wpAny_pure ?_)
    simp only [Bool.false_eq_true, if_false]
    refine wpAny_bind (wpAny_mono one (fun r s' z => ?_) fun _ _ e => e)
    obtain ⟨v, rfl, hq⟩ := z
    exact wpAny_pure hq
end
/-! ### over the layer: both operands instances of one own class -/
section
variable {X : Cx} {k j : Nat} {C : Addr} {sp : Sp}
def rOwnI (C : Addr) (sp : Sp) : R2 := fun x y H Q => ∃ a dx fs b dy gs, x = .ref a ∧ y = .ref b ∧ H a = some (.ins C dx fs) ∧ H b = some (.ins C dy gs) ∧ sp [x, y] H Q E0
theorem op_ownB {op : Operator} (c : C8.Met X.prog X.w X.K X.mg X.base k C (PySem.dunder op.info.2) sp []) (sf : selfFirst X.K C = true) (hr : Room j X.A) (hk : k ≤ j) : OpR X (binaryOp op) (rOwnI C sp) := by
  intro pins s σ H x y v u Q I rx ry h
  obtain ⟨a, dx, fs, b, dy, gs, rfl, rfl, ha, hb, q⟩ := h
  cases (show v = Value.ref a from rx)
  cases (show u = Value.ref b from ry)
  obtain ⟨f, fd, ps, ds, cl, me, F, bi, vd⟩ := c.ex
  cases vd
  obtain ⟨mA, O, _⟩ := ins_get I.hok ha
  obtain ⟨mB, O', _⟩ := ins_get I.hok hb
  obtain ⟨od, J, _⟩ := O.look
  obtain ⟨od', J', _⟩ := O'.look
  obtain ⟨m, hF⟩ := I.fr
  refine binop_K hF I.ok.mod.kin J J'.type sf me.at_ me.fn (wpAny_mono (run_fn (us := [.ref a, .ref b]) (vs := [.ref a, .ref b]) F (hr.mono hk) bi .nil pass0 I (.cons rfl (.cons rfl .nil)) q) (fun w s' z => ?_) fun _ _ x => x)
  obtain ⟨z', H', I', rz, qz⟩ := z
  exact SlX.cmpback rz ⟨z', H', I', rz, qz⟩
theorem op_ownEq (c : C8.Met X.prog X.w X.K X.mg X.base k C "__eq__" sp []) (hr : Room j X.A) (hk : k ≤ j) : OpR X (compareOp .Eq) (rOwnI C sp) := by
  intro pins s σ H x y v u Q I rx ry h
  obtain ⟨a, dx, fs, b, dy, gs, rfl, rfl, ha, hb, q⟩ := h
  cases (show v = Value.ref a from rx)
  cases (show u = Value.ref b from ry)
  obtain ⟨f, fd, ps, ds, cl, me, F, bi, vd⟩ := c.ex
  cases vd
  obtain ⟨mA, O, _⟩ := ins_get I.hok ha
  obtain ⟨mB, O', _⟩ := ins_get I.hok hb
  obtain ⟨od, J, _⟩ := O.look
  obtain ⟨od', J', _⟩ := O'.look
  obtain ⟨m, hF⟩ := I.fr
  refine cmp_ofEq (cmp_K (op := .Eq) (tb := .ref C) hr.units0 hF I.ok.mod.kin J J'.type (by simp [notFirst]) me.at_ me.fn (wpAny_mono (run_fn (us := [.ref a, .ref b]) (vs := [.ref a, .ref b]) F (hr.mono hk) bi .nil pass0 I (.cons rfl (.cons rfl .nil)) q) (fun w s' z => ?_) fun _ _ x => x))
  obtain ⟨z', H', I', rz, qz⟩ := z
  exact SlX.cmpback rz ⟨z', H', I', rz, qz⟩
/-- the promise gives a bool -/
def rOwnN (C : Addr) (sp : Sp) : R2 := fun x y H Q => ∃ a dx fs b dy gs, x = .ref a ∧ y = .ref b ∧ H a = some (.ins C dx fs) ∧ H b = some (.ins C dy gs) ∧ sp [x, y] H (fun z H' => ∃ k, z = .bl k ∧ Q (.bl (!k)) H') E0
theorem op_ownNe (c : C8.Met X.prog X.w X.K X.mg X.base k C "__eq__" sp []) (hne : findIn X.K (.ref C) "__ne__" = some (some (.builtin "object.__ne__"))) (hm : mroIn X.K C (.type "object") = some true) (hr : Room j X.A) (hk : k + 1 ≤ j) : OpR X (compareOp .NotEq) (rOwnN C sp) := by
  intro pins s σ H x y v u Q I rx ry h
  obtain ⟨a, dx, fs, b, dy, gs, rfl, rfl, ha, hb, q⟩ := h
  cases (show v = Value.ref a from rx)
  cases (show u = Value.ref b from ry)
  obtain ⟨f, fd, ps, ds, cl, me, F, bi, vd⟩ := c.ex
  cases vd
  obtain ⟨mA, O, _⟩ := ins_get I.hok ha
  obtain ⟨mB, O', _⟩ := ins_get I.hok hb
  obtain ⟨od, J, _⟩ := O.look
  obtain ⟨od', J', _⟩ := O'.look
  have hr1 : Room k X.A.in1 := Room.in1 (hr.mono hk)
  show wpAny (model X.prog X.w) X.A (richCompare .NotEq (.ref a) (.ref b)) (EP X pins σ Q) X.xe s
  refine ne_K (tb := .ref C) (hu_of hr) I.kIn J J'.type (by simp [notFirst]) hne hm me.at_ me.fn ?_
  refine wpAny_call (codeAny_mono (F.run X.A.in1 X.stack s H ⟨[.ref a, .ref b], []⟩ [.ref a, .ref b] [.ref a, .ref b] _ E0 hr1 I.env0.in1 (by simpa using bi s [.ref a, .ref b] I.kIn (F.len _ _ _ _ q)) (.cons rfl (.cons rfl .nil)) q) fun r s' hq => ?_)
  cases r with
  | error e => exact absurd hq (fun z => z)
  | ok fl =>
    cases fl with
    | ret u =>
      obtain ⟨z', H', I', rz, k', rfl, qz⟩ := I.after hq
      cases (show u = Value.bool k' from rz)
      exact ⟨k', rfl, .bl (!k'), H', I', rfl, qz⟩
    | next => exact False.elim hq
    | brk => exact False.elim hq
    | cont => exact False.elim hq
end
end AR
namespace AR
open PySem PySem.Spec PyProof.Rows L2
theorem paired_of_get {α β : Type} {F : α → β → Prop} : ∀ {xs : List α} {ys : List β}, xs.length = ys.length → (∀ (j : Nat) a b, xs[j]? = some a → ys[j]? = some b → F a b) → Paired F xs ys
  | [], [], _, _ => .nil
  | [], _ :: _, h, _ => by cases h
  | _ :: _, [], h, _ => by cases h
  | x :: xs, y :: ys, h, g => .cons (g 0 x y rfl rfl) (paired_of_get (by simpa using h) fun j a b h1 h2 => g (j + 1) a b (by simpa using h1) (by simpa using h2))
/-- a text turned about -/
def revS (x : Str) : Str := ⟨x.cps.toList.reverse.toArray⟩
theorem pick_rev (c : Array Nat) : ((List.range c.size).map fun k => c.size - 1 - k).filterMap (c[·]?) = c.toList.reverse := by
  have e : ((List.range c.size).map fun k => c.size - 1 - k) = (List.range c.size).reverse := by
    apply List.ext_getElem
    · simp
    · intro i h1 h2
      simp
  rw [e, List.filterMap_reverse]
  congr 1
  apply List.ext_getElem?
  intro i
  have key : ∀ (n : Nat), n ≤ c.size → (List.range n).filterMap (c[·]?) = c.toList.take n := by
    intro n
    induction n with
    | zero => intro _; simp
    | succ n ih =>
      intro hn
      rw [List.range_succ, List.filterMap_append, ih (by omega), List.take_succ]
      congr 1
      have hc : c[n]? = some c[n] := by simp [show n < c.size by omega]
      simp [hc]
  rw [key c.size (Nat.le_refl _), List.take_of_length_le (by simp)]
section
variable {X : Cx}
/-- list(text) -/
theorem call_list_txt (hc : X.calm = true) : CallR X (.type "list") (fun xs H Q => ∃ x, xs = [.str x] ∧ x.length ≤ sizeLine ∧ ∀ l, H l = none → Q (.ref l) (upd H l (.lst (chV x)))) := by
  intro pins s σ H xs us Q I r h
  obtain ⟨x, rfl, hx, q⟩ := h
  obtain ⟨u, rfl, t, rfl⟩ := vals1 r
  refine PySem.call_list_str (I.ok.hd hc) x t (fun h' tk acc' c' hk hS' hacc => ?_) hx
  have rel : Vals (chV x) acc'.toList := by
    refine paired_of_get (by simp [chV, hacc.1]) fun j v u h1 h2 => ?_
    obtain ⟨c, tu, hcp, rfl⟩ := hacc.2 j u (by simpa using h2)
    have : (chV x)[j]? = some (V.str ⟨#[c]⟩) := by
      unfold chV
      rw [List.getElem?_map, Array.getElem?_toList, hcp]
      rfl
    rw [this] at h1
    cases h1
    exact ⟨tu, rfl⟩
  have hl : (chV x).length ≤ sizeLine := by
    have e : (chV x).length = x.length := by simp [chV, Str.length]
    rw [e]; exact hx
  exact ⟨.ref s.heap.objs.size, _, I.laid (t' := tk) hk (Nat.le_refl _) (show ObjOk X.prog X.w _ h' _ (.lst (chV x)) from ⟨hl, acc'.toList, c', rel, by simpa using hS'⟩), rfl, q _ (I.hok.fresh (Nat.le_refl _))⟩
/-- text * n -/
def rMulS : R2 := fun x y H Q => ∃ (z : Str) (n : Int), x = .str z ∧ y = .int n ∧ -1000000 ≤ n ∧ n ≤ 1000000 ∧ z.length * n.toNat ≤ sizeLine ∧ Q (.str (Txt.mul z n)) H
theorem op_mul_txt : OpR X (binaryOp .Mult) rMulS := by
  intro pins s σ H x y v u Q I rx ry h
  obtain ⟨z, n, rfl, rfl, h1, h2, hz, q⟩ := h
  obtain ⟨t, rfl⟩ := rx
  obtain ⟨t', rfl⟩ := ry
  refine SB.mul ⟨?_, fun hn _ => ?_, fun hn _ => ?_⟩ fun t'' k => ⟨.str _, H, I.tok _, ⟨_, rfl⟩, q⟩
  · simp only [Bool.or_eq_false_iff, decide_eq_false_iff_not]
    omega
  · intro hh
    have hs : sizeLine = 16777216 := sizeLine_eq
    have : z.length ≤ z.length * n.toNat := Nat.le_mul_of_pos_right _ (by omega)
    have h3 : (16777216 : Int) ≤ (2 ^ 63 - 1) / n := by
      apply Int.le_ediv_of_mul_le (by omega)
      omega
    omega
  · unfold Builtin.Str.tooLong
    simp
    exact hz
/-- text[::step], the step -1 -/
def tRevS (te ts : TE) : TE := fun σ H Q => te σ H fun x H1 => ts σ H1 fun i H2 => ∃ z, x = .str z ∧ i = .int (-1) ∧ z.length ≤ sizeLine ∧ Q (.str (revS z)) H2
theorem pe_revS {e st : Expr} {te ts : TE} {p3 pos : Pos} (he : PE X e te) (hst : PE X st ts) : PE X (.Subscript e (.Slice none none (some st) p3) pos) (tRevS te ts) := by
  refine ⟨fun pins s σ H Q I h => ?_⟩
  refine Subscript_ (thn (he.run pins s σ H _ I h) fun v s1 ⟨x, H1, I1, r1, q1⟩ => ?_)
  refine wpAny_Slice (thn (po_none.run pins s1 σ H1 (fun o H2 => o = none ∧ H2 = H1) I1 ⟨rfl, rfl⟩) fun vl s2 ⟨l, H2, I2, pl, el, e2⟩ => ?_)
  subst el e2
  refine thn (po_none.run pins s2 σ H2 (fun o H3 => o = none ∧ H3 = H2) I2 ⟨rfl, rfl⟩) fun vu s3 ⟨u, H3, I3, pu, eu, e3⟩ => ?_
  subst eu e3
  rw [evalPart_some]
  refine thn (hst.run pins s3 σ H3 _ I3 q1) fun vs s4 ⟨i, H4, I4, ri, z, ex, ei, hz, q⟩ => ?_
  subst ex ei
  obtain ⟨t, rfl⟩ := r1
  obtain ⟨ti, rfl⟩ := ri
  cases pl
  cases pu
  have I5 : Inv X pins σ H4 { s4 with heap := s4.heap.push { cls := .type "slice", data := .fields #[.none, .none, .int (-1) ti] } } := I4.kept (t' := s4.toks) fun b ob q => Heap.get?_push_of_some _ q
  show wpAny (model X.prog X.w) X.A (subscriptTail e (.Slice none none (some st) p3) (.str z t) (.ref s4.heap.objs.size)) (EP X pins σ Q) X.xe { s4 with heap := s4.heap.push { cls := .type "slice", data := .fields #[.none, .none, .int (-1) ti] } }
  refine tail_any (ops := [.ref s4.heap.objs.size, .str z t]) (typeIs_str _ _ _) F.slot_str_getitem.lookup ?_ (by with_unfolding_all rfl)
  refine wpAny_getItem_str_slice (l := none) (u := none) (st := some (-1, ti)) ⟨_, Heap.get?_push_size _ rfl, rfl, rfl⟩ rfl ?_
  have em : sliceMade z t none none (some (-1, ti)) = .str (revS z) := by
    unfold sliceMade slicePicked
    rw [if_neg (by simp)]
    show Made.str ⟨((Builtin.Str.strSliceIndices none none (-1) z.length).filterMap (z.cps[·]?)).toArray⟩ = _
    rw [picked_rev]
    show Made.str ⟨(((List.range z.cps.size).map fun k => z.cps.size - 1 - k).filterMap (z.cps[·]?)).toArray⟩ = _
    rw [pick_rev]
    rfl
  rw [em]
  refine ⟨?_, .str (revS z), H4, I5.tok _, ⟨_, rfl⟩, q⟩
  have e : (revS z).length = z.length := by simp [revS, Str.length]
  rw [e]; exact hz
end
end AR
namespace AR
open PySem PySem.Spec PyProof.Rows L2
/-! ### an iterator of new pairs that are held -/
structure PairIter (prog : Program) (w : World) (A : Around) (I S : Addr) (n : Nat) (Pr : Nat → Value → Value → Prop) (wr : List Addr) (St : Nat → Heap → Prop) : Prop where
  item : ∀ i (s : Shared) (Q : Option Value → Shared → Prop) (E : Value → Shared → Prop), i < n → St i s.heap → S < s.heap.objs.size →
    (∀ x y h' tk, Pr i x y → St (i + 1) h' → IsTupOf2 h' s.heap.objs.size x y → (∀ b o, b ∉ wr → s.heap.get? b = some o → h'.get? b = some o) → Q (some (.ref s.heap.objs.size)) { s with heap := h', toks := tk }) →
    wpAny (model prog w) A (pyNext (.ref I)) Q E s
  done : ∀ (s : Shared) (Q : Option Value → Shared → Prop) (E : Value → Shared → Prop), St n s.heap →
    (∀ h' tk, (∀ b o, b ∉ wr → s.heap.get? b = some o → h'.get? b = some o) → Q none { s with heap := h', toks := tk }) → wpAny (model prog w) A (pyNext (.ref I)) Q E s
  keep : ∀ i h h', St i h → (∀ b o, b ≠ S → h.get? b = some o → h'.get? b = some o) → St i h'
  low : ∀ b ∈ wr, b < S
/-- the tuples made so far -/
structure Made2 (Pr : Nat → Value → Value → Prop) (S : Addr) (h : Heap) (as : List Addr) : Prop where
  rise : as.Pairwise (· < ·)
  above : ∀ a ∈ as, S < a
  pairs : ∀ (j : Nat) (a : Addr), as[j]? = some a → ∃ x y, Pr j x y ∧ IsTupOf2 h a x y
section
variable {prog : Program} {w : World} {A : Around} {s : Shared} {R : Result → Shared → Prop} {I S : Addr} {n : Nat} {Pr : Nat → Value → Value → Prop} {wr : List Addr} {St : Nat → Heap → Prop}
theorem pl_loop (W : PairIter prog w A.in1 I S n Pr wr St) (hn : n ≤ sizeLine) (res : Value) {h₁ : Heap}
    (hR : ∀ h' tk acc c as, (∀ b o, b ≠ S → b ∉ wr → h₁.get? b = some o → h'.get? b = some o) → h'.get? S = some { cls := .type "list", dict := none, data := .seq acc c, slots := #[] } → as.length = n → Made2 Pr S h' as →
      acc.toList = as.map Value.ref → R (.ok (.ret res)) { s with heap := h', toks := tk }) :
    ∀ (k i : Nat) (h : Heap) (tk c : Nat) (acc : Array Value) (as : List Addr), n - i = k → i ≤ n → St i h → (∀ b o, b ≠ S → b ∉ wr → h₁.get? b = some o → h.get? b = some o) →
      h.get? S = some { cls := .type "list", dict := none, data := .seq acc c, slots := #[] } → acc.toList = as.map Value.ref → as.length = i → Made2 Pr S h as →
      codeAny (model prog w) A (.builtin "list.extend.loop" ⟨[.ref S, .ref I, res], []⟩) R { s with heap := h, toks := tk } := by
  have hSw : S ∉ wr := fun m => absurd (W.low S m) (Nat.lt_irrefl _)
  have haw : ∀ a, S < a → a ∉ wr := fun a ha m => absurd (Nat.lt_trans ha (W.low a m)) (Nat.lt_irrefl _)
  intro k
  induction k with
  | zero =>
    intro i h tk c acc as hk hi hst hkeep hS hacc hal hG
    have hin : i = n := by omega
    subst hin
    refine codeAny_builtin PySem.F.entry_extend_loop ?_
    rw [Around.under_plainId PySem.F.plain_extend_loop _]
    show wpAny _ A.in1 (pyNext (.ref I) >>= _) _ _ _
    refine wpAny_bind (W.done { s with heap := h, toks := tk } _ _ hst fun h' tk' he => ?_)
    refine wpAny_pure (hR h' tk' acc c as (fun b o h1 h2 e => he b o h2 (hkeep b o h1 h2 e)) (he S _ hSw hS) (by omega) ⟨hG.rise, hG.above, fun j a hj => ?_⟩ hacc)
    obtain ⟨x, y, hp, e3⟩ := hG.pairs j a hj
    exact ⟨x, y, hp, he a _ (haw a (hG.above a (List.mem_of_getElem? hj))) e3⟩
  | succ k ih =>
    intro i h tk c acc as hk hi hst hkeep hS hacc hal hG
    have hlt : i < n := by omega
    have hsz : acc.size = i := by rw [← Array.length_toList, hacc, List.length_map, hal]
    refine codeAny_builtin PySem.F.entry_extend_loop ?_
    rw [Around.under_plainId PySem.F.plain_extend_loop _]
    show wpAny _ A.in1 (pyNext (.ref I) >>= _) _ _ _
    refine wpAny_bind (W.item i { s with heap := h, toks := tk } _ _ hlt hst (Heap.lt_size hS) fun x y h' tk' hp hst' ht hkp => ?_)
    dsimp only at ht hkp ⊢
    have hS' := hkp S _ hSw hS
    have up : ∀ b o, b ≠ S → h'.get? b = some o → (h'.update S (Obj.mapSeq (·.push (Value.ref h.objs.size)))).get? b = some o := fun b o hb e => (Heap.get?_update_other _ _ (Ne.symm hb)).trans e
    have hSl : S < h.objs.size := Heap.lt_size hS
    show wpAny _ A.in1 (updateSeq S (·.push (Value.ref h.objs.size)) >>= _) _ _ _
    refine wpAny_bind ?_
    refine wpAny_updateSeq hS' rfl (wpAny_pure ⟨plainId_quiet PySem.F.plain_extend_loop _, ih (i + 1) _ tk' _ (acc.push (Value.ref h.objs.size)) (as ++ [h.objs.size]) (by omega) hlt (W.keep _ _ _ hst' up)
      (fun b o h1 h2 e => up b o h1 (hkp b o h2 (hkeep b o h1 h2 e))) (Heap.get?_update_self _ hS' rfl) (by rw [Array.toList_push, hacc, List.map_append]; rfl) (by rw [List.length_append, hal]; rfl) ⟨?_, ?_, ?_⟩⟩) (by rw [hsz]; omega) (by show (acc.push (Value.ref h.objs.size)).size ≤ sizeLine + 1; rw [Array.size_push, hsz]; omega)
    · refine List.pairwise_append.mpr ⟨hG.rise, List.pairwise_singleton _ _, fun a ha b hb => ?_⟩
      rw [List.mem_singleton.mp hb]
      obtain ⟨j, hj⟩ := List.mem_iff_getElem?.mp ha
      obtain ⟨x', y', _, e⟩ := hG.pairs j a hj
      exact Heap.lt_size e
    · intro a ha
      rcases List.mem_append.mp ha with ha | ha
      · exact hG.above a ha
      · rw [List.mem_singleton.mp ha]; exact hSl
    · intro j b hj
      rcases Nat.lt_trichotomy j as.length with h1 | h1 | h1
      · rw [List.getElem?_append_left h1] at hj
        obtain ⟨x', y', hp', e3⟩ := hG.pairs j b hj
        have hb := hG.above b (List.mem_of_getElem? hj)
        exact ⟨x', y', hp', up b _ (Nat.ne_of_gt hb) (hkp b _ (haw b hb) e3)⟩
      · subst h1
        have hb : h.objs.size = b := by simpa using hj
        subst hb
        rw [hal]
        exact ⟨x, y, hp, up _ _ (Nat.ne_of_gt hSl) ht⟩
      · have hnone : (as ++ [h.objs.size])[j]? = none := List.getElem?_eq_none (by rw [List.length_append, List.length_singleton]; omega)
        rw [hnone] at hj; cases hj
end
/-! ### zip, its tuples held -/
section
variable {prog : Program} {w : World} {A : Around} {E : Value → Shared → Prop} {s : Shared} {z TI TO i1 i2 S : Addr} {fp1 fp2 : List Addr} {n1 n2 i : Nat} {P1 P2 : Nat → Value → Prop} {St1 St2 : Nat → Heap → Prop} {a1 a2 : Value}
theorem zipD_item_held {T : Addr} {f : Bool} {oT : Obj} {Q : Value → Shared → Prop} (S : ZipSep2 z TI TO i1 i2 fp1 fp2) (D1 : Draws prog w A i1 fp1 n1 P1 St1) (D2 : Draws prog w A i2 fp2 n2 P2 St2)
    (hz : IsZipHeld s.heap z TI TO T f) (hT : s.heap.get? T = some oT) (hTI : IsTupOf2 s.heap TI (.ref i1) (.ref i2)) (st1 : St1 i s.heap) (st2 : St2 i s.heap) (hlt1 : i < n1) (hlt2 : i < n2)
    (hQ : ∀ x y h' tk, P1 i x → P2 i y → IsZipHeld h' z TI TO T true → St1 (i + 1) h' → St2 (i + 1) h' → IsTupOf2 h' s.heap.objs.size x y →
      (∀ c o, c ≠ z → c ≠ i1 → c ≠ i2 → s.heap.get? c = some o → h'.get? c = some o) → Q (.ref s.heap.objs.size) { s with heap := h', toks := tk }) :
    wpAny (model prog w) A (Builtin.«zip.__next__» ⟨[.ref z], []⟩) (fun fin s' => ∃ v, fin = .done (.ret v) ∧ Q v s') E s := by
  obtain ⟨hp, g, d, tk0, os⟩ := s
  show wpAny _ _ (field (.ref z) 2 >>= _) _ _ _
  refine wpAny_bind (wpAny_field hz rfl (x := .bool false) rfl ?_)
  show wpAny _ _ (field (.ref z) 3 >>= _) _ _ _
  refine wpAny_bind (wpAny_field hz rfl (x := .ref TI) rfl ?_)
  refine wpAny_bind (wpAny_seqItems hTI rfl ?_)
  show wpAny _ _ (Builtin.SmallTypes.ownedTupleIsFree (.ref z) >>= _) _ _ _
  refine wpAny_bind (wpAny_tupleHeld_zip hz hT fun h₁ hz₁ hs₁ => ?_)
  replace hs₁ : Heap.SameBut z hp h₁ := hs₁
  simp only [Bool.false_eq_true, if_false]
  refine wpAny_bind ?_
  rw [← Array.forIn_toList]
  simp only [List.forIn_cons, List.forIn_nil]
  refine wpAny_bind (wpAny_bind (wpAny_holding ?_))
  show wpAny _ _ (Builtin.SmallTypes.nextOf (.ref i1) >>= _) _ _ ⟨h₁, g, d, tk0, os⟩
  refine wpAny_bind (D1.item i _ _ _ hlt1 (D1.over st1 hs₁ S.zf1) fun x h₂ tk1 hx sn1 hs₂ => wpAny_pure ?_)
  replace hs₂ : Heap.SameBut i1 h₁ h₂ := hs₂
  refine wpAny_pure ?_
  refine wpAny_bind (wpAny_bind (wpAny_holding ?_))
  show wpAny _ _ (Builtin.SmallTypes.nextOf (.ref i2) >>= _) _ _ ⟨h₂, g, d, tk1, os⟩
  refine wpAny_bind (D2.item i _ _ _ hlt2 (D2.over (D2.over st2 hs₁ S.zf2) hs₂ S.sep1_2) fun y h₃ tk2 hy sn2 hs₃ => wpAny_pure ?_)
  replace hs₃ : Heap.SameBut i2 h₂ h₃ := hs₃
  refine wpAny_pure (wpAny_pure ?_)
  show wpAny _ _ (newTuple [x, y] >>= _) _ _ _
  refine wpAny_bind (wpAny_newTuple ?_)
  have hsz : h₃.objs.size = hp.objs.size := by rw [hs₃.1, hs₂.1, hs₁.1]
  have hz₃ : IsZipHeld h₃ z TI TO T true := hs₃.extBut _ _ S.zi2 (hs₂.extBut _ _ S.zi1 hz₁)
  have hk : ∀ c o, c ≠ z → c ≠ i1 → c ≠ i2 → hp.get? c = some o → h₃.get? c = some o := fun c o c1 c2 c3 e => hs₃.extBut _ _ c3 (hs₂.extBut _ _ c2 (hs₁.extBut _ _ c1 e))
  have hj1 : St1 (i + 1) h₃ := D1.over sn1 hs₃ S.sep2_1
  refine wpAny_pure ⟨_, rfl, ?_⟩
  show Q (.ref h₃.objs.size) ⟨h₃.push { cls := .type "tuple", data := .seq #[x, y] }, g, d, tk2, os⟩
  have hp' : IsTupOf2 (h₃.push { cls := .type "tuple", data := .seq #[x, y] }) h₃.objs.size x y := Heap.get?_push_size _ rfl
  rw [hsz] at hp' ⊢
  exact hQ x y _ tk2 hx hy (Heap.get?_push_of_some _ hz₃) (D1.frame _ _ _ hj1 fun b hb o e => Heap.get?_push_of_some _ e) (D2.frame _ _ _ sn2 fun b hb o e => Heap.get?_push_of_some _ e) hp' fun c o c1 c2 c3 e => Heap.get?_push_of_some _ (hk c o c1 c2 c3 e)
theorem zipD_end_held {T : Addr} {f : Bool} {oT : Obj} {Q : Fin → Shared → Prop} (S : ZipSep2 z TI TO i1 i2 fp1 fp2) (D1 : Draws prog w A i1 fp1 n1 P1 St1) (D2 : Draws prog w A i2 fp2 n2 P2 St2)
    (hz : IsZipHeld s.heap z TI TO T f) (hT : s.heap.get? T = some oT) (hTI : IsTupOf2 s.heap TI (.ref i1) (.ref i2)) (st1 : St1 i s.heap) (st2 : St2 i s.heap) (hle1 : i ≤ n1) (hle2 : i ≤ n2) (hend : i = n1 ∨ i = n2)
    (hE : ∀ h' tk e, (∀ c o, c ≠ z → c ≠ i1 → c ≠ i2 → s.heap.get? c = some o → h'.get? c = some o) → (∃ o, h'.get? e = some o ∧ o.cls = .type "StopIteration") → E (.ref e) { s with heap := h', toks := tk }) :
    wpAny (model prog w) A (Builtin.«zip.__next__» ⟨[.ref z], []⟩) Q E s := by
  obtain ⟨hp, g, d, tk0, os⟩ := s
  show wpAny _ _ (field (.ref z) 2 >>= _) _ _ _
  refine wpAny_bind (wpAny_field hz rfl (x := .bool false) rfl ?_)
  show wpAny _ _ (field (.ref z) 3 >>= _) _ _ _
  refine wpAny_bind (wpAny_field hz rfl (x := .ref TI) rfl ?_)
  refine wpAny_bind (wpAny_seqItems hTI rfl ?_)
  show wpAny _ _ (Builtin.SmallTypes.ownedTupleIsFree (.ref z) >>= _) _ _ _
  refine wpAny_bind (wpAny_tupleHeld_zip hz hT fun h₁ hz₁ hs₁ => ?_)
  replace hs₁ : Heap.SameBut z hp h₁ := hs₁
  simp only [Bool.false_eq_true, if_false]
  refine wpAny_bind ?_
  rw [← Array.forIn_toList]
  simp only [List.forIn_cons, List.forIn_nil]
  refine wpAny_bind (wpAny_bind (wpAny_holding ?_))
  show wpAny _ _ (Builtin.SmallTypes.nextOf (.ref i1) >>= _) _ _ ⟨h₁, g, d, tk0, os⟩
  by_cases h1 : i = n1
  · subst h1
    refine wpAny_bind (D1.done _ _ _ (D1.over st1 hs₁ S.zf1) fun h₂ e hs₂ he => ?_)
    replace hs₂ : Heap.ExtBut i1 h₁ h₂ := hs₂
    exact hE h₂ tk0 e (fun c o c1 c2 _ x => hs₂ _ _ c2 (hs₁.extBut _ _ c1 x)) he
  · have h2 : i = n2 := by rcases hend with q | q; exact absurd q h1; exact q
    refine wpAny_bind (D1.item i _ _ _ (by omega) (D1.over st1 hs₁ S.zf1) fun x h₂ tk1 hx sn1 hs₂ => wpAny_pure ?_)
    replace hs₂ : Heap.SameBut i1 h₁ h₂ := hs₂
    refine wpAny_pure ?_
    refine wpAny_bind (wpAny_bind (wpAny_holding ?_))
    show wpAny _ _ (Builtin.SmallTypes.nextOf (.ref i2) >>= _) _ _ ⟨h₂, g, d, tk1, os⟩
    subst h2
    refine wpAny_bind (D2.done _ _ _ (D2.over (D2.over st2 hs₁ S.zf2) hs₂ S.sep1_2) fun h₃ e hs₃ he => ?_)
    replace hs₃ : Heap.ExtBut i2 h₂ h₃ := hs₃
    exact hE h₃ tk1 e (fun c o c1 c2 c3 x => hs₃ _ _ c3 (hs₂.extBut _ _ c2 (hs₁.extBut _ _ c1 x))) he
end
end AR
namespace AR
open PySem PySem.Spec PyProof.Rows L2
section
variable {prog : Program} {w : World} {A : Around} {z TI TO i1 i2 S : Addr} {fp1 fp2 : List Addr} {n1 n2 : Nat} {P1 P2 : Nat → Value → Prop} {St1 St2 : Nat → Heap → Prop}
def ZSt (z TI TO i1 i2 S : Addr) (St1 St2 : Nat → Heap → Prop) (i : Nat) (h : Heap) : Prop :=
  ((IsZip h z TI TO .none ∧ ∃ a1 a2, IsTupOf2 h TO a1 a2) ∨ ∃ T f oT, IsZipHeld h z TI TO T f ∧ h.get? T = some oT ∧ T ≠ z ∧ T ≠ i1 ∧ T ≠ i2 ∧ T ≠ S) ∧ IsTupOf2 h TI (.ref i1) (.ref i2) ∧ St1 i h ∧ St2 i h
theorem zip_pairIter (hS : ∀ b, b = z ∨ b = TI ∨ b = TO ∨ b ∈ fp1 ∨ b ∈ fp2 → b < S) (SP : ZipSep2 z TI TO i1 i2 fp1 fp2) (D1 : Draws prog w A.in1 i1 fp1 n1 P1 St1) (D2 : Draws prog w A.in1 i2 fp2 n2 P2 St2) :
    PairIter prog w A z S (min n1 n2) (fun i x y => P1 i x ∧ P2 i y) [z, TO, i1, i2] (ZSt z TI TO i1 i2 S St1 St2) where
  item := fun i s Q E hi st hSl hQ => by
    obtain ⟨hz, hTI, st1, st2⟩ := st
    have nT : ∀ c, c = z ∨ c = i1 ∨ c = i2 ∨ c = S → s.heap.objs.size ≠ c := fun c hc e => by
      have : c < s.heap.objs.size := by
        rcases hc with q | q | q | q
        · rw [q]; exact Nat.lt_trans (hS z (by simp)) hSl
        · rw [q]; exact Nat.lt_trans (hS i1 (by simp [SP.mem1])) hSl
        · rw [q]; exact Nat.lt_trans (hS i2 (by simp [SP.mem2])) hSl
        · rw [q]; exact hSl
      rw [e] at this
      exact absurd this (Nat.lt_irrefl _)
    rcases hz with ⟨hz, a1, a2, hTO⟩ | ⟨T, f, oT, hz, hT, t1, t2, t3, t4⟩
    · have hTy : s.TypeIs (.ref z) "zip" := ⟨_, hz, rfl⟩
      unfold pyNext
      refine wpAny_bind (wpAny_attempt (wpAny_callSpecial?_slot (name := Str.ofString "__next__") hTy F.slot_zip_next
        (wpAny_call_entry F.slot_zip_next hTy F.entry_zip_next
          (zipD2_next_item SP D1 D2 hz hTI hTO st1 st2 (by omega) (by omega) fun x y h' tk hx hy hz' hTO' sn1 sn2 ht hsz hk => wpAny_pure ?_) (F.args_zip_next_1 _))))
      refine hQ x y h' tk ⟨hx, hy⟩ ⟨.inr ⟨_, false, _, hz', ht, nT z (by simp), nT i1 (by simp), nT i2 (by simp), nT S (by simp)⟩, hk TI _ SP.TIz SP.TITO SP.TIi1 SP.TIi2 hTI, sn1, sn2⟩ ht fun b o hb e => ?_
      simp only [List.mem_cons, List.not_mem_nil, or_false, not_or] at hb
      exact hk b o hb.1 hb.2.1 hb.2.2.1 hb.2.2.2 e
    · have hTy : s.TypeIs (.ref z) "zip" := ⟨_, hz, rfl⟩
      unfold pyNext
      refine wpAny_bind (wpAny_attempt (wpAny_callSpecial?_slot (name := Str.ofString "__next__") hTy F.slot_zip_next
        (wpAny_call_entry F.slot_zip_next hTy F.entry_zip_next
          (zipD_item_held SP D1 D2 hz hT hTI st1 st2 (by omega) (by omega) fun x y h' tk hx hy hz' sn1 sn2 ht hk => wpAny_pure ?_) (F.args_zip_next_1 _))))
      refine hQ x y h' tk ⟨hx, hy⟩ ⟨.inr ⟨T, true, oT, hz', hk T oT t1 t2 t3 hT, t1, t2, t3, t4⟩, hk TI _ SP.TIz SP.TIi1 SP.TIi2 hTI, sn1, sn2⟩ ht fun b o hb e => ?_
      simp only [List.mem_cons, List.not_mem_nil, or_false, not_or] at hb
      exact hk b o hb.1 hb.2.2.1 hb.2.2.2 e
  done := fun s Q E st hQ => by
    obtain ⟨hz, hTI, st1, st2⟩ := st
    have hen : min n1 n2 = n1 ∨ min n1 n2 = n2 := by omega
    rcases hz with ⟨hz, a1, a2, hTO⟩ | ⟨T, f, oT, hz, hT, t1, t2, t3, t4⟩
    · have hTy : s.TypeIs (.ref z) "zip" := ⟨_, hz, rfl⟩
      unfold pyNext
      refine wpAny_bind (wpAny_attempt (wpAny_callSpecial?_slot (name := Str.ofString "__next__") hTy F.slot_zip_next
        (wpAny_call_entry F.slot_zip_next hTy F.entry_zip_next (zipD2_next_end SP D1 D2 hz hTI hTO st1 st2 (Nat.min_le_left _ _) (Nat.min_le_right _ _) hen fun h' tk e hk he => ?_) (F.args_zip_next_1 _))))
      obtain ⟨o, ho, hc⟩ := he
      refine wpAny_bind (wpAny_isInstance (T := "StopIteration") (b := true) ⟨o, ho, hc⟩ isSubtype_stop ?_)
      refine wpAny_pure (hQ h' tk fun b o hb e => ?_)
      simp only [List.mem_cons, List.not_mem_nil, or_false, not_or] at hb
      exact hk b o hb.1 hb.2.1 hb.2.2.1 hb.2.2.2 e
    · have hTy : s.TypeIs (.ref z) "zip" := ⟨_, hz, rfl⟩
      unfold pyNext
      refine wpAny_bind (wpAny_attempt (wpAny_callSpecial?_slot (name := Str.ofString "__next__") hTy F.slot_zip_next
        (wpAny_call_entry F.slot_zip_next hTy F.entry_zip_next (zipD_end_held SP D1 D2 hz hT hTI st1 st2 (Nat.min_le_left _ _) (Nat.min_le_right _ _) hen fun h' tk e hk he => ?_) (F.args_zip_next_1 _))))
      obtain ⟨o, ho, hc⟩ := he
      refine wpAny_bind (wpAny_isInstance (T := "StopIteration") (b := true) ⟨o, ho, hc⟩ isSubtype_stop ?_)
      refine wpAny_pure (hQ h' tk fun b o hb e => ?_)
      simp only [List.mem_cons, List.not_mem_nil, or_false, not_or] at hb
      exact hk b o hb.1 hb.2.2.1 hb.2.2.2 e
  keep := fun i h h' st k => by
    obtain ⟨hz, hTI, st1, st2⟩ := st
    have kk : ∀ b o, (b = z ∨ b = TI ∨ b = TO ∨ b ∈ fp1 ∨ b ∈ fp2) → h.get? b = some o → h'.get? b = some o := fun b o hb e => k b o (Nat.ne_of_lt (hS b hb)) e
    refine ⟨?_, kk TI _ (by simp) hTI, D1.frame _ _ _ st1 fun b hb o e => kk b o (by simp [hb]) e, D2.frame _ _ _ st2 fun b hb o e => kk b o (by simp [hb]) e⟩
    rcases hz with ⟨hz, a1, a2, hTO⟩ | ⟨T, f, oT, hz, hT, t1, t2, t3, t4⟩
    · exact .inl ⟨kk z _ (by simp) hz, a1, a2, kk TO _ (by simp) hTO⟩
    · exact .inr ⟨T, f, oT, kk z _ (by simp) hz, k T oT t4 hT, t1, t2, t3, t4⟩
  low := fun b hb => by
    have e' : b = z ∨ b = TO ∨ b = i1 ∨ b = i2 := by simpa using hb
    rcases e' with q | q | q | q
    · rw [q]; exact hS z (by simp)
    · rw [q]; exact hS TO (by simp)
    · rw [q]; exact hS i1 (by simp [SP.mem1])
    · rw [q]; exact hS i2 (by simp [SP.mem2])
end
theorem zip_no_len : typeLookup (.type "zip") "__len__" = pure none := am_miss_of_fast (by decide +kernel)
theorem zip_no_hint : typeLookup (.type "zip") "__length_hint__" = pure none := am_miss_of_fast (by decide +kernel)
section
variable {prog : Program} {w : World} {A : Around} {E : Value → Shared → Prop} {s : Shared} {I S : Addr} {n : Nat} {Pr : Nat → Value → Value → Prop} {wr : List Addr} {St : Nat → Heap → Prop}
theorem zip_hint {r : Addr} (hT : s.TypeIs (.ref r) "zip") {Q : Bool → Shared → Prop} (h : Q true s) : wpAny (model prog w) A (Builtin.List.listLengthHint (.ref r)) Q E s := by
  unfold Builtin.List.listLengthHint
  refine wpAny_bind (wpAny_specialOf hT zip_no_len ?_)
  refine wpAny_ite_split (fun hab => absurd hab (by decide)) (fun _ => ?_)
  refine wpAny_ite_split (fun hab => absurd hab (by decide)) (fun _ => ?_)
  refine wpAny_bind (wpAny_specialOf hT zip_no_hint ?_)
  exact wpAny_pure h
theorem pl_extend {R : Result → Shared → Prop} (W : PairIter prog w A.in1 I S n Pr wr St) (hn : n ≤ sizeLine) (hT : s.TypeIs (.ref I) "zip") (hIS : I ≠ S) (hst : St 0 s.heap)
    (self : ∀ (A' : Around) (s' : Shared) (Q : Value → Shared → Prop) (E : Value → Shared → Prop), s'.heap = s.heap → Q (.ref I) s' → wpAny (model prog w) A' (pyIter (.ref I)) Q E s')
    (res : Value) (c₀ : Nat) (hS : s.heap.get? S = some { cls := .type "list", data := .seq #[] c₀ })
    (hR : ∀ h' tk acc c as, (∀ b o, b ≠ S → b ∉ wr → s.heap.get? b = some o → h'.get? b = some o) → h'.get? S = some { cls := .type "list", dict := none, data := .seq acc c, slots := #[] } → as.length = n → Made2 Pr S h' as →
      acc.toList = as.map Value.ref → R (.ok (.ret res)) { s with heap := h', toks := tk }) :
    wpAny (model prog w) A.in1 (Builtin.List.listExtendWith (.ref S) (.ref I) res)
      (fun fin s' => match fin with | .done f => R (.ok f) s' | .again c' => c'.quiet = true ∧ codeAny (model prog w) A c' R s') (fun e s' => R (.error e) s') s := by
  have key : ∀ (h : Heap) (c₁ tk : Nat), St 0 h → (∀ b o, b ≠ S → b ∉ wr → s.heap.get? b = some o → h.get? b = some o) →
      h.get? S = some { cls := .type "list", data := .seq #[] c₁ } → codeAny (model prog w) A (.builtin "list.extend.loop" ⟨[.ref S, .ref I, res], []⟩) R { s with heap := h, toks := tk } := by
    intro h c₁ tk hst hk hS₁
    exact pl_loop W hn res hR n 0 h tk c₁ #[] [] (Nat.sub_zero _) (Nat.zero_le _) hst hk hS₁ rfl rfl ⟨List.Pairwise.nil, (fun _ ha => nomatch ha), (fun j a hj => by simp at hj)⟩
  unfold Builtin.List.listExtendWith
  refine wpAny_bind (wpAny_typeOf (T := "zip") hT ?_)
  have h1 : Builtin.List.listSameRef (.ref S) (.ref I) = false := by simp [Builtin.List.listSameRef, Ne.symm hIS]
  have h2 : (Value.type "zip" == Value.type "list") = false := by decide
  have h3 : (Value.type "zip" == Value.type "tuple") = false := by decide
  simp only [h1, h2, h3, Bool.or_false, Bool.false_eq_true, if_false]
  refine wpAny_bind (self _ _ _ _ rfl ?_)
  refine wpAny_bind (wpAny_holding (zip_hint hT ?_))
  refine wpAny_ite_split (fun _ => ?_) (fun _ => wpAny_pure ⟨plainId_quiet PySem.F.plain_extend_loop _, key _ c₀ _ hst (fun b o _ _ e => e) hS⟩)
  refine wpAny_bind (wpAny_rule ?_)
  refine wpAny_bind ?_
  show wpAny _ _ (updateSeq S (·.push .none) >>= fun _ => updateSeq S (·.pop)) _ _ _
  refine wpAny_bind (wpAny_updateSeq hS rfl ?_)
  have hS₂ := Heap.get?_update_self (Obj.mapSeq (·.push Value.none)) hS rfl
  refine wpAny_updateSeq (hz := by seq_fits) hS₂ rfl ?_
  have hS₃ := Heap.get?_update_self (Obj.mapSeq (·.pop)) hS₂ rfl
  have oth : ∀ b o, b ≠ S → s.heap.get? b = some o → ((s.heap.update S (Obj.mapSeq (·.push Value.none))).update S (Obj.mapSeq (·.pop))).get? b = some o := fun b o hb e => (Heap.get?_update_other _ _ (Ne.symm hb)).trans ((Heap.get?_update_other _ _ (Ne.symm hb)).trans e)
  exact wpAny_pure ⟨plainId_quiet PySem.F.plain_extend_loop _, key _ _ _ (W.keep _ _ _ hst oth) (fun b o hb _ e => oth b o hb e) hS₃⟩
end
end AR
namespace AR
open PySem PySem.Spec PyProof.Rows L2
section
variable {prog : Program} {w : World} {A : Around} {E : Value → Shared → Prop} {s : Shared} {I : Addr} {n : Nat} {Pr : Nat → Value → Value → Prop} {wr : List Addr} {St : Nat → Heap → Prop}
/-- list(zip) -/
theorem pl_call {Q : Value → Shared → Prop} (W : PairIter prog w A.in1.in1 I s.heap.objs.size n Pr wr St) (hn : n ≤ sizeLine) (hT : s.TypeIs (.ref I) "zip") (hst : St 0 s.heap) (hI : I < s.heap.objs.size)
    (self : ∀ (A' : Around) (s' : Shared) (Q : Value → Shared → Prop) (E : Value → Shared → Prop), (∀ o, s.heap.get? I = some o → s'.heap.get? I = some o) → Q (.ref I) s' → wpAny (model prog w) A' (pyIter (.ref I)) Q E s')
    (hQ : ∀ h' tk acc c as, (∀ b o, b ∉ wr → s.heap.get? b = some o → h'.get? b = some o) → h'.get? s.heap.objs.size = some { cls := .type "list", dict := none, data := .seq acc c, slots := #[] } → as.length = n → Made2 Pr s.heap.objs.size h' as →
      acc.toList = as.map Value.ref → Q (.ref s.heap.objs.size) { s with heap := h', toks := tk }) :
    wpAny (model prog w) A (call (.type "list") [.ref I]) Q E s := by
  refine callType_codes (Q₁ := fun obj s₁ => obj = .ref s.heap.objs.size ∧ s₁ = { s with heap := s.heap.push { cls := .type "list", data := .seq #[] } }) PySem.F.called_list (PySem.F.typeCall_list_1 _) PySem.F.entry_list_init
    (code_list_new _ ⟨rfl, rfl⟩) fun obj s₁ h₁ => ?_
  obtain ⟨rfl, rfl⟩ := h₁
  have hS : (s.heap.push { cls := .type "list", data := .seq #[] }).get? s.heap.objs.size = some { cls := .type "list", data := .seq #[] } := Heap.get?_push_size _ rfl
  have hIS : I ≠ s.heap.objs.size := Nat.ne_of_lt hI
  refine ⟨⟨_, hS, rfl⟩, PySem.F.args_list_init_2 _ _, ?_⟩
  show wpAny _ _ (do let old ← Builtin.List.listItems (.ref s.heap.objs.size); Builtin.List.listUpdate (.ref s.heap.objs.size) (fun _ => #[]); letGo old.toList.reverse; Builtin.List.listExtendWith (.ref s.heap.objs.size) (.ref I) .none) _ _ _
  refine wpAny_bind ?_
  unfold Builtin.List.listItems
  refine wpAny_bind (wpAny_seqItems hS rfl (wpAny_pure ?_))
  show wpAny _ _ (updateSeq s.heap.objs.size (fun _ => #[]) >>= fun _ => letGo (#[] : Array Value).toList.reverse >>= fun _ => Builtin.List.listExtendWith (.ref s.heap.objs.size) (.ref I) .none) _ _ _
  refine wpAny_bind (wpAny_updateSeq hS rfl ?_)
  have hS₂ := Heap.get?_update_self (Obj.mapSeq (fun _ => (#[] : Array Value))) hS rfl
  have oth : ∀ b o, b ≠ s.heap.objs.size → s.heap.get? b = some o → ((s.heap.push { cls := .type "list", data := .seq #[] }).update s.heap.objs.size (Obj.mapSeq (fun _ => (#[] : Array Value)))).get? b = some o :=
    fun b o hb e => (Heap.get?_update_other _ _ (Ne.symm hb)).trans (Heap.get?_push_of_some _ e)
  refine wpAny_bind (wpAny_letGo ?_)
  refine pl_extend (A := A.in1) W hn (let ⟨o, ho, hc⟩ := hT; ⟨o, oth I o hIS ho, hc⟩) hIS (W.keep _ _ _ hst oth) (fun A' s' Q E e h => self A' s' Q E (fun o ho => by rw [e]; exact oth I o hIS ho) h) .none _ hS₂ (fun h' tk acc c as hk hS' hl hG hacc => ?_)
  exact ⟨rfl, hQ h' tk acc c as (fun b o hb e => hk b o (Nat.ne_of_lt (Heap.lt_size e)) hb (oth b o (Nat.ne_of_lt (Heap.lt_size e)) e)) hS' hl hG hacc⟩
end
section
variable {X : Cx} {pins : List (Addr × Obj)} {σ : L2.St} {H : Hp} {s : Shared}
/-- several new objects, tracked at once -/
theorem laidAll {as : List Addr} {H' : Hp} {h' : Heap} {t' : Nat} (I : Inv X pins σ H s) (k : ∀ b u, s.heap.get? b = some u → h'.get? b = some u) (hf : ∀ a ∈ as, s.heap.objs.size ≤ a) (off : ∀ b, b ∉ as → H' b = H b)
    (new : ∀ a ∈ as, ∀ o, H' a = some o → ObjOk X.prog X.w H' h' a o) : Inv X pins σ H' { s with heap := h', toks := t' } := by
  have hfr : ∀ a ∈ as, H a = none := fun a ha => I.hok.fresh (hf a ha)
  have kp : ∀ b o, H b = some o → H' b = some o := fun b o e => by
    rw [off b fun hb => by rw [hfr b hb] at e; cases e]; exact e
  have nas : ∀ b o, s.heap.get? b = some o → b ∉ as := fun b o e hb => absurd (Nat.lt_of_lt_of_le (Heap.lt_size e) (hf b hb)) (Nat.lt_irrefl _)
  refine I.un ⟨fun b o q _ _ _ => k b o q, fun b o q _ _ _ => ⟨o.slots, k b o q⟩, fun b o q n _ => by rw [off b (nas b o q)]; exact n, fun b o q _ => ⟨o, k b o q⟩, fun b xs q => kp b _ q, fun b o u q => kp b _ q, fun b ps q => ⟨#[], by rw [kp b _ q]; simp⟩⟩ fun b o e => ?_
  by_cases hb : b ∈ as
  · exact new b hb o e
  · rw [off b hb] at e
    exact (I.hok b o e).stay (fun c v _ q => k c v q) (fun c q => kp c _ q) fun c xs q => kp c _ q
/-- list(zip(a, b)): a new list of new pairs -/
def tListZ (K : PySem.W.Frag) (ta : TA) : TE := fun σ H Q => ta σ H fun vs H1 => ∃ s1 s2 : Src, ∃ xs ys, vs = [s1.v, s2.v] ∧ s1.has K H1 xs ∧ s2.has K H1 ys ∧ min xs.length ys.length ≤ sizeLine ∧
  ∀ (l : Addr) (as : List Addr) (H' : Hp), H1 l = none → (∀ a ∈ as, H1 a = none) → Same H1 H' → H' l = some (.lst (as.map V.ref)) → as.length = min xs.length ys.length →
    (∀ (j : Nat) a, as[j]? = some a → ∃ x y, xs[j]? = some x ∧ ys[j]? = some y ∧ H' a = some (.tup [x, y])) → Q (.ref l) H'
theorem pe_listZ {e e2 : Expr} {ta : TA} {p p2 pos pos2 : Pos} (hc : X.calm = true) (hg : Gl X "list") (hm : X.mg "list" = none) (hg2 : Gl X "zip") (hm2 : X.mg "zip" = none) (ha : PA X [e, e2] ta)
    (hs : starEach [.Call (.Name "zip" p2) [e, e2] [] pos2] X.env = (false, eval (.Call (.Name "zip" p2) [e, e2] [] pos2) X.env) :: starEach [] X.env := by rfl)
    (hs2 : starEach [e, e2] X.env = (false, eval e X.env) :: starEach [e2] X.env := by rfl) (hpl : (backTo pos2 (starEach [e2] X.env)).any (·.1) = false := by rfl) :
    PE X (.Call (.Name "list" p) [.Call (.Name "zip" p2) [e, e2] [] pos2] [] pos) (tListZ X.K ta) := by
  refine ⟨fun pins s σ H Q I h => ?_⟩
  refine wpAny_Call_Name_kw (ld_blt I hg hm (show bootBuiltins "list" = some (.type "list") by decide +kernel) ?_)
  refine PyProof.Rows.callWith_type1 ?_ hs rfl
  rw [hs]
  show wpAny _ _ (spliced ((false, eval (.Call (.Name "zip" p2) [e, e2] [] pos2) X.env) :: backTo pos (starEach [] X.env))) _ _ s
  refine Calls.spliced_cons ?_
  refine Call_ (ld_blt I hg2 hm2 PyProof.Rows.boot_zip (PyProof.Rows.callWith_type1 (thn (ha.run pos2 pins s σ H _ I h) fun us s1 ⟨vs, H1, I1, r1, q1⟩ => ?_) hs2 hpl))
  obtain ⟨c1, c2, xs, ys, rfl, g1, g2, hn, q⟩ := q1
  cases r1 with
  | cons r rr =>
    cases rr with
    | cons r' rr =>
      cases rr
      obtain ⟨t1, e1⟩ := c1.is_of r
      obtain ⟨t2, e2⟩ := c2.is_of r'
      obtain ⟨it1, o1, r1, l1, _⟩ := Src.given I1 c1 g1
      obtain ⟨it2, o2, r2, l2, _⟩ := Src.given I1 c2 g2
      refine zip_begins2 (c1.begins t1 it1 e1) (c2.begins t2 it2 e2) o1 o2 fun h' hz hTI hTO h1 h2 hsz hk => ?_
      refine Calls.spliced_nil ?_
      have I2 : Inv X pins σ H1 { s1 with heap := h' } := I1.kept (t' := s1.toks) hk
      have D1 := Src.draws (P := X.prog) (w := X.w) (A := X.A.in1.in1.in1) (I1.ok.hd hc) c1 t1 s1.heap.objs.size it1 xs r1 (fun b hb => Nat.ne_of_lt (l1 b hb))
      have D2 := Src.draws (P := X.prog) (w := X.w) (A := X.A.in1.in1.in1) (I1.ok.hd hc) c2 t2 (s1.heap.objs.size + 1) it2 ys r2 (fun b hb => Nat.ne_of_lt (Nat.lt_succ_of_lt (l2 b hb)))
      have ok1 : c1.ok it1 h' := (c1.begins t1 it1 e1).keeps _ _ o1 hk
      have ok2 : c2.ok it2 h' := (c2.begins t2 it2 e2).keeps _ _ o2 hk
      have W := zip_pairIter (prog := X.prog) (w := X.w) (A := X.A.in1.in1) (S := h'.objs.size) (z := s1.heap.objs.size + 4) (TI := s1.heap.objs.size + 2) (TO := s1.heap.objs.size + 3) (fun b hb => by
        have hle : b < s1.heap.objs.size + 5 := by
          rcases hb with q | q | q | q | q
          · rw [q]; exact Nat.lt_succ_self _
          · rw [q]; exact Nat.add_lt_add_left (by decide) _
          · rw [q]; exact Nat.add_lt_add_left (by decide) _
          · rcases List.mem_cons.mp q with q | q
            · rw [q]; exact Nat.lt_add_of_pos_right (by decide)
            · exact Nat.lt_of_lt_of_le (l1 b q) (Nat.le_add_right _ _)
          · rcases List.mem_cons.mp q with q | q
            · rw [q]; exact Nat.add_lt_add_left (by decide) _
            · exact Nat.lt_of_lt_of_le (l2 b q) (Nat.le_add_right _ _)
        rw [hsz]; exact hle) (zip_sep2 l1 l2) D1 D2
      refine pl_call (s := { s1 with heap := h' }) W hn ⟨_, hz, rfl⟩ ⟨.inl ⟨hz, _, _, hTO⟩, hTI, ⟨c1.at_obj t1 h1, ok1⟩, ⟨c2.at_obj t2 h2, ok2⟩⟩ (Heap.lt_size hz) (fun A' s' Q E kk hq => wpAny_pyIter_zip (kk _ hz) hq) fun h'' tk acc c as hk2 hS hl hG hacc => ?_
      have hk3 : ∀ b o, s1.heap.get? b = some o → h''.get? b = some o := fun b o eb => hk2 b o (fun hb => by
        have lt := Heap.lt_size eb
        have e' : b = s1.heap.objs.size + 4 ∨ b = s1.heap.objs.size + 3 ∨ b = s1.heap.objs.size ∨ b = s1.heap.objs.size + 1 := by simpa using hb
        rcases e' with q | q | q | q <;> (rw [q] at lt; exact absurd lt (by first | exact Nat.lt_irrefl _ | exact Nat.not_lt.mpr (Nat.le_add_right _ _)))) (hk b o eb)
      have hS0 : s1.heap.objs.size ≤ h'.objs.size := by rw [hsz]; exact Nat.le_add_right _ _
      -- each tuple by its place
      have tv : ∀ (j : Nat) a, as[j]? = some a → ∃ x y, xs[j]? = some x ∧ ys[j]? = some y ∧ ∃ u u', RelV x u ∧ RelV y u' ∧ IsTupOf2 h'' a u u' := fun j a ja => by
        obtain ⟨u, u', ⟨⟨x, hx, rx⟩, ⟨y, hy, ry⟩⟩, ht⟩ := hG.pairs j a ja
        exact ⟨x, y, hx, hy, u, u', rx, ry, ht⟩
      have ndup : ∀ (i j : Nat) a, as[i]? = some a → as[j]? = some a → i = j := fun i j a hi hj => by
        rcases Nat.lt_trichotomy i j with lt | eq | gt
        · have := List.pairwise_iff_getElem.mp hG.rise i j (List.getElem?_eq_some_iff.mp hi).1 (List.getElem?_eq_some_iff.mp hj).1 lt
          rw [(List.getElem?_eq_some_iff.mp hi).2, (List.getElem?_eq_some_iff.mp hj).2] at this
          exact absurd this (Nat.lt_irrefl _)
        · exact eq
        · have := List.pairwise_iff_getElem.mp hG.rise j i (List.getElem?_eq_some_iff.mp hj).1 (List.getElem?_eq_some_iff.mp hi).1 gt
          rw [(List.getElem?_eq_some_iff.mp hi).2, (List.getElem?_eq_some_iff.mp hj).2] at this
          exact absurd this (Nat.lt_irrefl _)
      let f : Addr → Option HO := fun a => match as.idxOf? a with
        | some j => (match xs[j]?, ys[j]? with
          | some x, some y => some (.tup [x, y])
          | _, _ => none)
        | none => none
      let H' : Hp := fun b => if b = h'.objs.size then some (.lst (as.map V.ref)) else if b ∈ as then f b else H1 b
      have nS : ∀ a ∈ as, a ≠ h'.objs.size := fun a ha => Nat.ne_of_gt (hG.above a ha)
      have atH : ∀ (j : Nat) a x y, as[j]? = some a → xs[j]? = some x → ys[j]? = some y → H' a = some (.tup [x, y]) := fun j a x y ja hx hy => by
        have hm := List.mem_of_getElem? ja
        show (if a = h'.objs.size then some (HO.lst (as.map V.ref)) else if a ∈ as then f a else H1 a) = _
        rw [if_neg (nS a hm), if_pos hm]
        show (match as.idxOf? a with
          | some j => (match xs[j]?, ys[j]? with
            | some x, some y => some (HO.tup [x, y])
            | _, _ => none)
          | none => none) = _
        cases hi : as.idxOf? a with
        | none =>
          have := List.idxOf?_eq_none_iff.mp hi
          exact absurd hm this
        | some i =>
          have hi2 : as[i]? = some a := by
            obtain ⟨hlt, he, _⟩ := List.findIdx?_eq_some_iff_getElem.mp (show as.findIdx? (· == a) = some i from hi)
            rw [List.getElem?_eq_getElem hlt]
            exact congrArg some (beq_iff_eq.mp he)
          have : i = j := ndup i j a hi2 ja
          subst this
          show (match xs[i]?, ys[i]? with
            | some x, some y => some (HO.tup [x, y])
            | _, _ => none) = _
          rw [hx, hy]
      have J : Inv X pins σ H' { s1 with heap := h'', toks := tk } := by
        refine laidAll (as := h'.objs.size :: as) I1 hk3 (fun a ha => ?_) (fun b hb => ?_) fun a ha o e => ?_
        · rcases List.mem_cons.mp ha with q | q
          · rw [q]; exact hS0
          · exact Nat.le_trans hS0 (Nat.le_of_lt (hG.above a q))
        · show (if b = h'.objs.size then some (HO.lst (as.map V.ref)) else if b ∈ as then f b else H1 b) = _
          rw [if_neg (fun q => hb (by rw [q]; exact List.mem_cons_self)), if_neg (fun q => hb (List.mem_cons_of_mem _ q))]
        · by_cases hS' : a = h'.objs.size
          · subst hS'
            have eo : H' h'.objs.size = some (.lst (as.map V.ref)) := if_pos rfl
            rw [eo] at e
            cases e
            refine ⟨by rw [List.length_map, hl]; exact hn, acc.toList, c, ?_, by simpa using hS⟩
            rw [hacc]
            refine paired_of_get (by simp) fun j v u h1 h2 => ?_
            rw [List.getElem?_map] at h1 h2
            cases ej : as[j]? with
            | none => rw [ej] at h1; cases h1
            | some b =>
              rw [ej] at h1 h2
              cases h1; cases h2
              rfl
          · have hm : a ∈ as := by rcases List.mem_cons.mp ha with q | q; exact absurd q hS'; exact q
            obtain ⟨j, ja⟩ := List.mem_iff_getElem?.mp hm
            obtain ⟨x, y, hx, hy, u, u', rx, ry, ht⟩ := tv j a ja
            rw [atH j a x y ja hx hy] at e
            cases e
            exact ⟨by show 2 ≤ sizeLine; decide, [u, u'], .cons rx (.cons ry .nil), ⟨_, ht, rfl, _, rfl⟩⟩
      have fS : H1 h'.objs.size = none := I1.hok.fresh hS0
      have fa : ∀ a ∈ as, H1 a = none := fun a ha => I1.hok.fresh (Nat.le_trans hS0 (Nat.le_of_lt (hG.above a ha)))
      refine ⟨.ref _, H', J, rfl, q _ as H' fS fa (fun b o e => ?_) (if_pos rfl) hl fun j a ja => ?_⟩
      · show (if b = h'.objs.size then some (HO.lst (as.map V.ref)) else if b ∈ as then f b else H1 b) = _
        rw [if_neg (ne_of_none e fS), if_neg (fun hm => by rw [fa b hm] at e; cases e)]
        exact e
      · obtain ⟨x, y, hx, hy, _⟩ := tv j a ja
        exact ⟨x, y, hx, hy, atH j a x y ja hx hy⟩
end
end AR
namespace AR
open PySem PySem.Spec PyProof.Rows L2
/-- a method of the class at C -/
structure MD (K : PySem.W.Frag) (C : Addr) (m qual : Str) (st : Stmt) (ps : List Str) : Prop where
  ex : ∃ (f : Addr) (fd : FuncData), FunD K m qual (defArgs st) (defBody st) (defScope st) [] [] f fd ∧ Meth K C m f ∧ Binds K fd ps []
/-- an __init__ of the class at C -/
structure ID (K : PySem.W.Frag) (mg : Str → Option Value) (x : Str) (C : Addr) (qual : Str) (st : Stmt) (ps : List Str) : Prop where
  ex : ∃ (f : Addr) (fd : FuncData), FunD K "__init__" qual (defArgs st) (defBody st) (defScope st) [] [] f fd ∧ Mk K C f ∧ mg x = some (.ref C) ∧ Binds K fd ps []
section
variable {P : Program} {w : World} {K : PySem.W.Frag} {mg : Str → Option Value} {base : Heap}
theorem MD.met {C : Addr} {m qual : Str} {st : Stmt} {N ps : List Str} {k : Nat} {sp : Sp} (M : MD K C m qual st ps) (c : Cls K C) (S : FnScope N ps (defScope st)) (len : ∀ vs H Q E, sp vs H Q E → vs.length = ps.length)
    (hbody : ∀ (f : Addr) (cdv : Value) (A : Around) (outer : List Env) (s : Shared) (H : Hp) (vs : List V) (Q : VK) (E : XK), Room k (A.deeper (envOfC qual (defScope st) s.heap.objs.size f cdv)) → sp vs H Q E →
      ∃ t, PSs (cxOf CX0 P w K mg base N qual (defScope st) f cdv A outer s H E).nox (defBody st) t ∧ t { nx := fun _ H' => Q .non H', rt := Q } (start N vs) H) : C8.Met P w K mg base (k + 1) C m sp [] := by
  obtain ⟨f, fd, F, me, b⟩ := M.ex
  refine ⟨f, fd, ps, [], c, me, F.ok S len fun cdv A outer s H vs Q E hr hsp => ?_, b, .nil⟩
  obtain ⟨t, h, q⟩ := hbody f cdv A outer s H vs Q E hr hsp
  exact ⟨t, h.nox, q⟩
theorem ID.mak {x qual : Str} {C : Addr} {st : Stmt} {N ps : List Str} {k : Nat} {sp : Sp} (M : ID K mg x C qual st ps) (S : FnScope N ps (defScope st)) (len : ∀ vs H Q E, sp vs H Q E → vs.length = ps.length)
    (hbody : ∀ (f : Addr) (cdv : Value) (A : Around) (outer : List Env) (s : Shared) (H : Hp) (vs : List V) (Q : VK) (E : XK), Room k (A.deeper (envOfC qual (defScope st) s.heap.objs.size f cdv)) → sp vs H Q E →
      ∃ t, PSs (cxOf CX0 P w K mg base N qual (defScope st) f cdv A outer s H E).nox (defBody st) t ∧ t { nx := fun _ H' => Q .non H', rt := Q } (start N vs) H) : C8.Mak P w K mg base (k + 1) x C sp [] := by
  obtain ⟨f, fd, F, mk, hm, b⟩ := M.ex
  refine ⟨f, fd, ps, [], mk, F.ok S len fun cdv A outer s H vs Q E hr hsp => ?_, hm, b, .nil⟩
  obtain ⟨t, h, q⟩ := hbody f cdv A outer s H vs Q E hr hsp
  exact ⟨t, h.nox, q⟩
end
end AR
namespace AR
open PySem PySem.Spec PyProof.Rows L2
/-! ### the layer's rules with the written part named (so that they stand within a comprehension too) -/
section
variable (K : PySem.W.Frag) {X : Cx}
theorem ix_listK (hK : X.K = K := by rfl) : IxR X (rIxL K) := hK ▸ ix_list
theorem ix_tupK (hK : X.K = K := by rfl) : IxR X (rIxT K) := hK ▸ ix_tup
theorem op_in_seqK (hK : X.K = K := by rfl) : OpR X (compareOp .In) (rIn K false) := hK ▸ op_in_seq
theorem op_notIn_seqK (hK : X.K = K := by rfl) : OpR X (compareOp .NotIn) (rIn K true) := hK ▸ op_notIn_seq
theorem op_eqDK (hu : X.A.units + 64 < cLine) (hK : X.K = K := by rfl) : OpR X (compareOp .Eq) (rEqD K) := hK ▸ op_eqD hu
theorem op_neDK (hu : X.A.units + 64 < cLine) (hK : X.K = K := by rfl) : OpR X (compareOp .NotEq) (rNeD K) := hK ▸ op_neD hu
theorem sl_listK (hK : X.K = K := by rfl) : SlR X (rSlL K) := hK ▸ sl_list
theorem sl_tupAK (hK : X.K = K := by rfl) : SlR X (rSlA K) := hK ▸ sl_tupA
theorem op_catAK (hK : X.K = K := by rfl) : OpR X (binaryOp .Add) (rCatA K) := hK ▸ op_catA
def rLenQ : List V → Hp → VK → Prop := fun xs H Q => ∃ p ys, xs = [.ref p] ∧ (SqL K H p ys ∨ SqT K H p ys) ∧ Q (.int ys.length) H
theorem call_lenK (hK : X.K = K := by rfl) : CallR X (.builtin "len") (rLenQ K) := by subst hK; exact call_len_seq
def rListQ : List V → Hp → VK → Prop := fun xs H Q => ∃ p ys, xs = [.ref p] ∧ (SqL K H p ys ∨ SqT K H p ys) ∧ ∀ l, H l = none → Q (.ref l) (upd H l (.lst ys))
theorem call_listK (hK : X.K = K := by rfl) : CallR X (.type "list") (rListQ K) := by subst hK; exact call_list_of
def rTupQ : List V → Hp → VK → Prop := fun xs H Q => ∃ p ys, xs = [.ref p] ∧ ((SqL K H p ys ∧ ∀ l, H l = none → Q (.ref l) (upd H l (.tup ys))) ∨ (SqT K H p ys ∧ Q (.ref p) H))
theorem call_tupK (hK : X.K = K := by rfl) : CallR X (.type "tuple") (rTupQ K) := by subst hK; exact call_tuple_of
theorem cr_allK (hc : X.calm = true) (hK : X.K = K := by rfl) : CallR X (.builtin "all") (rAll K) := hK ▸ cr_all hc
theorem cr_anyK (hc : X.calm = true) (hK : X.K = K := by rfl) : CallR X (.builtin "any") (rAny K) := hK ▸ cr_any hc
theorem cr_sumK (hc : X.calm = true) (hK : X.K = K := by rfl) : CallR X (.builtin "sum") (rSum K) := hK ▸ cr_sum hc
theorem call_isK (hK : X.K = K := by rfl) : CallR X (.builtin "isinstance") (rIsi K) := hK ▸ call_isi
theorem call_isTK (hK : X.K = K := by rfl) : CallR X (.builtin "isinstance") (rIsiT K) := hK ▸ call_isiT
def rDictQ : List V → Hp → VK → Prop := fun xs H Q => ∃ (a : Addr) (ps : List Addr) (kvs : List (Key × V)), xs = [.ref a] ∧ SqL K H a (ps.map V.ref) ∧ Paired (fun p kv => SqT K H p [kV kv.1, kv.2]) ps kvs ∧ ∀ p, H p = none → Q (.ref p) (upd H p (.dK (mergeK [] kvs)))
theorem call_dictK (hc : X.calm = true) (hK : X.K = K := by rfl) : CallR X (.type "dict") (rDictQ K) := by subst hK; exact call_dictP hc
def rLenT : List V → Hp → VK → Prop := fun xs H Q => ∃ z, xs = [.str z] ∧ z.length ≤ sizeLine ∧ Q (.int z.length) H
theorem call_lenT : CallR X (.builtin "len") rLenT := call_len_str
def rListT : List V → Hp → VK → Prop := fun xs H Q => ∃ x, xs = [.str x] ∧ x.length ≤ sizeLine ∧ ∀ l, H l = none → Q (.ref l) (upd H l (.lst (chV x)))
theorem call_listT (hc : X.calm = true) : CallR X (.type "list") rListT := call_list_txt hc
variable {e o : Expr} {es : List Expr} {ta to te : TE} {t : TA} {f name : Str} {pos apos cpos : Pos} {T id : String} {r : V → List V → Hp → VK → Prop}
theorem pe_fldK (he : PE X e ta) (hb : attributeBase e f X.env (eval e X.env) = eval e X.env) (hK : X.K = K := by rfl) : PE X (.Attribute e f pos) (tFld K ta f) := hK ▸ pe_fld he hb
theorem pi_listK {tg : Expr} (hl : PE X e ta) (hK : X.K = K := by rfl) : PI X tg e (iList K ta) := hK ▸ pi_list hl
theorem pi_tupK {tg : Expr} (hl : PE X e ta) (hK : X.K = K := by rfl) : PI X tg e (iTup K ta) := hK ▸ pi_tup hl
theorem pi_ZK {e2 : Expr} {p tpos : Pos} {elts : List Expr} {kk : Nat} (hg : Gl X "zip") (hm : X.mg "zip" = none) (ha : PA X [e, e2] t) (hK : X.K = K := by rfl)
    (hs : starEach [e, e2] X.env = (false, eval e X.env) :: starEach [e2] X.env := by rfl) (hpl : (backTo pos (starEach [e2] X.env)).any (·.1) = false := by rfl) :
    PI X (.Tuple elts kk tpos) (.Call (.Name "zip" p) [e, e2] [] pos) (iZ K t) := hK ▸ pi_Z hg hm ha hs hpl
theorem pe_listZK {e2 : Expr} {p p2 pos2 : Pos} (hc : X.calm = true) (hg : Gl X "list") (hm : X.mg "list" = none) (hg2 : Gl X "zip") (hm2 : X.mg "zip" = none) (ha : PA X [e, e2] t) (hK : X.K = K := by rfl)
    (hs : starEach [.Call (.Name "zip" p2) [e, e2] [] pos2] X.env = (false, eval (.Call (.Name "zip" p2) [e, e2] [] pos2) X.env) :: starEach [] X.env := by rfl)
    (hs2 : starEach [e, e2] X.env = (false, eval e X.env) :: starEach [e2] X.env := by rfl) (hpl : (backTo pos2 (starEach [e2] X.env)).any (·.1) = false := by rfl) :
    PE X (.Call (.Name "list" p) [.Call (.Name "zip" p2) [e, e2] [] pos2] [] pos) (tListZ K t) := hK ▸ pe_listZ hc hg hm hg2 hm2 ha hs hs2 hpl
theorem pg_tupK {es : List Expr} {k : Nat} {t : TGs} {n : Nat} (hc : X.calm = true) (h : PGs X es t) (hn : es.length = n := by rfl) (hK : X.K = K := by rfl)
    (hx : PG X (.Tuple es k pos) (gTup X.K n t)) : PG X (.Tuple es k pos) (gTup K n t) := hK ▸ hx
theorem pe_bmK (pa : PlainAttrs T) (slot : Slot T name id) (hty : typeOf (.builtin id) = pure (.type "method_descriptor")) (hm : MtR X id r) (ho : PE X o to) (ha : PA X (e :: es) t) (hK : X.K = K := by rfl)
    (hx : PE X (.Call (.Attribute o name apos) (e :: es) [] cpos) (tBM X.K T r to t) := by exact pe_bm (by assumption) (by assumption) (by assumption) (by assumption) (by assumption) (by assumption)) : PE X (.Call (.Attribute o name apos) (e :: es) [] cpos) (tBM K T r to t) := hK ▸ hx
def rJoin : V → List V → Hp → VK → Prop := fun x xs H Q => ∃ a p, ∃ ys : List Str, x = .str a ∧ xs = [.ref p] ∧ (SqL K H p (ys.map V.str) ∨ SqT K H p (ys.map V.str)) ∧ (ys.map (·.length)).sum + ys.length * a.length ≤ 16777216 ∧ Q (.str (Txt.join a ys)) H
theorem pe_joinK (ho : PE X o to) (he : PE X e te) (hK : X.K = K := by rfl) (hs : starEach [e] X.env = [(false, eval e X.env)] := by rfl) (hbase : attributeBase o "join" X.env (eval o X.env) = eval o X.env := by rfl) (hline : (apos.endLine == pos.line) = true := by rfl) :
    PE X (.Call (.Attribute o "join" apos) [e] [] pos) (tM1 (rJoin K) to te) := by subst hK; exact pe_join ho he hs hbase hline
end
theorem same_at {H H' : Hp} {a : Addr} {o : HO} (e : Same H H') (h : H a = some o) : H' a = some o := e a o h
/-! ### readings, entered -/
section
variable {K : PySem.W.Frag} {H H' : Hp} {Q : VK} {p : Addr} {ys : List V}
theorem i_lenL (h : SqL K H p ys) (k : Q (.int ys.length) H) : rLenQ K [.ref p] H Q := ⟨p, ys, rfl, .inl h, k⟩
theorem i_lenU (h : SqT K H p ys) (k : Q (.int ys.length) H) : rLenQ K [.ref p] H Q := ⟨p, ys, rfl, .inr h, k⟩
theorem i_lenT {z : Str} (h : z.length ≤ sizeLine) (k : Q (.int z.length) H) : rLenT [.str z] H Q := ⟨z, rfl, h, k⟩
theorem i_listT {x : Str} (h : x.length ≤ sizeLine) (k : ∀ l H', H l = none → Same H H' → H' l = some (.lst (chV x)) → Q (.ref l) H') : rListT [.str x] H Q := ⟨x, rfl, h, fun l hl => k l _ hl (same_new hl) upd_same⟩
theorem i_listL (h : SqL K H p ys) (k : ∀ l H', H l = none → Same H H' → H' l = some (.lst ys) → Q (.ref l) H') : rListQ K [.ref p] H Q := ⟨p, ys, rfl, .inl h, fun l hl => k l _ hl (same_new hl) upd_same⟩
theorem i_listU (h : SqT K H p ys) (k : ∀ l H', H l = none → Same H H' → H' l = some (.lst ys) → Q (.ref l) H') : rListQ K [.ref p] H Q := ⟨p, ys, rfl, .inr h, fun l hl => k l _ hl (same_new hl) upd_same⟩
theorem i_tupL (h : SqL K H p ys) (k : ∀ l H', H l = none → Same H H' → H' l = some (.tup ys) → Q (.ref l) H') : rTupQ K [.ref p] H Q := ⟨p, ys, rfl, .inl ⟨h, fun l hl => k l _ hl (same_new hl) upd_same⟩⟩
theorem i_tupU (h : SqT K H p ys) (k : Q (.ref p) H) : rTupQ K [.ref p] H Q := ⟨p, ys, rfl, .inr ⟨h, k⟩⟩
theorem i_joinL {a : Str} {zs : List Str} (h : SqL K H p (zs.map V.str)) (hs : (zs.map (·.length)).sum + zs.length * a.length ≤ 16777216) (k : Q (.str (Txt.join a zs)) H) : rJoin K (.str a) [.ref p] H Q := ⟨a, p, zs, rfl, rfl, .inl h, hs, k⟩
theorem i_joinU {a : Str} {zs : List Str} (h : SqT K H p (zs.map V.str)) (hs : (zs.map (·.length)).sum + zs.length * a.length ≤ 16777216) (k : Q (.str (Txt.join a zs)) H) : rJoin K (.str a) [.ref p] H Q := ⟨a, p, zs, rfl, rfl, .inr h, hs, k⟩
theorem i_app {xs : List V} {y : V} (h : H p = some (.lst xs)) (hl : xs.length < sizeLine) (k : Q .non (upd H p (.lst (xs ++ [y])))) : rAppend (.ref p) [y] H Q := ⟨p, xs, y, rfl, rfl, h, hl, k⟩
theorem i_tyL {xs : List V} {B : Prop} (h : SqL K H p xs) (k : B) : tyV K "list" (.ref p) H ∧ B := ⟨.inl ⟨rfl, xs, h⟩, k⟩
theorem i_fldI {ta : TE} {σ : L2.St} {f : Str} (k : ta σ H fun x H1 => ∃ a C dx fs v, x = .ref a ∧ H1 a = some (.ins C dx fs) ∧ Cls K C ∧ NoAttr K C f ∧ fs.lookup f = some v ∧ Q v H1) : tFld K ta f σ H Q := k
end
end AR
namespace AR
open PySem PySem.Spec PyProof.Rows L2
section
variable (K : PySem.W.Frag) {X : Cx} {pos : Pos}
theorem pg_tK {es : List Expr} {k : Nat} {t : TGs} {n : Nat} (hc : X.calm = true) (h : PGs X es t) (hK : X.K = K := by rfl)
    (hn : (assignEach es X.env).length = n := by rfl) (hst : (assignEach es X.env).findIdx? (·.1) = none := by rfl) : PG X (.Tuple es k pos) (gTup K n t) := hK ▸ pg_tup hc h hn hst
theorem pg_uK {es : List Expr} {k : Nat} {t : TGs} {n : Nat} (hc : X.calm = true) (h : PGs X es t) (hK : X.K = K := by rfl)
    (hn : (assignEach es X.env).length = n := by rfl) (hst : (assignEach es X.env).findIdx? (·.1) = none := by rfl) : PG X (.Tuple es k pos) (gUnl K n t) := hK ▸ pg_unl hc h hn hst
end
section
variable {K : PySem.W.Frag} {σ : L2.St} {H H' : Hp} {Q : VK} {D : Ends} {p : Addr} {z : Str}
theorem i_chain {r r' : R2} {ta tb tc : TE} (k : ta σ H fun x H1 => tb σ H1 fun y H2 => r x y H2 fun z H3 => ∃ k, z = .bl k ∧ (if k = true then tc σ H3 fun w' H4 => r' y w' H4 Q else Q (.bl false) H3)) : tChain r r' ta tb tc σ H Q := k
theorem i_nt {A B : Prop} (h : B) : if (!true) = true then A else B := by rw [if_neg (by decide)]; exact h
theorem i_nf {A B : Prop} (h : A) : if (!false) = true then A else B := by rw [if_pos (by decide)]; exact h
theorem i_isiS (k : Q (.bl true) H) : rIsi K [.str z, .ty "str"] H Q := ⟨_, _, _, _, true, rfl, .ty _, .base (.str _), kit_ty (by decide +kernel), k⟩
/-- a new pair as a target of two names -/
theorem i_pair {n : Nat} {t : TGs} {xs : List V} {Q : L2.St → Hp → Prop} (h : SqT K H p xs) (hl : xs.length = n) (k : t xs σ H Q) : gTup K n t (.ref p) σ H Q := ⟨p, xs, rfl, h, hl, k⟩
theorem i_gcons {t : TG} {u : TGs} {v : V} {r : List V} {Q : L2.St → Hp → Prop} (k : t v σ H fun σ' H' => u r σ' H' Q) : gCons t u (v :: r) σ H Q := ⟨v, r, rfl, k⟩
theorem i_gnil {Q : L2.St → Hp → Prop} (k : Q σ H) : gNil [] σ H Q := ⟨rfl, k⟩
theorem i_iZ {ta : TA} {R : It → Hp → Prop} (k : ta σ H fun vs H1 => ∃ s1 s2 : Src, ∃ xs ys, vs = [s1.v, s2.v] ∧ s1.has K H1 xs ∧ s2.has K H1 ys ∧ R (ItZ K s1 s2 xs ys) H1) : iZ K ta σ H R := k
theorem i_slS {lo hi : Option Int} (h : z.length ≤ sizeLine) (k : Q (.str (cutS z lo hi)) H) : rSlS (.str z) lo hi H Q := ⟨z, rfl, h, k⟩
theorem i_all {bs : List Bool} (h : SqL K H p (bs.map V.bl)) (k : Q (.bl (bs.all id)) H) : rAll K [.ref p] H Q := ⟨p, bs, rfl, h, k⟩
theorem i_lts {a b : Str} (k : Q (.bl (decide (a.cps.toList < b.cps.toList))) H) : ∃ i j, V.str a = .str i ∧ V.str b = .str j ∧ Q (.bl (decide (i.cps.toList < j.cps.toList))) H := ⟨a, b, rfl, rfl, k⟩
theorem i_ins {c : Nat} (k : Q (.bl (decide (c ∈ z.cps.toList))) H) : ∃ (c' : Nat) (z' : Str), V.str ⟨#[c]⟩ = .str ⟨#[c']⟩ ∧ V.str z = .str z' ∧ Q (.bl (decide (c' ∈ z'.cps.toList))) H := ⟨c, z, rfl, rfl, k⟩
theorem i_revS {te ts : TE} (k : te σ H fun x H1 => ts σ H1 fun i H2 => ∃ z, x = .str z ∧ i = .int (-1) ∧ z.length ≤ sizeLine ∧ Q (.str (revS z)) H2) : tRevS te ts σ H Q := k
theorem i_meth {C : Addr} {m : Str} {sp : Sp} {dvs : List V} {E : XK} {ta : TE} {t : TA} (k : ta σ H fun x H1 => ∃ a dx fs, x = .ref a ∧ H1 a = some (.ins C dx fs) ∧ fs.lookup m = none ∧ t σ H1 fun vs H2 => sp (x :: vs ++ dvs) H2 Q E) : (ta σ H fun x H1 => ∃ a dx fs, x = .ref a ∧ H1 a = some (.ins C dx fs) ∧ fs.lookup m = none ∧ t σ H1 fun vs H2 => sp (x :: vs ++ dvs) H2 Q E) := k
theorem i_dget {td ty : TE} (k : td σ H fun x H1 => ty σ H1 fun y H2 => ∃ a v, x = .ref a ∧ DGet H2 a y (some v) ∧ Q v H2) : tDGet td ty σ H Q := k
theorem i_sFld {ta tv : TE} {f : Str} (k : tv σ H fun y H1 => ta σ H1 fun x H2 => ∃ a C dx fs, x = .ref a ∧ H2 a = some (.ins C dx fs) ∧ Cls K C ∧ NoAttr K C f ∧ fs.length < 1000 ∧ D.nx σ (upd H2 a (.ins C dx (putF f y fs)))) : sFld K ta tv f D σ H := k
end
end AR
namespace AR
open PySem PySem.Spec PyProof.Rows L2
section
variable {K : PySem.W.Frag} {σ : L2.St} {H H' : Hp} {Q : VK} {D : Ends} {p : Addr} {z : Str}
theorem i_Meth {C : Addr} {m : Str} {sp : Sp} {dvs : List V} {E : XK} {ta : TE} {t : TA} (k : ta σ H fun x H1 => ∃ a dx fs, x = .ref a ∧ H1 a = some (.ins C dx fs) ∧ fs.lookup m = none ∧ t σ H1 fun vs H2 => sp (x :: (vs ++ dvs)) H2 Q E) : tMeth C m sp dvs E ta t σ H Q := k
/-- a new instance: what stood stays -/
theorem i_Make {C : Addr} {sp : Sp} {dvs : List V} {E : XK} {t : TA} (k : t σ H fun vs H1 => ∀ x dx, H1 x = none → H1 dx = none → dx ≠ x → sp (.ref x :: (vs ++ dvs)) (upd (upd H1 dx (.own x)) x (.ins C dx [])) (fun v H2 => v = .non ∧ Q (.ref x) H2) E) : tMake C sp dvs E t σ H Q := k
theorem newI {x dx C : Addr} {H1 : Hp} {fs : List (Str × V)} (nx : H x = none) (nd : H dx = none) (ne : dx ≠ x) (e : upd (upd H dx (.own x)) x (.ins C dx fs) = H1) : Same H H1 ∧ H1 x = some (.ins C dx fs) := by
  rw [← e]
  exact ⟨fun a u h => by rw [upd_ne (ne_of_none h nx), upd_ne (ne_of_none h nd)]; exact h, upd_same⟩
theorem i_listZ {ta : TA} (k : ta σ H fun vs H1 => ∃ s1 s2 : Src, ∃ xs ys, vs = [s1.v, s2.v] ∧ s1.has K H1 xs ∧ s2.has K H1 ys ∧ min xs.length ys.length ≤ sizeLine ∧
  ∀ (l : Addr) (as : List Addr) (H' : Hp), H1 l = none → (∀ a ∈ as, H1 a = none) → Same H1 H' → H' l = some (.lst (as.map V.ref)) → as.length = min xs.length ys.length →
    (∀ (j : Nat) a, as[j]? = some a → ∃ x y, xs[j]? = some x ∧ ys[j]? = some y ∧ H' a = some (.tup [x, y])) → Q (.ref l) H') : tListZ K ta σ H Q := k
theorem i_inst (k : Q (.bl true) H) {a C dx : Addr} {fs : List (Str × V)} (h : H a = some (.ins C dx fs)) (ic : C8.InsC K C) : rIsi K [.ref a, .ref C] H Q :=
  ⟨_, _, _, _, true, rfl, .own _, .base (.ins h ic.cl ic.ha ic.hn ic.htk ic.hm), ic.me, k⟩
/-! ### texts in a row, as data -/
theorem dpAll_strs : ∀ ys : List Str, DpAll K H (ys.map V.str) (ys.map PyData.str)
  | [] => .nil
  | y :: r => .cons (.str y) (dpAll_strs r)
theorem lay_strs : ∀ ys : List Str, (∀ y ∈ ys, PyData.strOk y = true) → PyData.canLayAll0 (ys.map PyData.str) = true
  | [], _ => by simp [PyData.canLayAll0]
  | y :: r, h => by
    have h1 : PyData.canLay0 (PyData.str y) = true := by simpa [PyData.canLay0] using h y (by simp)
    simp only [List.map_cons, PyData.canLayAll0, h1, lay_strs r fun x hx => h x (List.mem_cons_of_mem _ hx), Bool.and_self]
theorem depth_strs : ∀ ys : List Str, PyData.depthAll (ys.map PyData.str) = 0
  | [] => by simp [PyData.depthAll]
  | y :: r => by simp [PyData.depthAll, PyData.depth, depth_strs r]
theorem eqv_strs : ∀ xs ys : List Str, PyData.eqvAll (xs.map PyData.str) (ys.map PyData.str) = decide (xs = ys)
  | [], [] => by simp [PyData.eqvAll]
  | [], y :: r => by simp [PyData.eqvAll]
  | x :: r, [] => by simp [PyData.eqvAll]
  | x :: r, y :: q => by
    show (PyData.eqv (.str x) (.str y) && PyData.eqvAll (r.map PyData.str) (q.map PyData.str)) = _
    rw [eqv_strs r q]
    have : PyData.eqv (.str x) (.str y) = decide (x = y) := by
      simp only [PyData.eqv]
      by_cases h : x = y <;> simp [h]
    rw [this]
    by_cases h1 : x = y <;> by_cases h2 : r = q <;> simp [h1, h2]
theorem shaped_tup (ys : List Str) (ok : ∀ y ∈ ys, PyData.strOk y = true) : SeqAt.shaped (.tuple (ys.map PyData.str)) = true := by
  unfold SeqAt.shaped
  have h1 : PyData.canLay0 (.tuple (ys.map PyData.str)) = true := by
    simpa [PyData.canLay0] using lay_strs ys ok
  have h2 : PyData.depth (.tuple (ys.map PyData.str)) = 1 := by simp [PyData.depth, depth_strs ys]
  rw [h1, h2]; rfl
theorem shaped_lst (ys : List Str) (ok : ∀ y ∈ ys, PyData.strOk y = true) : SeqAt.shaped (.list (ys.map PyData.str)) = true := by
  unfold SeqAt.shaped
  have h1 : PyData.canLay0 (.list (ys.map PyData.str)) = true := by
    simpa [PyData.canLay0] using lay_strs ys ok
  have h2 : PyData.depth (.list (ys.map PyData.str)) = 1 := by simp [PyData.depth, depth_strs ys]
  rw [h1, h2]; rfl
theorem i_eqTT {a b : Addr} {xs ys : List Str} (h1 : SqT K H a (xs.map V.str)) (h2 : SqT K H b (ys.map V.str)) (o1 : ∀ y ∈ xs, PyData.strOk y = true) (o2 : ∀ y ∈ ys, PyData.strOk y = true) (k : Q (.bl (decide (xs = ys))) H) : rEqD K (.ref a) (.ref b) H Q :=
  ⟨_, _, .tup h1 (dpAll_strs xs), .tup h2 (dpAll_strs ys), shaped_tup xs o1, shaped_tup ys o2, by rw [show PyData.eqv (.tuple (xs.map PyData.str)) (.tuple (ys.map PyData.str)) = decide (xs = ys) by rw [← eqv_strs]; simp [PyData.eqv]]; exact k⟩
theorem i_neLL {a b : Addr} {xs ys : List Str} (h1 : SqL K H a (xs.map V.str)) (h2 : SqL K H b (ys.map V.str)) (o1 : ∀ y ∈ xs, PyData.strOk y = true) (o2 : ∀ y ∈ ys, PyData.strOk y = true) (k : Q (.bl (!decide (xs = ys))) H) : rNeD K (.ref a) (.ref b) H Q :=
  ⟨_, _, .lst h1 (dpAll_strs xs), .lst h2 (dpAll_strs ys), shaped_lst xs o1, shaped_lst ys o2, by rw [show PyData.eqv (.list (xs.map PyData.str)) (.list (ys.map PyData.str)) = decide (xs = ys) by rw [← eqv_strs]; simp [PyData.eqv]]; exact k⟩
theorem i_eqLL {a b : Addr} {xs ys : List Str} (h1 : SqL K H a (xs.map V.str)) (h2 : SqL K H b (ys.map V.str)) (o1 : ∀ y ∈ xs, PyData.strOk y = true) (o2 : ∀ y ∈ ys, PyData.strOk y = true) (k : Q (.bl (decide (xs = ys))) H) : rEqD K (.ref a) (.ref b) H Q :=
  ⟨_, _, .lst h1 (dpAll_strs xs), .lst h2 (dpAll_strs ys), shaped_lst xs o1, shaped_lst ys o2, by rw [show PyData.eqv (.list (xs.map PyData.str)) (.list (ys.map PyData.str)) = decide (xs = ys) by rw [← eqv_strs]; simp [PyData.eqv]]; exact k⟩
end
end AR
namespace AR
open PySem PySem.Spec PyProof.Rows L2
theorem i_unl {K : PySem.W.Frag} {σ : L2.St} {H : Hp} {p : Addr} {n : Nat} {t : TGs} {xs : List V} {Q : L2.St → Hp → Prop} (h : SqL K H p xs) (hl : xs.length = n) (k : t xs σ H Q) : gUnl K n t (.ref p) σ H Q := ⟨p, xs, rfl, h, hl, k⟩
end AR
local macro_rules | `(tactic| walk_at "nb") => `(tactic| first | exact AR.nb_tup | exact AR.nb_ins | exact AR.nb_dK | exact AR.nb_dT | exact AR.nb_strs | exact AR.nb_refs | exact AR.nb_frz | exact AR.nb_own | exact AR.nb_nil | exact AR.nb_str1 | exact AR.nb_ref1 | assumption)
local macro_rules | `(tactic| walk_at "h") => `(tactic| first | assumption | ((with_reducible refine' L2.Same.seq ?kk ?hh); (case kk => assumption); (case hh => walk_at "h")) | ((with_reducible refine' AR.sameSqT ?kk ?hh); (case kk => assumption); (case hh => walk_at "h")) | ((with_reducible refine' AR.same_at ?kk ?hh); (case kk => assumption); (case hh => walk_at "h")) | exact AR.Scr.sq (by assumption) | ((with_reducible refine' AR.Scr.sq ?hh); (case hh => walk_at "h")) | ((with_reducible refine' AR.Scr.keep ?hh ?kk); (case kk => first | assumption | exact AR.Keep.same (by assumption)); (case hh => walk_at "h")) | ((with_reducible refine' L2.SqL.of ?hh); (case hh => walk_at "h")) | ((with_reducible refine' L2.SqT.of ?hh); (case hh => walk_at "h")) | ((with_reducible refine' AR.Keep.st ?kk _ _ ?hh ?nn); (case kk => assumption); (case hh => walk_at "h"); (case nn => walk_at "nb")) | ((with_reducible refine' AR.Keep.sqT ?kk ?hh); (case kk => assumption); (case hh => walk_at "h")) | ((with_reducible refine' AR.Keep.sqL ?kk ?nn ?hh); (case kk => assumption); (case hh => walk_at "h"); (case nn => walk_at "nb")) | ((with_reducible refine' AR.BoxAt.keep ?hh ?kk); (case kk => first | assumption | exact AR.Keep.same (by assumption)); (case hh => walk_at "h")))
local macro_rules | `(tactic| walk_at "kp") => `(tactic| first | assumption | ((with_reducible refine' AR.Keep.trans ?hh (AR.Keep.same ?kk)); (case kk => assumption); (case hh => walk_at "kp")) | exact AR.Keep.refl _ | ((with_reducible refine' AR.Keep.trans ?hh ?kk); (case kk => assumption); (case hh => walk_at "kp")))
local macro_rules | `(tactic| walk_at "g1") => `(tactic| first
  | with_reducible refine AR.i_seq ?_ | with_reducible refine AR.i_asg ?_ | with_reducible refine AR.i_op ?_ | with_reducible refine AR.i_c ?_ | ((with_reducible refine' AR.i_var ?vv ?_); (case vv => exact rfl)) | with_reducible refine AR.i_un ?_
  | with_reducible refine AR.i_I0 ?_ | with_reducible refine AR.i_U ?_ | with_reducible refine AR.i_nil ?_ | with_reducible refine AR.i_cons ?_ | with_reducible refine AR.i_cb ?_ | with_reducible refine AR.i_call ?_
  | with_reducible refine AR.i_name ?_ | with_reducible refine AR.i_sub ?_ | with_reducible refine AR.i_drop ?_ | with_reducible refine AR.i_ret ?_ | with_reducible refine AR.i_retN ?_ | with_reducible refine AR.i_next ?_ | with_reducible refine AR.i_ifS ?_
  | with_reducible refine AR.i_test ?_ | with_reducible refine AR.i_B ?_ | with_reducible refine AR.i_not ?_ | with_reducible refine AR.i_if ?_ | with_reducible refine AR.i_bl ?_ | with_reducible refine AR.i_lc ?_ | with_reducible refine AR.i_Lst ?_ | with_reducible refine AR.i_Tup ?_ | with_reducible refine AR.i_par ?_ | with_reducible refine AR.i_and ?_ | with_reducible refine AR.i_or ?_ | with_reducible refine AR.i_andV ?_ | with_reducible refine AR.i_orV ?_ | with_reducible refine AR.i_notV ?_ | with_reducible refine AR.i_bm ?_ | ((with_reducible refine' AR.i_lenL ?hh ?_); (case hh => walk_at "h")) | ((with_reducible refine' AR.i_lenU ?hh ?_); (case hh => walk_at "h")) | ((with_reducible refine' AR.i_tyL ?hh ?_); (case hh => walk_at "h")) | with_reducible refine AR.i_M1 ?_ | with_reducible refine AR.i_M0 ?_ | with_reducible refine AR.i_isS ?_ | with_reducible refine AR.i_bm0 ?_ | with_reducible refine AR.i_sl ?_ | with_reducible refine AR.i_part ?_ | with_reducible refine AR.i_nopart ?_ | with_reducible refine AR.i_yes ?_ | with_reducible refine AR.i_it ?_ | with_reducible refine AR.i_if0 ?_ | with_reducible refine AR.i_iRng1 ?_ | with_reducible refine AR.i_iStr ?_ | with_reducible refine AR.i_iList ?_ | with_reducible refine AR.i_iTup ?_ | with_reducible refine AR.i_for ?_ | with_reducible refine Or.inl ⟨_, rfl, ?_⟩ | with_reducible refine ⟨_, rfl, ?_⟩ | with_reducible refine ⟨_, _, rfl, ?_⟩ | ((with_reducible refine' AR.i_I ?cc ?_); (case cc => walk_at "sd")) | with_reducible refine AR.i_chain ?_ | with_reducible refine AR.i_nt ?_ | with_reducible refine AR.i_nf ?_ | with_reducible refine AR.i_gcons ?_ | with_reducible refine AR.i_gnil ?_ | with_reducible refine AR.i_iZ ?_ | with_reducible refine AR.i_dget ?_ | with_reducible refine AR.i_sFld ?_ | with_reducible refine AR.i_fldI ?_ | with_reducible refine AR.i_revS ?_ | with_reducible refine AR.i_Meth ?_ | with_reducible refine AR.i_Make ?_ | with_reducible refine AR.i_listZ ?_ | with_reducible refine AR.i_isiS ?_
  | ((with_reducible refine' AR.i_ixL ?hh ?ee ?_); (case hh => walk_at "h"); (case ee => rfl)) | ((with_reducible refine' AR.i_ixT ?hh ?ee ?_); (case hh => walk_at "h"); (case ee => rfl)))
local macro_rules | `(tactic| walk_at "g") => `(tactic| repeat walk_at "g1")
local macro_rules | `(tactic| walk_at "sd") => `(tactic| first | exact (show (0 : Int) < _ by omega) | exact Or.inr ⟨by decide, by decide⟩ | exact Or.inl ⟨by decide, by decide⟩ | exact ⟨by decide, by decide⟩ | exact ⟨by omega, by omega⟩ | exact ⟨by decide, by decide, by decide⟩ | decide)
local macro_rules | `(tactic| walk_at "sm") => `(tactic| first | assumption | exact L2.Same.refl _ | ((with_reducible refine' L2.Same.trans ?hh ?kk); (case kk => assumption); (case hh => walk_at "sm")))

namespace K03
open PySem PySem.Spec PyProof.Rows L2 AR C8
def top (i : Nat) : Stmt := PySem.Challenge.pw_allrows_k03_changes_done_one_behind_anot.main.body.getD i (.Pass ⟨0, 0, 0, 0⟩)
abbrev s_w_seed : Stmt := top 12
theorem sc_w_seed : FnScope ["_law_script", "_law_k", "_law_cell"] ["_law_script", "_law_k"] (defScope s_w_seed) := ⟨rfl, rfl, rfl, by decide +kernel, rfl, by decide +kernel, by decide +kernel⟩
abbrev s_w_choose : Stmt := top 13
theorem sc_w_choose : FnScope ["_law_box", "_law_many", "_law_digit", "_law_raw"] ["_law_box", "_law_many"] (defScope s_w_choose) := ⟨rfl, rfl, rfl, by decide +kernel, rfl, by decide +kernel, by decide +kernel⟩
abbrev s_w_one_of : Stmt := top 14
theorem sc_w_one_of : FnScope ["_law_box", "_law_some"] ["_law_box", "_law_some"] (defScope s_w_one_of) := ⟨rfl, rfl, rfl, by decide +kernel, rfl, by decide +kernel, by decide +kernel⟩
abbrev s_w_signs : Stmt := top 15
theorem sc_w_signs : FnScope ["_law_box"] ["_law_box"] (defScope s_w_signs) := ⟨rfl, rfl, rfl, by decide +kernel, rfl, by decide +kernel, by decide +kernel⟩
abbrev s_w_row : Stmt := top 16
theorem sc_w_row : FnScope ["_law_box", "_law_signs_here", "_law_most", "_law_turn"] ["_law_box", "_law_signs_here", "_law_most"] (defScope s_w_row) := ⟨rfl, rfl, rfl, by decide +kernel, rfl, by decide +kernel, by decide +kernel⟩
abbrev s_w_images : Stmt := top 17
theorem sc_w_images : FnScope ["_law_box", "_law_signs_here", "_law_most", "_law_form", "_law_sign", "_law_least", "_law_found"] ["_law_box", "_law_signs_here", "_law_most"] (defScope s_w_images) := ⟨rfl, rfl, rfl, by decide +kernel, rfl, by decide +kernel, by decide +kernel⟩
abbrev s_w_image : Stmt := top 18
theorem sc_w_image : FnScope ["_law_signs_here", "_law_images_here", "_law_row_here", "_law_sign"] ["_law_signs_here", "_law_images_here", "_law_row_here"] (defScope s_w_image) := ⟨rfl, rfl, rfl, by decide +kernel, rfl, by decide +kernel, by decide +kernel⟩
abbrev s_law : Stmt := top 19
theorem sc_law : FnScope ["_law_script", "_law_k", "_law_box", "_law_turn", "_law_signs_here", "_law_drawn", "_law_more", "_law_one", "_law_two", "_law_three", "_law_images_here", "_law_row_here", "_law_tail", "_law_inner", "_law_both", "_law_image_here", "_law_plain", "_law_void", "_law_sign"] ["_law_script"] (defScope s_law) := ⟨rfl, rfl, rfl, by decide +kernel, rfl, by decide +kernel, by decide +kernel⟩
abbrev s_is_sequence : Stmt := top 6
theorem sc_is_sequence : FnScope ["value"] ["value"] (defScope s_is_sequence) := ⟨rfl, rfl, rfl, by decide +kernel, rfl, by decide +kernel, by decide +kernel⟩
abbrev s_are_signs : Stmt := top 7
theorem sc_are_signs : FnScope ["value", "sign", "one", "other"] ["value"] (defScope s_are_signs) := ⟨rfl, rfl, rfl, by decide +kernel, rfl, by decide +kernel, by decide +kernel⟩
abbrev s_is_row : Stmt := top 8
theorem sc_is_row : FnScope ["signs", "value", "sign"] ["signs", "value"] (defScope s_is_row) := ⟨rfl, rfl, rfl, by decide +kernel, rfl, by decide +kernel, by decide +kernel⟩
abbrev s_ChangeD_initD : Stmt := inClass (top 10) 0
theorem sc_ChangeD_initD : FnScope ["self", "signs", "rows", "row"] ["self", "signs", "rows"] (defScope s_ChangeD_initD) := ⟨rfl, rfl, rfl, by decide +kernel, rfl, by decide +kernel, by decide +kernel⟩
abbrev s_Change_of : Stmt := inClass (top 10) 2
theorem sc_Change_of : FnScope ["self", "row", "sign"] ["self", "row"] (defScope s_Change_of) := ⟨rfl, rfl, rfl, by decide +kernel, rfl, by decide +kernel, by decide +kernel⟩
abbrev s_Change_turned : Stmt := inClass (top 10) 3
theorem sc_Change_turned : FnScope ["self", "row"] ["self"] (defScope s_Change_turned) := ⟨rfl, rfl, rfl, by decide +kernel, rfl, by decide +kernel, by decide +kernel⟩
abbrev s_ChangeD_mulD : Stmt := inClass (top 10) 6
theorem sc_ChangeD_mulD : FnScope ["self", "other", "sign", "row"] ["self", "other"] (defScope s_ChangeD_mulD) := ⟨rfl, rfl, rfl, by decide +kernel, rfl, by decide +kernel, by decide +kernel⟩
abbrev s_ChangeD_eqD : Stmt := inClass (top 10) 8
theorem sc_ChangeD_eqD : FnScope ["self", "other"] ["self", "other"] (defScope s_ChangeD_eqD) := ⟨rfl, rfl, rfl, by decide +kernel, rfl, by decide +kernel, by decide +kernel⟩
abbrev cC (K : PySem.W.Frag) : Addr := He.ga K "Change"
structure Tx (K : PySem.W.Frag) (mg : Str → Option Value) : Prop where
  b_len : mg "len" = none
  b_abs : mg "abs" = none
  b_int : mg "int" = none
  b_range : mg "range" = none
  b_list : mg "list" = none
  b_max : mg "max" = none
  b_min : mg "min" = none
  b_isinstance : mg "isinstance" = none
  b_tuple : mg "tuple" = none
  b_str : mg "str" = none
  b_all : mg "all" = none
  b_zip : mg "zip" = none
  b_dict : mg "dict" = none
  k_LETTERS : ∃ u, mg "LETTERS" = some u ∧ RelV (.str "abcdefghijklmnopqrstuvwxyz") u
  d_seed : GD K mg "_law_seed" s_w_seed ["_law_script", "_law_k"]
  d_choose : GD K mg "_law_choose" s_w_choose ["_law_box", "_law_many"]
  d_one_of : GD K mg "_law_one_of" s_w_one_of ["_law_box", "_law_some"]
  d_signs : GD K mg "_law_signs" s_w_signs ["_law_box"]
  d_row : GD K mg "_law_row" s_w_row ["_law_box", "_law_signs_here", "_law_most"]
  d_images : GD K mg "_law_images" s_w_images ["_law_box", "_law_signs_here", "_law_most"]
  d_image : GD K mg "_law_image" s_w_image ["_law_signs_here", "_law_images_here", "_law_row_here"]
  d_is_sequence : GD K mg "is_sequence" s_is_sequence ["value"]
  d_are_signs : GD K mg "are_signs" s_are_signs ["value"]
  d_is_row : GD K mg "is_row" s_is_row ["signs", "value"]
  m_Change : mg "Change" = some (.ref (cC K))
  cl : Cls K (cC K)
  ic : InsC K (cC K)
  n_signs : NoAttr K (cC K) "signs"
  n_rows : NoAttr K (cC K) "rows"
  n_images : NoAttr K (cC K) "images"
  sf_Change : PySem.W.selfFirst K (cC K) = true
  ne_Change : PySem.W.findIn K (.ref (cC K)) "__ne__" = some (some (.builtin "object.__ne__"))
  mr_Change : PySem.W.mroIn K (cC K) (.type "object") = some true
  i_Change : ID K mg "Change" (cC K) "Change.__init__" s_ChangeD_initD ["self", "signs", "rows"]
  m_of : MD K (cC K) "of" "Change.of" s_Change_of ["self", "row"]
  m_turned : MD K (cC K) "turned" "Change.turned" s_Change_turned ["self"]
  m_mul : MD K (cC K) "__mul__" "Change.__mul__" s_ChangeD_mulD ["self", "other"]
  m_eq : MD K (cC K) "__eq__" "Change.__eq__" s_ChangeD_eqD ["self", "other"]
section
variable {P : Program} {w : World} {K : PySem.W.Frag} {mg : Str → Option Value} {base : Heap}
/-! ### choose -/
def spChoose : Sp := fun vs H Q _ => ∃ (b : Addr) (n : Int), vs = [.ref b, .int n] ∧ BoxAt H b ∧ 0 < n ∧ n < 1073741824 ∧ ∀ (k : Int) (H' : Hp), 0 ≤ k → k < n → Keep H H' → Q (.int k) H'
theorem c_choose (T : Tx K mg) : Cal P w K mg base 1 "_law_choose" spChoose [] := by
  refine T.d_choose.cal sc_w_choose (fun vs H Q E h => ?_) (fun f cdv A outer s H vs Q E hr h => ?_)
  · obtain ⟨b, n, rfl, _⟩ := h
    rfl
  · obtain ⟨b, n, rfl, ⟨x, y, z, hb⟩, n0, n1, k⟩ := h
    refine ⟨_, (pss_cons (ps_if (pt_cmpR op_gt (pe_ix (ix_listK K) (pv 0) pe_int (fun _ _ => rfl)) pe_int (nomark _)) (pss_cons (ps_set (i := 2) sc_w_choose.nd rfl (Or.inl rfl) (pe_op op_mod (pe_callTy call_int1 (by rfl) T.b_int (by decide +kernel) (pa_cons (pe_ix (ix_listK K) (pv 0) pe_int (fun _ _ => rfl)) pa_nil)) (pv 1)))
      (pss_cons (ps_asg (pe_op op_fdiv (pe_ix (ix_listK K) (pv 0) pe_int (fun _ _ => rfl)) (pv 1)) (pg_sub (pv 0) pe_int set_list))
      (pss_one (ps_ret (pv 2))))) pss_nil)
      (pss_cons (ps_asg (pe_op op_add (pe_ix (ix_listK K) (pv 0) pe_int (fun _ _ => rfl)) pe_int) (pg_sub (pv 0) pe_int set_list))
      (pss_cons (ps_set (i := 3) sc_w_choose.nd rfl (Or.inl rfl) (pe_op op_mod (pe_callTy call_int1 (by rfl) T.b_int (by decide +kernel) (pa_cons (pe_op op_add (pe_op op_mul (pe_op op_add (pe_ix (ix_listK K) (pv 0) pe_int (fun _ _ => rfl)) (pe_op op_mul pe_int (pe_ix (ix_listK K) (pv 0) pe_int (fun _ _ => rfl)))) pe_int) pe_int) pa_nil)) pe_int))
      (pss_cons (ps_asg (pe_op op_add (pe_op op_mod (pe_callTy call_int1 (by rfl) T.b_int (by decide +kernel) (pa_cons (pe_op op_add (pe_op op_mul (pv 3) pe_int) pe_int) pa_nil)) pe_int) pe_int) (pg_sub (pv 0) pe_int set_list))
      (pss_one (ps_ret (pe_op op_mod (pe_callTy call_int1 (by rfl) T.b_int (by decide +kernel) (pa_cons (pe_op op_fdiv (pe_op op_add (pe_op op_mul (pv 3) pe_int) (pe_ix (ix_listK K) (pv 0) pe_int (fun _ _ => rfl))) pe_int) pa_nil)) (pv 1)))))))), ?_⟩
    walk_at "g"
    refine i_dec (fun h => ?_) (fun h => ?_)
    · walk_at "g"
      refine i_setL hb rfl ?_
      walk_at "g"
      exact k _ _ (Int.emod_nonneg _ (by omega)) (Int.emod_lt_of_pos _ n0) (Keep.box hb ⟨_, _, _, rfl⟩ ⟨_, _, _, rfl⟩)
    · walk_at "g"
      refine i_setB hb ⟨_, _, _, rfl⟩ ⟨_, _, _, rfl⟩ rfl fun H1 k1 hb1 => ?_
      walk_at "g"
      refine i_setB hb1 ⟨_, _, _, rfl⟩ ⟨_, _, _, rfl⟩ rfl fun H2 k2 hb2 => ?_
      walk_at "g"
      exact k _ _ (Int.emod_nonneg _ (by omega)) (Int.emod_lt_of_pos _ n0) (by walk_at "kp")
end
end K03
namespace K03
open PySem PySem.Spec PyProof.Rows L2 AR C8
section
variable {P : Program} {w : World} {K : PySem.W.Frag} {mg : Str → Option Value} {base : Heap}
/-! ### seed -/
def spSeed (K : PySem.W.Frag) : Sp := fun vs H Q _ => ∃ (a : Addr) (ns : List Int) (k : Int), vs = [.ref a, .int k] ∧ Scr K H a (ns.map V.int) ∧ 0 ≤ k ∧ k < 1000 ∧ ∀ (b : Addr) (H' : Hp), H b = none → Keep H H' → BoxAt H' b → Q (.ref b) H'
theorem c_seed (T : Tx K mg) : Cal P w K mg base 1 "_law_seed" (spSeed K) [] := by
  refine T.d_seed.cal sc_w_seed (fun vs H Q E h => ?_) (fun f cdv A outer s H vs Q E hr h => ?_)
  · obtain ⟨a, ns, k, rfl, _⟩ := h
    rfl
  · obtain ⟨a, ns, kk, rfl, hS, k0, k1, k⟩ := h
    refine ⟨_, (pss_cons (ps_set (i := 2) sc_w_seed.nd rfl (Or.inl rfl) (pe_op op_add (pe_op op_mul pe_int (pv 1)) pe_int))
      (pss_cons (ps_if (pt_cmpR op_lt (pv 1) (pe_callB (call_lenK K) (by rfl) T.b_len (by decide +kernel) (pa_cons (pv 0) pa_nil)) (nomark _)) (pss_one (ps_set (i := 2) sc_w_seed.nd rfl (Or.inl rfl) (pe_callB call_abs (by rfl) T.b_abs (by decide +kernel) (pa_cons (pe_ix (ix_listK K) (pv 0) (pv 1) (fun _ _ => rfl)) pa_nil)))) (pss_one (ps_if (pt_cmpR op_gt (pe_callB (call_lenK K) (by rfl) T.b_len (by decide +kernel) (pa_cons (pv 0) pa_nil)) pe_int (nomark _)) (pss_one (ps_set (i := 2) sc_w_seed.nd rfl (Or.inl rfl) (pe_op op_add (pv 2) (pe_op op_mul (pe_op op_mod (pe_callTy call_int1 (by rfl) T.b_int (by decide +kernel) (pa_cons (pe_callB call_abs (by rfl) T.b_abs (by decide +kernel) (pa_cons (pe_ix (ix_listK K) (pv 0) (pe_op op_mod (pe_callTy call_int1 (by rfl) T.b_int (by decide +kernel) (pa_cons (pv 1) pa_nil)) (pe_callB (call_lenK K) (by rfl) T.b_len (by decide +kernel) (pa_cons (pv 0) pa_nil))) (fun _ _ => rfl)) pa_nil)) pa_nil)) pe_int) pe_int)))) pss_nil)))
      (pss_one (ps_ret (pe_lst (pa_cons (pe_ifExp (pt_cmpR op_ge (pv 2) (pe_op op_pow pe_int pe_int) (nomark _)) (pv 2) pe_int) (pa_cons (pe_op op_add (pe_op op_mod (pe_callTy call_int1 (by rfl) T.b_int (by decide +kernel) (pa_cons (pe_op op_add (pe_op op_mul (pe_op op_mod (pe_callTy call_int1 (by rfl) T.b_int (by decide +kernel) (pa_cons (pv 2) pa_nil)) pe_int) pe_int) (pe_op op_mul pe_int (pv 1))) pa_nil)) pe_int) pe_int) (pa_cons pe_int pa_nil)))))))), ?_⟩
    walk_at "g"
    refine i_dec (fun h => ?_) (fun h => ?_)
    · walk_at "g"
      have hl : kk.toNat < ns.length := by rw [List.length_map] at h; omega
      refine i_ixL (by walk_at "h") (v := .int (ns[kk.toNat])) (at_of (j := kk.toNat) (by omega) (by rw [List.getElem?_map, List.getElem?_eq_getElem hl]; rfl)) ?_
      walk_at "g"
      refine i_dec (fun h => ?_) (fun h => ?_) <;> (walk_at "g"; exact i_lst1 (by show 3 ≤ sizeLine; decide) fun p H' np k' hp => k p H' np k' ⟨_, _, _, hp⟩)
    · walk_at "g"
      refine i_dec (fun h2 => ?_) (fun h2 => ?_)
      · walk_at "g"
        have hp : 0 < ns.length := by rw [List.length_map] at h2; omega
        have e1 : (0 : Int) ≤ kk % ((ns.map V.int).length : Int) := Int.emod_nonneg _ (by rw [List.length_map]; omega)
        have e2 : kk % ((ns.map V.int).length : Int) < ((ns.map V.int).length : Int) := Int.emod_lt_of_pos _ (by rw [List.length_map]; omega)
        have hl : (kk % ((ns.map V.int).length : Int)).toNat < ns.length := by rw [List.length_map] at e2 e1 ⊢; omega
        refine i_ixL (by walk_at "h") (v := .int (ns[(kk % ((ns.map V.int).length : Int)).toNat])) (at_of (j := (kk % ((ns.map V.int).length : Int)).toNat) (by omega) (by rw [List.getElem?_map, List.getElem?_eq_getElem hl]; rfl)) ?_
        walk_at "g"
        refine i_dec (fun h => ?_) (fun h => ?_) <;> (walk_at "g"; exact i_lst1 (by show 3 ≤ sizeLine; decide) fun p H' np k' hp => k p H' np k' ⟨_, _, _, hp⟩)
      · walk_at "g"
        refine i_dec (fun h => ?_) (fun h => ?_) <;> (walk_at "g"; exact i_lst1 (by show 3 ≤ sizeLine; decide) fun p H' np k' hp => k p H' np k' ⟨_, _, _, hp⟩)
/-! ### one_of -/
def spOneOf (K : PySem.W.Frag) : Sp := fun vs H Q _ => ∃ (b l : Addr) (xs : List V), vs = [.ref b, .ref l] ∧ BoxAt H b ∧ SqL K H l xs ∧ ¬ Box (.lst xs) ∧ 0 < xs.length ∧ xs.length < 1000000 ∧
  ∀ (j : Nat) (v : V) (H' : Hp), xs[j]? = some v → Keep H H' → Q v H'
theorem c_one_of (T : Tx K mg) : Cal P w K mg base 2 "_law_one_of" (spOneOf K) [] := by
  have C_w_choose : Cal P w K mg base 1 "_law_choose" spChoose [] := c_choose T
  refine T.d_one_of.cal sc_w_one_of (fun vs H Q E h => ?_) (fun f cdv A outer s H vs Q E hr h => ?_)
  · obtain ⟨b, l, xs, rfl, _⟩ := h
    rfl
  · obtain ⟨b, l, xs, rfl, hb, hl, nb, l0, l1, k⟩ := h
    refine ⟨_, (pss_one (ps_ret (pe_ix (ix_listK K) (pv 1) (pe_c C_w_choose hr (by decide) (by rfl) (pa_cons (pv 0) (pa_cons (pe_callB (call_lenK K) (by rfl) T.b_len (by decide +kernel) (pa_cons (pv 1) pa_nil)) pa_nil))) (fun _ _ => rfl)))), ?_⟩
    walk_at "g"
    refine ⟨b, xs.length, rfl, hb, by omega, by omega, fun j H1 j0 j1 k1 => ?_⟩
    have hj : j.toNat < xs.length := by omega
    refine i_ixL (Keep.sqL k1 nb hl) (v := xs[j.toNat]) (at_of (j := j.toNat) (by omega) (List.getElem?_eq_getElem hj)) ?_
    exact k j.toNat _ _ (List.getElem?_eq_getElem hj) k1
end
end K03
namespace K03
open PySem PySem.Spec PyProof.Rows L2 AR C8
/-- the row is of these signs -/
def Over (z r : Str) : Prop := ∀ c ∈ toL r, c ∈ toL z
/-- the image of a sign -/
def img (z : Str) (rows : List Str) (c : Nat) : List Nat := match (toL z).idxOf? c with
  | some j => (match rows[j]? with
    | some r => toL r
    | none => [])
  | none => []
theorem idxOf_at {l : List Nat} (nd : l.Nodup) {j c : Nat} (h : l[j]? = some c) : l.idxOf? c = some j := by
  obtain ⟨hl, he⟩ := List.getElem?_eq_some_iff.mp h
  refine List.findIdx?_eq_some_iff_getElem.mpr ⟨hl, beq_iff_eq.mpr he, fun i hi => ?_⟩
  intro hb
  have h1 : l[i] = c := beq_iff_eq.mp hb
  have : i = j := (List.getElem_inj nd).mp (by rw [h1, he])
  omega
theorem img_at {z : Str} {rows : List Str} (nd : (toL z).Nodup) {j c : Nat} {r : Str} (h : (toL z)[j]? = some c) (hr : rows[j]? = some r) : img z rows c = toL r := by
  unfold img
  rw [idxOf_at nd h]
  show (match rows[j]? with
    | some r => toL r
    | none => []) = _
  rw [hr]
theorem img_len {z : Str} {rows : List Str} {B : Nat} (hB : ∀ x ∈ rows, (toL x).length ≤ B) (c : Nat) : (img z rows c).length ≤ B := by
  unfold img
  cases (toL z).idxOf? c with
  | none => exact Nat.zero_le _
  | some j =>
    show (match rows[j]? with
      | some r => toL r
      | none => []).length ≤ B
    cases e : rows[j]? with
    | none => exact Nat.zero_le _
    | some r => exact hB r (List.mem_of_getElem? e)
/-- the menu of signs -/
def menu : List Str := ["ab", "ab", "a", "abc", "xz"]
section
variable {P : Program} {w : World} {K : PySem.W.Frag} {mg : Str → Option Value} {base : Heap}
def spSigns : Sp := fun vs H Q _ => ∃ b : Addr, vs = [.ref b] ∧ BoxAt H b ∧ ∀ (z : Str) (H' : Hp), z ∈ menu → Keep H H' → Q (.str z) H'
theorem c_signs (T : Tx K mg) : Cal P w K mg base 3 "_law_signs" spSigns [] := by
  have C_w_one_of : Cal P w K mg base 2 "_law_one_of" (spOneOf K) [] := c_one_of T
  refine T.d_signs.cal sc_w_signs (fun vs H Q E h => ?_) (fun f cdv A outer s H vs Q E hr h => ?_)
  · obtain ⟨b, rfl, _⟩ := h
    rfl
  · obtain ⟨b, rfl, hb, k⟩ := h
    refine ⟨_, (pss_one (ps_ret (pe_c C_w_one_of hr (by decide) (by rfl) (pa_cons (pv 0) (pa_cons (pe_lst (pa_cons pe_str (pa_cons pe_str (pa_cons pe_str (pa_cons pe_str (pa_cons pe_str pa_nil)))))) pa_nil))))), ?_⟩
    walk_at "g"
    refine ⟨by show 5 ≤ sizeLine; decide, fun p np => ?_⟩
    generalize hE : upd _ _ _ = H1
    obtain ⟨k1, hp⟩ := newK np hE
    walk_at "g"
    refine ⟨b, p, menu.map V.str, rfl, by walk_at "h", SqL.of hp, nb_strs, by decide, by decide, fun j v H2 hj k2 => ?_⟩
    rw [List.getElem?_map] at hj
    cases ej : menu[j]? with
    | none => rw [ej] at hj; cases hj
    | some z =>
      rw [ej] at hj
      cases hj
      exact k z H2 (List.mem_of_getElem? ej) (by walk_at "kp")
def spRow : Sp := fun vs H Q _ => ∃ (b : Addr) (z : Str) (m : Int), vs = [.ref b, .str z, .int m] ∧ BoxAt H b ∧ 0 < (toL z).length ∧ (toL z).length ≤ 1000 ∧ 0 ≤ m ∧ m ≤ 1000 ∧ ∀ (r : Str) (H' : Hp), Over z r → ((toL r).length : Int) ≤ m → Keep H H' → Q (.str r) H'
theorem chV_len (z : Str) : (chV z).length = (toL z).length := by simp [chV]
theorem chV_strs (z : Str) : chV z = ((toL z).map fun c => (⟨#[c]⟩ : Str)).map V.str := by unfold chV; rw [List.map_map]; rfl
theorem join_chars {z : Str} {n : Nat} {ys : List V} (hl : ys.length = n) (h : ∀ (j : Nat) y, ys[j]? = some y → ∃ c ∈ toL z, y = V.str ⟨#[c]⟩) :
    ∃ cs : List Nat, cs.length = n ∧ (∀ c ∈ cs, c ∈ toL z) ∧ ys = (cs.map fun c => (⟨#[c]⟩ : Str)).map V.str := by
  induction ys generalizing n with
  | nil => exact ⟨[], hl, (fun c h => nomatch h), rfl⟩
  | cons y ys ih =>
    obtain ⟨c, hc, rfl⟩ := h 0 y rfl
    obtain ⟨cs, e1, e2, e3⟩ := ih (n := ys.length) rfl fun j y hj => h (j + 1) y (by simpa using hj)
    refine ⟨c :: cs, by simpa [e1] using hl, fun d hd => ?_, by rw [e3]; rfl⟩
    rcases List.mem_cons.mp hd with q | q
    · rw [q]; exact hc
    · exact e2 d q
theorem flat_chars (cs : List Nat) : (cs.map fun c => (⟨#[c]⟩ : Str)).flatMap toL = cs := by
  induction cs with
  | nil => rfl
  | cons c r ih => rw [List.map_cons, List.flatMap_cons, ih]; rfl
theorem sum_chars (cs : List Nat) : ((cs.map fun c => (⟨#[c]⟩ : Str)).map (·.length)).sum = cs.length := by
  induction cs with
  | nil => rfl
  | cons c r ih => rw [List.map_cons, List.map_cons, List.sum_cons, ih, List.length_cons]; show 1 + r.length = _; omega
theorem c_row (T : Tx K mg) : Cal P w K mg base 3 "_law_row" spRow [] := by
  have C_w_choose : Cal P w K mg base 1 "_law_choose" spChoose [] := c_choose T
  have C_w_one_of : Cal P w K mg base 2 "_law_one_of" (spOneOf K) [] := c_one_of T
  refine T.d_row.cal sc_w_row (fun vs H Q E h => ?_) (fun f cdv A outer s H vs Q E hr h => ?_)
  · obtain ⟨b, z, m, rfl, _⟩ := h
    rfl
  · obtain ⟨b, z, m, rfl, hb, z0, z1, m0, m1, k⟩ := h
    refine ⟨_, (pss_one (ps_ret (pe_joinK K pe_str (pe_lc (own := [("_law_turn", 3)]) (g := gName 3) (tt := tYes) (by rfl) sc_w_row.nd (pi_range1 (by rfl) T.b_range (pa_cons (pe_c C_w_choose hr (by decide) (by rfl) (pa_cons (pv 0) (pa_cons (pe_op op_add (pv 2) pe_int) pa_nil))) pa_nil)) (blkOk_by (own := [("_law_turn", 3)]) (N := ["_law_box", "_law_signs_here", "_law_most", "_law_turn"]) (sc := defScope s_w_row) (by decide +kernel)) (fun _ _ _ _ _ => (pg_name (i := 3) sc_w_row.nd rfl (Or.inl rfl))) (fun _ _ _ _ _ => pts_nil) (fun _ _ _ _ _ => (pe_c C_w_one_of hr (by decide) (by rfl) (pa_cons (pv 0) (pa_cons (pe_callTy (call_listT rfl) (by rfl) T.b_list (by decide +kernel) (pa_cons (pv 1) pa_nil)) pa_nil)))))))), ?_⟩
    walk_at "g"
    refine ⟨b, m + 1, rfl, hb, by omega, by omega, fun n H1 n0 n1 k1 => ?_⟩
    walk_at "g"
    refine ⟨by omega, by omega, ?_⟩
    refine lcK (walk_range (lo := 0) (n := n.toNat)) (fun _ y => ∃ c ∈ toL z, y = V.str ⟨#[c]⟩) (by show n.toNat ≤ 16777216; omega) (fun ys h => ?_) (fun _ _ => trivial) (fun i x H2 H3 C N hi k2 y kC => ?_) fun D H2 ys nD k2 hD hl hy => ?_
    · obtain ⟨cs, _, _, rfl⟩ := join_chars rfl h
      exact nb_strs
    · obtain ⟨rfl, rfl⟩ := y
      walk_at "g"
      refine ⟨rfl, ?_⟩
      walk_at "g"
      refine i_listT (by rw [len_toL]; show (toL z).length ≤ 16777216; omega) fun p H4 np k4 hp => ?_
      walk_at "g"
      refine ⟨b, p, chV z, rfl, by walk_at "h", SqL.of hp, by rw [chV_strs]; exact nb_strs, by rw [chV_len]; exact z0, by rw [chV_len]; omega, fun j v H5 hj k5 => ?_⟩
      unfold chV at hj
      rw [List.getElem?_map] at hj
      cases ej : z.cps.toList[j]? with
      | none => rw [ej] at hj; cases hj
      | some c =>
        rw [ej] at hj
        cases hj
        exact kC _ _ ⟨c, List.mem_of_getElem? ej, rfl⟩ (by walk_at "kp")
    · obtain ⟨cs, e1, e2, rfl⟩ := join_chars hl hy
      refine i_joinL (SqL.of hD) ?_ ?_
      · rw [sum_chars]
        show cs.length + _ * 0 ≤ 16777216
        omega
      · rw [txt_join0, flat_chars]
        exact k _ _ (fun c hc => e2 c (by simpa using hc)) (by simp; omega) (by walk_at "kp")
def spImage (K : PySem.W.Frag) : Sp := fun vs H Q _ => ∃ (z r : Str) (l : Addr) (rows : List Str), vs = [.str z, .ref l, .str r] ∧ SqL K H l (rows.map V.str) ∧ (toL z).Nodup ∧ rows.length = (toL z).length ∧ Over z r ∧ (toL r).length ≤ 10000 ∧ (∀ x ∈ rows, (toL x).length ≤ 1000) ∧
  ∀ H', Same H H' → Q (.str (ofL ((toL r).flatMap (img z rows)))) H'
theorem Over.len {z : Str} {rows : List Str} {B : Nat} (hB : ∀ x ∈ rows, (toL x).length ≤ B) : ∀ l : List Nat, (l.flatMap (img z rows)).length ≤ l.length * B
  | [] => by simp
  | c :: l => by
    rw [List.flatMap_cons, List.length_append, List.length_cons]
    have h1 := Over.len (z := z) hB l
    have h2 : (img z rows c).length ≤ B := img_len hB c
    rw [Nat.add_mul, Nat.one_mul]
    omega
theorem c_image (T : Tx K mg) : Cal P w K mg base 1 "_law_image" (spImage K) [] := by
  refine T.d_image.cal sc_w_image (fun vs H Q E h => ?_) (fun f cdv A outer s H vs Q E hr h => ?_)
  · obtain ⟨z, r, l, rows, rfl, _⟩ := h
    rfl
  · obtain ⟨z, r, l, rows, rfl, hl, nd, hlen, ov, r1, x1, k⟩ := h
    refine ⟨_, (pss_one (ps_ret (pe_joinK K pe_str (pe_lc (own := [("_law_sign", 3)]) (g := gName 3) (tt := tYes) (by rfl) sc_w_image.nd (pi_str (pv 2)) (blkOk_by (own := [("_law_sign", 3)]) (N := ["_law_signs_here", "_law_images_here", "_law_row_here", "_law_sign"]) (sc := defScope s_w_image) (by decide +kernel)) (fun _ _ _ _ _ => (pg_name (i := 3) sc_w_image.nd rfl (Or.inl rfl))) (fun _ _ _ _ _ => pts_nil) (fun _ _ _ _ _ => (pe_ix (ix_listK K) (pv 1) (pe_m1 PySem.F.slot_str_index PySem.F.type_str_index mt_sindex (pv 0) (pv 3)) (fun _ _ => rfl))))))), ?_⟩
    walk_at "g"
    refine lcS (walk_str (z := r)) (fun i => V.str (ofL (img z rows ((toL r).getD i 0)))) (Nat.le_trans (Nat.le_of_eq (show r.cps.size = (toL r).length by simp)) (Nat.le_trans r1 (by decide))) (fun _ _ => trivial) (fun i x H2 H3 C N hi s2 y kC => ?_) fun D H2 nD s2 hD => ?_
    · obtain ⟨rfl, c, hc, rfl⟩ := y
      walk_at "g"
      refine ⟨rfl, ?_⟩
      walk_at "g"
      have hc' : (toL r)[i]? = some c := by rw [Array.getElem?_toList]; exact hc
      have hm : c ∈ toL z := ov c (List.mem_of_getElem? hc')
      obtain ⟨j, rest, ho, hj⟩ := occ_one hm
      refine ⟨_, _, j, rest, rfl, rfl, ho, ?_⟩
      have hjl : j < rows.length := by rw [hlen]; exact (List.getElem?_eq_some_iff.mp hj).1
      refine i_ixL (s2.seq hl) (v := .str rows[j]) (at_of (j := j) rfl (by rw [List.getElem?_map, List.getElem?_eq_getElem hjl]; rfl)) ?_
      have e : (toL r).getD i 0 = c := by rw [List.getD_eq_getElem?_getD, hc']; rfl
      have ei : img z rows c = toL rows[j] := img_at nd hj (List.getElem?_eq_getElem hjl)
      have := kC _ (Same.refl _)
      rw [e, ei, ofL_toL] at this
      exact this
    · have er : (List.range r.cps.size).map (fun i => V.str (ofL (img z rows ((toL r).getD i 0)))) = ((toL r).map fun c => ofL (img z rows c)).map V.str := by
        rw [List.map_map]
        apply List.ext_getElem
        · simp
        · intro i h1 h2
          simp at h1 h2
          simp [List.getD_eq_getElem?_getD, h1]
      rw [er] at hD
      have ef : ((toL r).map fun c => ofL (img z rows c)).flatMap toL = (toL r).flatMap (img z rows) := by
        rw [List.flatMap_map]
        congr 1
      have es : (((toL r).map fun c => ofL (img z rows c)).map (·.length)).sum = ((toL r).flatMap (img z rows)).length := by
        rw [List.map_map, List.length_flatMap]
        congr 1
      refine i_joinL (SqL.of hD) ?_ ?_
      · rw [es]
        have := Over.len (z := z) x1 (toL r)
        show _ + _ * 0 ≤ 16777216
        have : (toL r).length * 1000 ≤ 10000 * 1000 := Nat.mul_le_mul_right _ r1
        omega
      · rw [txt_join0, ef]
        exact k _ s2
end
end K03
namespace K03
open PySem PySem.Spec PyProof.Rows L2 AR C8
theorem i_join2 {b : Bool} {x y : V} {σ : L2.St} {H : Hp} {Q : VK} (k : ∀ v, (v = x ∨ v = y) → Q v H) : if b = true then tC x σ H Q else tC y σ H Q := by
  cases b
  · rw [if_neg (by decide)]; exact k y (.inr rfl)
  · rw [if_pos rfl]; exact k x (.inl rfl)
section
variable {P : Program} {w : World} {K : PySem.W.Frag} {mg : Str → Option Value} {base : Heap}
/-- images for the signs z, of at most m signs each -/
structure Imgs (z : Str) (m : Nat) (rows : List Str) : Prop where
  len : rows.length = (toL z).length
  ov : ∀ x ∈ rows, Over z x
  small : ∀ x ∈ rows, (toL x).length ≤ m
def spImages : Sp := fun vs H Q _ => ∃ (b : Addr) (z : Str) (m : Int), vs = [.ref b, .str z, .int m] ∧ BoxAt H b ∧ 0 < (toL z).length ∧ (toL z).length ≤ 1000 ∧ 1 ≤ m ∧ m ≤ 1000 ∧
  ∀ (l : Addr) (rows : List Str) (H' : Hp), H l = none → Keep H H' → H' l = some (.lst (rows.map V.str)) → Imgs z m.toNat rows → Q (.ref l) H'
theorem c_images (T : Tx K mg) : Cal P w K mg base 4 "_law_images" spImages [] := by
  have C_w_choose : Cal P w K mg base 1 "_law_choose" spChoose [] := c_choose T
  have C_w_one_of : Cal P w K mg base 2 "_law_one_of" (spOneOf K) [] := c_one_of T
  have C_w_row : Cal P w K mg base 3 "_law_row" spRow [] := c_row T
  refine T.d_images.cal sc_w_images (fun vs H Q E h => ?_) (fun f cdv A outer s H vs Q E hr h => ?_)
  · obtain ⟨b, z, m, rfl, _⟩ := h
    rfl
  · obtain ⟨b, z, m, rfl, hb, z0, z1, m0, m1, k⟩ := h
    have zs : z.length ≤ sizeLine := by rw [len_toL]; show (toL z).length ≤ 16777216; omega
    refine ⟨_, (pss_cons (ps_set (i := 3) sc_w_images.nd rfl (Or.inl rfl) (pe_c C_w_choose hr (by decide) (by rfl) (pa_cons (pv 0) (pa_cons pe_int pa_nil))))
      (pss_cons (ps_if (pt_cmpR op_eq (pv 3) pe_int (nomark _)) (pss_one (ps_ret (pe_callTy (call_listT rfl) (by rfl) T.b_list (by decide +kernel) (pa_cons (pv 1) pa_nil)))) pss_nil)
      (pss_cons (ps_if (pt_cmpR op_eq (pv 3) pe_int (nomark _)) (pss_one (ps_ret (pe_lc (own := [("_law_sign", 4)]) (g := gName 4) (tt := tYes) (by rfl) sc_w_images.nd (pi_str (pv 1)) (blkOk_by (own := [("_law_sign", 4)]) (N := ["_law_box", "_law_signs_here", "_law_most", "_law_form", "_law_sign", "_law_least", "_law_found"]) (sc := defScope s_w_images) (by decide +kernel)) (fun _ _ _ _ _ => (pg_name (i := 4) sc_w_images.nd rfl (Or.inl rfl))) (fun _ _ _ _ _ => pts_nil) (fun _ _ _ _ _ => pe_str)))) pss_nil)
      (pss_cons (ps_set (i := 5) sc_w_images.nd rfl (Or.inl rfl) (pe_ifExp (pt_cmpR op_eq (pv 3) pe_int (nomark _)) pe_int pe_int))
      (pss_cons (ps_set (i := 6) sc_w_images.nd rfl (Or.inl rfl) (pe_lst pa_nil))
      (pss_cons (ps_for PassesOwn.never rfl (pi_str (pv 1)) (pg_name (i := 4) sc_w_images.nd rfl (Or.inl rfl))
      (pss_one (ps_expr (pe_bm PySem.F.plainAttrs_list PySem.F.slot_list_append PySem.F.type_list_append mt_append (pv 6) (pa_cons (pe_op op_add_str (pe_op op_mul_txt (pe_c C_w_one_of hr (by decide) (by rfl) (pa_cons (pv 0) (pa_cons (pe_callTy (call_listT rfl) (by rfl) T.b_list (by decide +kernel) (pa_cons (pv 1) pa_nil)) pa_nil))) (pv 5)) (pe_c C_w_row hr (by decide) (by rfl) (pa_cons (pv 0) (pa_cons (pv 1) (pa_cons (pe_op op_sub (pv 2) (pv 5)) pa_nil))))) pa_nil)))))
      (pss_one (ps_ret (pv 6))))))))), ?_⟩
    walk_at "g"
    refine ⟨b, 8, rfl, hb, by decide, by decide, fun fm H1 f0 f1 k1 => ?_⟩
    walk_at "g"
    refine i_eq rfl ?_
    walk_at "g"
    refine i_dec (fun h => ?_) (fun h => ?_)
    · walk_at "g"
      refine i_listT zs fun l H2 nl s2 hl => ?_
      rw [chV_strs] at hl
      refine k l _ H2 (k1.free nl) (by walk_at "kp") hl ⟨by simp, fun x hx => ?_, fun x hx => ?_⟩
      · obtain ⟨c, hc, rfl⟩ := List.mem_map.mp hx
        intro d hd
        have : d = c := by simpa using hd
        rw [this]; exact hc
      · obtain ⟨c, hc, rfl⟩ := List.mem_map.mp hx
        show 1 ≤ m.toNat
        omega
    · walk_at "g"
      refine i_eq rfl ?_
      walk_at "g"
      refine i_dec (fun h => ?_) (fun h => ?_)
      · walk_at "g"
        refine lcS (walk_str (z := z)) (fun i => V.str "") zs (fun _ _ => trivial) (fun i x H2 H3 C N hi s2 y kC => ?_) fun D H2 nD s2 hD => ?_
        · obtain ⟨rfl, c, hc, rfl⟩ := y
          walk_at "g"
          refine ⟨rfl, ?_⟩
          walk_at "g"
          exact kC _ (Same.refl _)
        · have er : (List.range z.cps.size).map (fun i => V.str "") = (List.replicate (toL z).length ("" : Str)).map V.str := by
            apply List.ext_getElem <;> simp
          rw [er] at hD
          refine k D _ H2 (k1.free nD) (by walk_at "kp") hD ⟨by simp, fun x hx => ?_, fun x hx => ?_⟩
          · rw [List.eq_of_mem_replicate hx]; intro d hd; cases hd
          · rw [List.eq_of_mem_replicate hx]; exact Nat.zero_le _
      · walk_at "g"
        refine i_eq rfl ?_
        walk_at "g"
        refine i_join2 fun v hv => ?_
        obtain ⟨le, rfl, l0, l1⟩ : ∃ le : Int, v = .int le ∧ 0 ≤ le ∧ le ≤ 1 := by rcases hv with rfl | rfl <;> exact ⟨_, rfl, by decide, by decide⟩
        walk_at "g"
        refine ⟨by show 0 ≤ sizeLine; decide, fun l nl => ?_⟩
        generalize hE : upd _ _ _ = H2
        obtain ⟨k2, hl⟩ := newK nl hE
        walk_at "g"
        refine for_it (walk_str (z := z)) (fun i σ H3 => ∃ (rows : List Str) (v4 : Option V), σ = [some (.ref b), some (.str z), some (.int m), some (.int fm), v4, some (.int le), some (.ref l)] ∧ Keep H1 H3 ∧ H3 l = some (.lst (rows.map V.str)) ∧ rows.length = i ∧ (∀ x ∈ rows, Over z x) ∧ ∀ x ∈ rows, (toL x).length ≤ m.toNat)
          ⟨[], none, rfl, k2, hl, rfl, (fun _ h => nomatch h), (fun _ h => nomatch h)⟩ (fun _ _ _ _ _ => trivial) ?_ ?_
        · rintro i x σ H3 H4 hi ⟨rows, v4, rfl, k3, hrow, hlen, hov, hsm⟩ ⟨rfl, c, hc, rfl⟩
          walk_at "g"
          refine i_listT zs fun p H5 np s5 hp => ?_
          walk_at "g"
          refine ⟨b, p, chV z, rfl, by walk_at "h", SqL.of hp, by rw [chV_strs]; exact nb_strs, by rw [chV_len]; exact z0, by rw [chV_len]; omega, fun j v H6 hj k6 => ?_⟩
          unfold chV at hj
          rw [List.getElem?_map] at hj
          cases ej : z.cps.toList[j]? with
          | none => rw [ej] at hj; cases hj
          | some d =>
            rw [ej] at hj
            cases hj
            walk_at "g"
            refine ⟨_, _, rfl, rfl, by omega, by omega, ?_, ?_⟩
            · show 1 * le.toNat ≤ 16777216
              omega
            walk_at "g"
            refine ⟨b, z, m - le, rfl, by walk_at "h", z0, z1, by omega, by omega, fun r H7 ov rl k7 => ?_⟩
            have hm : Over z (Txt.mul ⟨#[d]⟩ le) ∧ (toL (Txt.mul ⟨#[d]⟩ le)).length = le.toNat := by
              have : le = 0 ∨ le = 1 := by omega
              rcases this with rfl | rfl
              · exact ⟨(fun e he => nomatch he), rfl⟩
              · refine ⟨fun e he => ?_, rfl⟩
                have h2 : e ∈ [d] := he
                have : e = d := by simpa using h2
                rw [this]; exact List.mem_of_getElem? ej
            refine ⟨_, _, rfl, rfl, ?_, ?_⟩
            · rw [len_toL, len_toL, hm.2]
              show _ ≤ 16777216
              omega
            have hrow7 : H7 l = some (.lst (rows.map V.str)) := k7.st _ _ (k6.st _ _ (s5 _ _ hrow) nb_strs) nb_strs
            walk_at "g"
            refine i_app hrow7 (by rw [List.length_map, hlen]; show i < 16777216; have : z.cps.size ≤ 16777216 := zs; omega) ?_
            refine ⟨rows ++ [Txt.mul ⟨#[d]⟩ le ++ r], _, rfl, Keep.mut (by walk_at "kp") nl, by rw [upd_same, List.map_append]; rfl, by simp [hlen], fun x hx => ?_, fun x hx => ?_⟩
            · rcases List.mem_append.mp hx with q | q
              · exact hov x q
              · rw [List.mem_singleton.mp q]
                intro e he
                rw [toL_append] at he
                rcases List.mem_append.mp he with q | q
                · exact hm.1 e q
                · exact ov e q
            · rcases List.mem_append.mp hx with q | q
              · exact hsm x q
              · rw [List.mem_singleton.mp q, toL_append, List.length_append, hm.2]
                omega
        · rintro σ H3 ⟨rows, v4, rfl, k3, hrow, hlen, hov, hsm⟩
          walk_at "g"
          exact k l rows H3 (k1.free nl) (by walk_at "kp") hrow ⟨by rw [hlen]; simp, hov, hsm⟩
end
end K03
namespace K03
open PySem PySem.Spec PyProof.Rows L2 AR C8
def letters : Str := "abcdefghijklmnopqrstuvwxyz"
def rising : List Nat → Bool
  | a :: b :: r => decide ([a] < [b]) && rising (b :: r)
  | _ => true
def areSigns (z : Str) : Bool := decide (1 ≤ (toL z).length) && decide ((toL z).length ≤ 3) && (toL z).all (fun c => decide (c ∈ toL letters)) && rising (toL z)
section
variable {P : Program} {w : World} {K : PySem.W.Frag} {mg : Str → Option Value} {base : Heap}
def spAreSigns : Sp := fun vs H Q _ => ∃ z : Str, vs = [.str z] ∧ (toL z).length ≤ 1000000 ∧ ∀ H', Same H H' → Q (.bl (areSigns z)) H'
theorem all_range_bl {α : Type} (l : List α) (f : α → Bool) (g : Nat → Bool) (h : ∀ i x, l[i]? = some x → g i = f x) : (List.range l.length).map (fun i => V.bl (g i)) = (l.map f).map V.bl := by
  rw [List.map_map]
  apply List.ext_getElem
  · simp
  · intro i h1 h2
    simp at h1
    simp [h i l[i] (by simp [h1])]
theorem rising_zip : ∀ l : List Nat, rising l = ((l.zip (l.drop 1)).map fun p => decide ([p.1] < [p.2])).all id
  | [] => rfl
  | [_] => rfl
  | a :: b :: r => by
    have ih := rising_zip (b :: r)
    show (decide ([a] < [b]) && rising (b :: r)) = _
    rw [ih]
    rfl
theorem toL_mk (l : List Nat) : toL ⟨l.toArray⟩ = l := by simp
theorem cut1 (z : Str) : toL (cutS z (some 1) none) = (toL z).drop 1 := by
  unfold cutS
  rw [toL_mk]
  have e1 : HT.sIx z.length 0 (some 1) = min 1 (toL z).length := by
    unfold HT.sIx
    rw [len_toL]
    simp
    try omega
  have e2 : HT.sIx z.length z.length none = (toL z).length := by
    unfold HT.sIx
    rw [len_toL]
  rw [e1, e2]
  rw [List.take_of_length_le (by rw [List.length_drop]; exact Nat.le_refl _)]
  show (toL z).drop _ = _
  cases h : toL z with
  | nil => rfl
  | cons a r => simp
theorem c_are_signs (T : Tx K mg) : Cal P w K mg base 1 "are_signs" spAreSigns [] := by
  refine T.d_are_signs.cal sc_are_signs (fun vs H Q E h => ?_) (fun f cdv A outer s H vs Q E hr h => ?_)
  · obtain ⟨z, rfl, _⟩ := h
    rfl
  · obtain ⟨z, rfl, z1, k⟩ := h
    have zs : z.length ≤ sizeLine := by rw [len_toL]; show (toL z).length ≤ 16777216; omega
    refine ⟨_, (pss_cons (ps_if (PW.pt (pw_or (pt_not (pt_val (pe_callB (call_isK K) (by rfl) T.b_isinstance (by decide +kernel) (pa_cons (pv 0) (pa_cons (pe_bltn (v := .ty "str") (u := .type "str") (by rfl) T.b_str (by decide +kernel) (by rfl)) pa_nil))))) (pw_or (pt_not (pt_chain op_le op_le pe_int (pe_callB call_lenT (by rfl) T.b_len (by decide +kernel) (pa_cons (pv 0) pa_nil)) pe_int)) (pw_or1 (pt_not (pt_val (pe_callB (cr_allK K rfl) (by rfl) T.b_all (by decide +kernel) (pa_cons (pe_lc (own := [("sign", 1)]) (g := gName 1) (tt := tYes) (by rfl) sc_are_signs.nd (pi_str (pv 0)) (blkOk_by (own := [("sign", 1)]) (N := ["value", "sign", "one", "other"]) (sc := defScope s_are_signs) (by decide +kernel)) (fun _ _ _ _ _ => (pg_name (i := 1) sc_are_signs.nd rfl (Or.inl rfl))) (fun _ _ _ _ _ => pts_nil) (fun _ _ _ _ _ => (pe_cmpR op_in_sign (pv 1) (pe_gc (by rfl) T.k_LETTERS) (by rfl)))) pa_nil)))))))) (pss_one (ps_ret pe_bl)) pss_nil)
      (pss_one (ps_ret (pe_callB (cr_allK K rfl) (by rfl) T.b_all (by decide +kernel) (pa_cons (pe_lc (own := [("one", 2), ("other", 3)]) (g := gTup K 2 (gCons (gName 2) (gCons (gName 3) gNil))) (tt := tYes) (by rfl) sc_are_signs.nd (pi_ZK K (by rfl) T.b_zip (pa_cons (pv 0) (pa_cons (pe_slice sl_str (pv 0) (po_some pe_int) po_none) pa_nil))) (blkOk_by (own := [("one", 2), ("other", 3)]) (N := ["value", "sign", "one", "other"]) (sc := defScope s_are_signs) (by decide +kernel)) (fun _ _ _ _ _ => (pg_tK (n := 2) K (by rfl) (pgs_cons (pg_name (i := 2) sc_are_signs.nd rfl (Or.inl rfl)) (pgs_cons (pg_name (i := 3) sc_are_signs.nd rfl (Or.inl rfl)) pgs_nil)))) (fun _ _ _ _ _ => pts_nil) (fun _ _ _ _ _ => (pe_cmpR op_lt_str (pv 2) (pv 3) (nomark _)))) pa_nil))))), ?_⟩
    walk_at "g"
    refine i_lenT zs ?_
    walk_at "g"
    refine i_dec (fun h1 => ?_) (fun h1 => ?_)
    · walk_at "g"
      refine i_decN (fun h2 => ?_) (fun h2 => ?_)
      · walk_at "g"
        have := k _ (Same.refl _)
        rw [show areSigns z = false by unfold areSigns; rw [len_toL] at h2; rw [decide_eq_false (show ¬ (toL z).length ≤ 3 by omega)]; simp] at this
        exact this
      · walk_at "g"
        refine lcS (walk_str (z := z)) (fun i => V.bl (decide ((toL z).getD i 0 ∈ toL letters))) zs (fun _ _ => trivial) (fun i x H2 H3 C N hi s2 y kC => ?_) fun D H2 nD s2 hD => ?_
        · obtain ⟨rfl, c, hc, rfl⟩ := y
          walk_at "g"
          refine ⟨rfl, ?_⟩
          walk_at "g"
          refine i_ins (z := letters) ?_
          have hc' : (toL z)[i]? = some c := by rw [Array.getElem?_toList]; exact hc
          have e : (toL z).getD i 0 = c := by rw [List.getD_eq_getElem?_getD, hc']; rfl
          have := kC _ (Same.refl _)
          rw [e] at this
          exact this
        · rw [show z.cps.size = (toL z).length by simp, all_range_bl (toL z) (fun c => decide (c ∈ toL letters)) _ (fun i x h => by rw [List.getD_eq_getElem?_getD, h]; rfl)] at hD
          walk_at "g"
          refine i_all (SqL.of hD) ?_
          walk_at "g"
          cases hb : ((toL z).map fun c => decide (c ∈ toL letters)).all id with
          | false =>
            walk_at "g"
            have := k _ s2
            rw [show areSigns z = false by unfold areSigns; rw [List.all_map] at hb; rw [show ((toL z).all fun c => decide (c ∈ toL letters)) = false from hb]; simp] at this
            exact this
          | true =>
            walk_at "g"
            refine i_slS zs ?_
            walk_at "g"
            refine ⟨.txt z, .txt (cutS z (some 1) none), _, _, rfl, rfl, rfl, ?_⟩
            have ln : min (chV z).length (chV (cutS z (some 1) none)).length = ((toL z).zip ((toL z).drop 1)).length := by rw [chV_len, chV_len, cut1, List.length_zip]
            refine lcS walk_Z (fun i => V.bl (decide ([(((toL z).zip ((toL z).drop 1)).getD i (0, 0)).1] < [(((toL z).zip ((toL z).drop 1)).getD i (0, 0)).2]))) (by rw [chV_len, chV_len, cut1]; simp only [List.length_drop]; show _ ≤ 16777216; omega) (fun _ _ => ⟨rfl, rfl⟩) (fun i x H3 H4 C N hi s3 y kC => ?_) fun D' H3 nD' s3 hD' => ?_
            · obtain ⟨T', x1, y1, rfl, nT, rfl, hx1, hy1⟩ := y
              generalize hE : upd _ _ _ = H5
              obtain ⟨s5, hp⟩ := newS nT hE
              refine i_pair (SqT.of hp) rfl ?_
              walk_at "g"
              refine ⟨rfl, ?_⟩
              rw [ln] at hi
              have hz := List.getElem?_eq_getElem hi
              obtain ⟨q1, q2⟩ := List.getElem?_zip_eq_some.mp hz
              replace hx1 : (chV z)[i]? = some x1 := hx1
              replace hy1 : (chV (cutS z (some 1) none))[i]? = some y1 := hy1
              have e1 : x1 = V.str ⟨#[(((toL z).zip ((toL z).drop 1))[i]).1]⟩ := by
                unfold chV at hx1
                rw [List.getElem?_map, q1] at hx1
                cases hx1; rfl
              have e2 : y1 = V.str ⟨#[(((toL z).zip ((toL z).drop 1))[i]).2]⟩ := by
                unfold chV at hy1
                rw [List.getElem?_map, show (cutS z (some 1) none).cps.toList = (toL z).drop 1 from cut1 z, q2] at hy1
                cases hy1; rfl
              subst e1 e2
              walk_at "g"
              refine i_lts ?_
              have := kC H5 s5
              rw [List.getD_eq_getElem?_getD, hz] at this
              exact this
            · rw [ln, all_range_bl ((toL z).zip ((toL z).drop 1)) (fun p => decide ([p.1] < [p.2])) _ (fun i x h => by rw [List.getD_eq_getElem?_getD, h]; rfl)] at hD'
              walk_at "g"
              refine i_all (SqL.of hD') ?_
              have := k H3 (s2.trans s3)
              rw [show areSigns z = (((toL z).zip ((toL z).drop 1)).map fun p => decide ([p.1] < [p.2])).all id by
                rw [← rising_zip]
                unfold areSigns
                rw [len_toL] at h1 h2
                rw [List.all_map] at hb
                rw [show ((toL z).all fun c => decide (c ∈ toL letters)) = true from hb, decide_eq_true (show 1 ≤ (toL z).length by omega), decide_eq_true (show (toL z).length ≤ 3 by omega)]
                rfl] at this
              exact this
    · walk_at "g"
      have := k _ (Same.refl _)
      rw [show areSigns z = false by unfold areSigns; rw [len_toL] at h1; rw [decide_eq_false (show ¬ 1 ≤ (toL z).length by omega)]; simp] at this
      exact this
end
end K03
namespace K03
open PySem PySem.Spec PyProof.Rows L2 AR C8
theorem valV_merge_out {k : Key} : ∀ (more acc : List (Key × V)), (∀ p ∈ more, p.1 ≠ k) → valV (mergeK acc more) k = valV acc k
  | [], acc, _ => rfl
  | p :: r, acc, h => by
    show valV (mergeK (putK acc p.1 p.2) r) k = _
    rw [valV_merge_out r _ fun q hq => h q (List.mem_cons_of_mem _ hq), valV_put, if_neg fun e => h p (by simp) e.symm]
theorem valV_merge {k : Key} {v : V} : ∀ (more acc : List (Key × V)), (more.map (·.1)).Nodup → (k, v) ∈ more → valV (mergeK acc more) k = some v
  | [], _, _, h => nomatch h
  | p :: r, acc, nd, h => by
    rw [List.map_cons, List.nodup_cons] at nd
    show valV (mergeK (putK acc p.1 p.2) r) k = _
    rcases List.mem_cons.mp h with e | e
    · subst e
      rw [valV_merge_out r _ (fun q hq e => nd.1 (List.mem_map.mpr ⟨q, hq, e⟩)), valV_put, if_pos rfl]
    · exact valV_merge r _ nd.2 e
/-- the dict of images -/
def ImgD (kvs : List (Key × V)) (z : Str) (rows : List Str) : Prop := ∀ (j c : Nat) (r : Str), (toL z)[j]? = some c → rows[j]? = some r → valV kvs (.inr ⟨#[c]⟩) = some (.str r)
def kvsOf (z : Str) (rows : List Str) : List (Key × V) := ((toL z).zip rows).map fun p => (.inr ⟨#[p.1]⟩, .str p.2)
theorem nodup_fst : ∀ (l : List Nat) (rows : List Str), l.Nodup → (((l.zip rows).map fun p => ((.inr ⟨#[p.1]⟩ : Key), V.str p.2)).map (·.1)).Nodup
  | [], _, _ => by simp
  | _ :: _, [], _ => by simp
  | a :: l, b :: rows, h => by
    rw [List.nodup_cons] at h
    show (Sum.inr ⟨#[a]⟩ :: (((l.zip rows).map fun p => ((.inr ⟨#[p.1]⟩ : Key), V.str p.2)).map (·.1))).Nodup
    rw [List.nodup_cons]
    refine ⟨fun hm => ?_, nodup_fst l rows h.2⟩
    rw [List.map_map] at hm
    obtain ⟨p, hp, e⟩ := List.mem_map.mp hm
    have e1 : p.1 = a := by
      have e : (Sum.inr ⟨#[p.1]⟩ : Key) = .inr ⟨#[a]⟩ := e
      injection e with e
      injection e with e
      simpa using e
    exact h.1 (e1 ▸ (List.of_mem_zip hp).1)
theorem imgD_of {z : Str} {rows : List Str} (nd : (toL z).Nodup) : ImgD (mergeK [] (kvsOf z rows)) z rows := by
  intro j c r h1 h2
  refine valV_merge _ _ (nodup_fst _ _ nd) (List.mem_map.mpr ⟨(c, r), ?_, rfl⟩)
  have hz : ((toL z).zip rows)[j]? = some (c, r) := List.getElem?_zip_eq_some.mpr ⟨h1, h2⟩
  exact List.mem_of_getElem? hz
theorem rising_nodup : ∀ l : List Nat, rising l = true → l.Nodup := by
  have key : ∀ (l : List Nat) (a : Nat), rising (a :: l) = true → ∀ c ∈ l, a < c := by
    intro l
    induction l with
    | nil => intro a _ c h; cases h
    | cons b r ih =>
      intro a h c hc
      have h' : (decide ([a] < [b]) && rising (b :: r)) = true := h
      rw [Bool.and_eq_true] at h'
      have hab : a < b := by
        have := of_decide_eq_true h'.1
        rcases List.cons_lt_cons_iff.mp this with q | ⟨_, q⟩
        · exact q
        · exact absurd q (by simp)
      rcases List.mem_cons.mp hc with q | q
      · rw [q]; exact hab
      · exact Nat.lt_trans hab (ih b h'.2 c q)
  intro l
  induction l with
  | nil => intro _; exact List.nodup_nil
  | cons a r ih =>
    intro h
    rw [List.nodup_cons]
    refine ⟨fun hm => Nat.lt_irrefl _ (key r a h a hm), ?_⟩
    cases r with
    | nil => exact List.nodup_nil
    | cons b q =>
      have h' : (decide ([a] < [b]) && rising (b :: q)) = true := h
      rw [Bool.and_eq_true] at h'
      exact ih h'.2
/-- signs that pass, and rows over them -/
structure Good (z : Str) (m : Nat) (rows : List Str) : Prop where
  sg : areSigns z = true
  im : Imgs z m rows
theorem Good.nd {z : Str} {m : Nat} {rows : List Str} (g : Good z m rows) : (toL z).Nodup := by
  have := g.sg
  unfold areSigns at this
  rw [Bool.and_eq_true] at this
  exact rising_nodup _ this.2
theorem Good.len {z : Str} {m : Nat} {rows : List Str} (g : Good z m rows) : 1 ≤ (toL z).length ∧ (toL z).length ≤ 3 := by
  have := g.sg
  unfold areSigns at this
  rw [Bool.and_eq_true, Bool.and_eq_true, Bool.and_eq_true] at this
  exact ⟨of_decide_eq_true this.1.1.1, of_decide_eq_true this.1.1.2⟩
theorem Good.lets {z : Str} {m : Nat} {rows : List Str} (g : Good z m rows) : ∀ c ∈ toL z, c < 1114112 := by
  have := g.sg
  unfold areSigns at this
  rw [Bool.and_eq_true, Bool.and_eq_true, Bool.and_eq_true, List.all_eq_true] at this
  intro c hc
  have h := of_decide_eq_true (this.1.2 c hc)
  have hl : ∀ c ∈ toL letters, c < 1114112 := by decide +kernel
  exact hl c h
theorem Good.ok {z : Str} {m : Nat} {rows : List Str} (g : Good z m rows) : ∀ x ∈ rows, PyData.strOk x = true := by
  intro x hx
  unfold PyData.strOk
  rw [Array.all_eq_true_iff_forall_mem]
  intro c hc
  exact decide_eq_true (g.lets c (g.im.ov x hx c (by simpa using hc)))
/-- a change -/
def ChAt (K : PySem.W.Frag) (H : Hp) (a : Addr) (z : Str) (rows : List Str) : Prop := ∃ dx t d kvs, H a = some (.ins (cC K) dx [("signs", .str z), ("rows", .ref t), ("images", .ref d)]) ∧ H t = some (.tup (rows.map V.str)) ∧ H d = some (.dK kvs) ∧ ImgD kvs z rows
theorem ChAt.keep {K : PySem.W.Frag} {H H' : Hp} {a : Addr} {z : Str} {rows : List Str} (h : ChAt K H a z rows) (k : Keep H H') : ChAt K H' a z rows := by
  obtain ⟨dx, t, d, kvs, h1, h2, h3, h4⟩ := h
  exact ⟨dx, t, d, kvs, k.st _ _ h1 nb_ins, k.st _ _ h2 nb_tup, k.st _ _ h3 nb_dK, h4⟩
theorem ChAt.same {K : PySem.W.Frag} {H H' : Hp} {a : Addr} {z : Str} {rows : List Str} (h : ChAt K H a z rows) (k : Same H H') : ChAt K H' a z rows := h.keep (Keep.same k)
section
variable {P : Program} {w : World} {K : PySem.W.Frag} {mg : Str → Option Value} {base : Heap}
def spIsRow : Sp := fun vs H Q _ => ∃ z r : Str, vs = [.str z, .str r] ∧ (toL r).length ≤ 1000000 ∧ ∀ H', Same H H' → Q (.bl ((toL r).all fun c => decide (c ∈ toL z))) H'
theorem c_is_row (T : Tx K mg) : Cal P w K mg base 1 "is_row" spIsRow [] := by
  refine T.d_is_row.cal sc_is_row (fun vs H Q E h => ?_) (fun f cdv A outer s H vs Q E hr h => ?_)
  · obtain ⟨z, r, rfl, _⟩ := h
    rfl
  · obtain ⟨z, r, rfl, r1, k⟩ := h
    refine ⟨_, (pss_one (ps_ret (pe_and (pe_callB (call_isK K) (by rfl) T.b_isinstance (by decide +kernel) (pa_cons (pv 1) (pa_cons (pe_bltn (v := .ty "str") (u := .type "str") (by rfl) T.b_str (by decide +kernel) (by rfl)) pa_nil))) (pe_one (pe_callB (cr_allK K rfl) (by rfl) T.b_all (by decide +kernel) (pa_cons (pe_lc (own := [("sign", 2)]) (g := gName 2) (tt := tYes) (by rfl) sc_is_row.nd (pi_str (pv 1)) (blkOk_by (own := [("sign", 2)]) (N := ["signs", "value", "sign"]) (sc := defScope s_is_row) (by decide +kernel)) (fun _ _ _ _ _ => (pg_name (i := 2) sc_is_row.nd rfl (Or.inl rfl))) (fun _ _ _ _ _ => pts_nil) (fun _ _ _ _ _ => (pe_cmpR op_in_sign (pv 2) (pv 0) (by rfl)))) pa_nil)))))), ?_⟩
    walk_at "g"
    refine lcS (walk_str (z := r)) (fun i => V.bl (decide ((toL r).getD i 0 ∈ toL z))) (Nat.le_trans (Nat.le_of_eq (show r.cps.size = (toL r).length by simp)) (Nat.le_trans r1 (by decide))) (fun _ _ => trivial) (fun i x H2 H3 C N hi s2 y kC => ?_) fun D H2 nD s2 hD => ?_
    · obtain ⟨rfl, c, hc, rfl⟩ := y
      walk_at "g"
      refine ⟨rfl, ?_⟩
      walk_at "g"
      refine i_ins ?_
      have hc' : (toL r)[i]? = some c := by rw [Array.getElem?_toList]; exact hc
      have e : (toL r).getD i 0 = c := by rw [List.getD_eq_getElem?_getD, hc']; rfl
      have := kC _ (Same.refl _)
      rw [e] at this
      exact this
    · rw [show r.cps.size = (toL r).length by simp, all_range_bl (toL r) (fun c => decide (c ∈ toL z)) _ (fun i x h => by rw [List.getD_eq_getElem?_getD, h]; rfl)] at hD
      walk_at "g"
      refine i_all (SqL.of hD) ?_
      rw [List.all_map]
      exact k _ s2
def spIsSeq : Sp := fun vs H Q _ => ∃ (l : Addr) (xs : List V), vs = [.ref l] ∧ H l = some (.lst xs) ∧ ∀ H', Same H H' → Q (.bl true) H'
theorem c_is_sequence (T : Tx K mg) : Cal P w K mg base 1 "is_sequence" spIsSeq [] := by
  refine T.d_is_sequence.cal sc_is_sequence (fun vs H Q E h => ?_) (fun f cdv A outer s H vs Q E hr h => ?_)
  · obtain ⟨l, xs, rfl, _⟩ := h
    rfl
  · obtain ⟨l, xs, rfl, hl, k⟩ := h
    refine ⟨_, (pss_one (ps_ret (pe_callB (call_isTK K) (by rfl) T.b_isinstance (by decide +kernel) (pa_cons (pv 0) (pa_cons (pe_tup (pa_cons (pe_bltn (v := .ty "list") (u := .type "list") (by rfl) T.b_list (by decide +kernel) (by rfl)) (pa_cons (pe_bltn (v := .ty "tuple") (u := .type "tuple") (by rfl) T.b_tuple (by decide +kernel) (by rfl)) pa_nil))) pa_nil))))), ?_⟩
    walk_at "g"
    refine ⟨by show 2 ≤ sizeLine; decide, fun p np => ?_⟩
    generalize hE : upd _ _ _ = H1
    obtain ⟨s1, hp⟩ := newS np hE
    walk_at "g"
    refine ⟨_, p, _, .type "list", [.type "list", .type "tuple"], true, rfl, hp, .cons (.ty _) (.cons (.ty _) .nil), .base (.lst (s1 _ _ hl)), ?_, k _ s1⟩
    exact kitAny_cons (b := true) (kit_ty (by decide +kernel)) (fun h => nomatch h) (fun _ => rfl)
end
end K03
namespace K03
open PySem PySem.Spec PyProof.Rows L2 AR C8
theorem offU {H H1 : Hp} {x : Addr} {o : HO} (e : upd H x o = H1) : (∀ a u, H a = some u → a ≠ x → H1 a = some u) ∧ H1 x = some o := by
  rw [← e]
  exact ⟨fun a u h n => by rw [upd_ne n]; exact h, upd_same⟩
section
variable {P : Program} {w : World} {K : PySem.W.Frag} {mg : Str → Option Value} {base : Heap}
def spChange (K : PySem.W.Frag) : Sp := fun vs H Q _ => ∃ (x dx l : Addr) (z : Str) (m : Nat) (rows : List Str), vs = [.ref x, .str z, .ref l] ∧ H x = some (.ins (cC K) dx []) ∧ H l = some (.lst (rows.map V.str)) ∧ Good z m rows ∧ m ≤ 1000000 ∧
  ∀ H', (∀ a o, H a = some o → a ≠ x → H' a = some o) → ChAt K H' x z rows → Q .non H'
theorem c_Change (T : Tx K mg) : Mak P w K mg base 2 "Change" (cC K) (spChange K) [] := by
  have C_are_signs : Cal P w K mg base 1 "are_signs" spAreSigns [] := c_are_signs T
  have C_is_row : Cal P w K mg base 1 "is_row" spIsRow [] := c_is_row T
  have C_is_sequence : Cal P w K mg base 1 "is_sequence" spIsSeq [] := c_is_sequence T
  refine T.i_Change.mak sc_ChangeD_initD (fun vs H Q E h => ?_) (fun f cdv A outer s H vs Q E hr h => ?_)
  · obtain ⟨x, dx, l, z, m, rows, rfl, _⟩ := h
    rfl
  · obtain ⟨x, dx, l, z, m, rows, rfl, hx, hl, g, m1, k⟩ := h
    have zl := g.len
    have zs : z.length ≤ sizeLine := by rw [len_toL]; show (toL z).length ≤ 16777216; omega
    refine ⟨_, (pss_cons (ps_if (pt_not (pt_val (pe_c C_are_signs hr (by decide) (by rfl) (pa_cons (pv 1) pa_nil)))) (pss_one ps_never) pss_nil)
      (pss_cons (ps_if (PW.pt (pw_or (pt_not (pt_val (pe_c C_is_sequence hr (by decide) (by rfl) (pa_cons (pv 2) pa_nil)))) (pw_or (pt_cmpR op_ne (pe_callB (call_lenK K) (by rfl) T.b_len (by decide +kernel) (pa_cons (pv 2) pa_nil)) (pe_callB call_lenT (by rfl) T.b_len (by decide +kernel) (pa_cons (pv 1) pa_nil)) (nomark _)) (pw_or1 (pt_not (pt_val (pe_callB (cr_allK K rfl) (by rfl) T.b_all (by decide +kernel) (pa_cons (pe_lc (own := [("row", 3)]) (g := gName 3) (tt := tYes) (by rfl) sc_ChangeD_initD.nd (pi_listK K (pv 2)) (blkOk_by (own := [("row", 3)]) (N := ["self", "signs", "rows", "row"]) (sc := defScope s_ChangeD_initD) (by decide +kernel)) (fun _ _ _ _ _ => (pg_name (i := 3) sc_ChangeD_initD.nd rfl (Or.inl rfl))) (fun _ _ _ _ _ => pts_nil) (fun _ _ _ _ _ => (pe_c C_is_row hr (by decide) (by rfl) (pa_cons (pv 1) (pa_cons (pv 3) pa_nil))))) pa_nil)))))))) (pss_one ps_never) pss_nil)
      (pss_cons (ps_fld (pv 0) (pv 1) rfl)
      (pss_cons (ps_fld (pv 0) (pe_callTy (call_tupK K) (by rfl) T.b_tuple (by decide +kernel) (pa_cons (pv 2) pa_nil)) rfl)
      (pss_one (ps_fld (pv 0) (pe_callTy (call_dictK K rfl) (by rfl) T.b_dict (by decide +kernel) (pa_cons (pe_listZK K rfl (by rfl) T.b_list (by rfl) T.b_zip (pa_cons (pv 1) (pa_cons (pv 2) pa_nil))) pa_nil)) rfl)))))), ?_⟩
    walk_at "g"
    refine ⟨z, rfl, by omega, fun H1 s1 => ?_⟩
    rw [g.sg]
    walk_at "g"
    refine ⟨l, _, rfl, s1 _ _ hl, fun H2 s2 => ?_⟩
    walk_at "g"
    refine i_lenT zs ?_
    refine i_ne rfl ?_
    rw [show (!decide (V.int ((rows.map V.str).length : Int) = V.int (z.length : Int))) = false by
      rw [len_toL, List.length_map, g.im.len]; simp]
    walk_at "g"
    refine ⟨⟨_, by walk_at "h"⟩, ?_⟩
    refine lcS (walk_list (K := K) (a := l) (xs := rows.map V.str)) (fun i => V.bl true) (by rw [List.length_map, g.im.len]; show _ ≤ 16777216; omega) (fun H3 s3 => by walk_at "h") (fun i y H3 H4 C N hi s3 yy kC => ?_) fun D H3 nD s3 hD => ?_
    · obtain ⟨rfl, hy⟩ := yy
      rw [List.getElem?_map] at hy
      cases ey : rows[i]? with
      | none => rw [ey] at hy; cases hy
      | some r =>
        rw [ey] at hy
        cases hy
        have hm := List.mem_of_getElem? ey
        walk_at "g"
        refine ⟨rfl, ?_⟩
        walk_at "g"
        refine ⟨z, r, rfl, by have := g.im.small r hm; omega, fun H5 s5 => ?_⟩
        rw [show ((toL r).all fun c => decide (c ∈ toL z)) = true by rw [List.all_eq_true]; exact fun c hc => decide_eq_true (g.im.ov r hm c hc)]
        exact kC _ s5
    · have e0 : (List.range (rows.map V.str).length).map (fun _ => V.bl true) = (List.replicate rows.length true).map V.bl := by apply List.ext_getElem <;> simp
      rw [e0] at hD
      walk_at "g"
      refine i_all (SqL.of hD) ?_
      rw [show (List.replicate rows.length true).all id = true by rw [List.all_eq_true]; intro b hb; rw [List.eq_of_mem_replicate hb]; rfl]
      walk_at "g"
      have hx3 := s3 _ _ (s2 _ _ (s1 _ _ hx))
      have hl3 := s3 _ _ (s2 _ _ (s1 _ _ hl))
      have lx : l ≠ x := fun e => by rw [e, hx] at hl; cases hl
      refine ⟨x, cC K, dx, [], rfl, hx3, T.cl, T.n_signs, by decide, ?_⟩
      generalize hE4 : upd H3 x _ = H4
      obtain ⟨o4, hx4⟩ := offU hE4
      have hl4 := o4 _ _ hl3 lx
      walk_at "g"
      refine i_tupL (SqL.of hl4) fun t H5 nt s5 ht => ?_
      walk_at "g"
      have tx : t ≠ x := fun e => by rw [e, hx4] at nt; cases nt
      refine ⟨x, cC K, dx, _, rfl, s5 _ _ hx4, T.cl, T.n_rows, by show 1 < 1000; decide, ?_⟩
      generalize hE6 : upd H5 x _ = H6
      obtain ⟨o6, hx6⟩ := offU hE6
      have hl6 := o6 _ _ (s5 _ _ hl4) lx
      walk_at "g"
      refine ⟨.txt z, .lst l, chV z, rows.map V.str, rfl, rfl, SqL.of hl6, by rw [chV_len, List.length_map, g.im.len, Nat.min_self]; show _ ≤ 16777216; omega, fun l7 as H7 nl7 nas s7 hl7 hlen hp7 => ?_⟩
      rw [chV_len, List.length_map, g.im.len, Nat.min_self] at hlen
      walk_at "g"
      refine ⟨l7, as, kvsOf z rows, rfl, SqL.of hl7, paired_of_get (by unfold kvsOf; rw [List.length_map, List.length_zip, g.im.len, Nat.min_self, hlen]) fun j a kv ha hkv => ?_, fun d nd => ?_⟩
      · obtain ⟨x', y', hx', hy', hp⟩ := hp7 j a ha
        unfold kvsOf at hkv
        rw [List.getElem?_map] at hkv
        cases ez : ((toL z).zip rows)[j]? with
        | none => rw [ez] at hkv; cases hkv
        | some q =>
          rw [ez] at hkv
          cases hkv
          obtain ⟨q1, q2⟩ := List.getElem?_zip_eq_some.mp ez
          unfold chV at hx'
          rw [List.getElem?_map, q1] at hx'
          rw [List.getElem?_map, q2] at hy'
          cases hx'
          cases hy'
          exact SqT.of hp
      · generalize hE8 : upd H7 d _ = H8
        obtain ⟨s8, hd8⟩ := newS nd hE8
        walk_at "g"
        have dxx : d ≠ x := fun e => by rw [e, s7 _ _ hx6] at nd; cases nd
        refine ⟨x, cC K, dx, _, rfl, s8 _ _ (s7 _ _ hx6), T.cl, T.n_images, by show 2 < 1000; decide, ?_⟩
        generalize hE9 : upd H8 x _ = H9
        obtain ⟨o9, hx9⟩ := offU hE9
        refine k H9 (fun a o ha na => o9 _ _ (s8 _ _ (s7 _ _ (o6 _ _ (s5 _ _ (o4 _ _ (s3 _ _ (s2 _ _ (s1 _ _ ha))) na)) na))) na) ⟨dx, t, d, _, hx9, o9 _ _ (s8 _ _ (s7 _ _ (o6 _ _ ht tx))) tx, o9 _ _ hd8 dxx, imgD_of g.nd⟩
/-- a change is made -/
theorem mk_ch {H : Hp} {Q : VK} {x dx l : Addr} {z : Str} {m : Nat} {rows : List Str} (nx : H x = none) (nd : H dx = none) (ne : dx ≠ x) (hl : H l = some (.lst (rows.map V.str))) (g : Good z m rows) (hm : m ≤ 1000000) (k : ∀ a H', Same H H' → ChAt K H' a z rows → Q (.ref a) H') :
    spChange K [.ref x, .str z, .ref l] (upd (upd H dx (.own x)) x (.ins (cC K) dx [])) (fun v H2 => v = .non ∧ Q (.ref x) H2) C8.E0 := by
  generalize hE : upd _ _ _ = H1
  obtain ⟨s1, hx⟩ := newI nx nd ne hE
  exact ⟨x, dx, l, z, m, rows, rfl, hx, s1 _ _ hl, g, hm, fun H' o c => ⟨rfl, k x H' (fun a u ha => o a u (s1 _ _ ha) (ne_of_none ha nx)) c⟩⟩
end
end K03
namespace K03
open PySem PySem.Spec PyProof.Rows L2 AR C8
/-- the row's image, as a text -/
def imOf (z : Str) (rows : List Str) (r : Str) : Str := ofL ((toL r).flatMap (img z rows))
theorem join_img (z : Str) (rows : List Str) (r : Str) : Txt.join "" ((toL r).map fun c => ofL (img z rows c)) = imOf z rows r := by
  rw [txt_join0, List.flatMap_map]
  unfold imOf
  congr 1
theorem sum_img (z : Str) (rows : List Str) (r : Str) : (((toL r).map fun c => ofL (img z rows c)).map (·.length)).sum = ((toL r).flatMap (img z rows)).length := by
  rw [List.map_map, List.length_flatMap]
  congr 1
theorem range_img (z : Str) (rows : List Str) (r : Str) : (List.range r.cps.size).map (fun i => V.str (ofL (img z rows ((toL r).getD i 0)))) = ((toL r).map fun c => ofL (img z rows c)).map V.str := by
  rw [List.map_map]
  apply List.ext_getElem
  · simp
  · intro i h1 h2
    simp at h1 h2
    simp [List.getD_eq_getElem?_getD, h1]
section
variable {P : Program} {w : World} {K : PySem.W.Frag} {mg : Str → Option Value} {base : Heap}
/-- the images of a row's signs, looked up one by one -/
theorem dget_img {H : Hp} {d : Addr} {kvs : List (Key × V)} {z r : Str} {m : Nat} {rows : List Str} (hd : H d = some (.dK kvs)) (hi : ImgD kvs z rows) (g : Good z m rows) (ov : Over z r) {i c : Nat} (hc : r.cps[i]? = some c) :
    DGet H d (V.str ⟨#[c]⟩) (some (.str (ofL (img z rows ((toL r).getD i 0))))) := by
  have hc' : (toL r)[i]? = some c := by rw [Array.getElem?_toList]; exact hc
  have e : (toL r).getD i 0 = c := by rw [List.getD_eq_getElem?_getD, hc']; rfl
  have hm : c ∈ toL z := ov c (List.mem_of_getElem? hc')
  obtain ⟨j, hj⟩ := List.getElem?_of_mem hm
  have hjl : j < rows.length := by rw [g.im.len]; exact (List.getElem?_eq_some_iff.mp hj).1
  have hr := List.getElem?_eq_getElem hjl
  have := DGet.k (k := .inr ⟨#[c]⟩) hd
  rw [hi j c _ hj hr] at this
  rw [e, img_at g.nd hj hr, ofL_toL]
  exact this
def spOf (K : PySem.W.Frag) : Sp := fun vs H Q _ => ∃ (x : Addr) (z r : Str) (m : Nat) (rows : List Str), vs = [.ref x, .str r] ∧ ChAt K H x z rows ∧ Good z m rows ∧ m ≤ 1000 ∧ Over z r ∧ (toL r).length ≤ 10000 ∧ ∀ H', Same H H' → Q (.str (imOf z rows r)) H'
theorem c_of (T : Tx K mg) : Met P w K mg base 1 (cC K) "of" (spOf K) [] := by
  refine T.m_of.met T.cl sc_Change_of (fun vs H Q E h => ?_) (fun f cdv A outer s H vs Q E hr h => ?_)
  · obtain ⟨x, z, r, m, rows, rfl, _⟩ := h
    rfl
  · obtain ⟨x, z, r, m, rows, rfl, ⟨dx, t, d, kvs, hx, ht, hd, hi⟩, g, m1, ov, r1, k⟩ := h
    refine ⟨_, (pss_one (ps_ret (pe_joinK K pe_str (pe_lc (own := [("sign", 2)]) (g := gName 2) (tt := tYes) (by rfl) sc_Change_of.nd (pi_str (pv 1)) (blkOk_by (own := [("sign", 2)]) (N := ["self", "row", "sign"]) (sc := defScope s_Change_of) (by decide +kernel)) (fun _ _ _ _ _ => (pg_name (i := 2) sc_Change_of.nd rfl (Or.inl rfl))) (fun _ _ _ _ _ => pts_nil) (fun _ _ _ _ _ => (pe_dget (hu_of hr) (pe_fldK K (pv 0) rfl) (pv 2) (fun _ _ => rfl))))))), ?_⟩
    walk_at "g"
    refine lcS (walk_str (z := r)) (fun i => V.str (ofL (img z rows ((toL r).getD i 0)))) (Nat.le_trans (Nat.le_of_eq (show r.cps.size = (toL r).length by simp)) (Nat.le_trans r1 (by decide))) (fun _ _ => trivial) (fun i y H2 H3 C N hi' s2 yy kC => ?_) fun D H2 nD s2 hD => ?_
    · obtain ⟨rfl, c, hc, rfl⟩ := yy
      walk_at "g"
      refine ⟨rfl, ?_⟩
      walk_at "g"
      refine ⟨x, _, dx, _, _, rfl, s2 _ _ hx, T.cl, T.n_images, rfl, ?_⟩
      walk_at "g"
      exact ⟨d, _, rfl, dget_img (s2 _ _ hd) hi g ov hc, kC _ (Same.refl _)⟩
    · rw [range_img] at hD
      refine i_joinL (SqL.of hD) ?_ ?_
      · rw [sum_img]
        have := Over.len (z := z) g.im.small (toL r)
        show _ + _ * 0 ≤ 16777216
        have : (toL r).length * m ≤ 10000 * 1000 := Nat.mul_le_mul r1 m1
        omega
      · rw [join_img]
        exact k _ s2
def spTurned (K : PySem.W.Frag) : Sp := fun vs H Q _ => ∃ (x : Addr) (z : Str) (m : Nat) (rows : List Str), vs = [.ref x] ∧ ChAt K H x z rows ∧ Good z m rows ∧ m ≤ 1000 ∧ ∀ y H', Same H H' → ChAt K H' y z (rows.map revS) → Q (.ref y) H'
theorem toL_revS (x : Str) : toL (revS x) = (toL x).reverse := by simp [revS]
theorem Good.rev {z : Str} {m : Nat} {rows : List Str} (g : Good z m rows) : Good z m (rows.map revS) := by
  refine ⟨g.sg, by rw [List.length_map]; exact g.im.len, fun x hx => ?_, fun x hx => ?_⟩
  · obtain ⟨y, hy, rfl⟩ := List.mem_map.mp hx
    intro c hc
    rw [toL_revS] at hc
    exact g.im.ov y hy c (List.mem_reverse.mp hc)
  · obtain ⟨y, hy, rfl⟩ := List.mem_map.mp hx
    rw [toL_revS, List.length_reverse]
    exact g.im.small y hy
theorem range_map {α β : Type} (rows : List α) (f : α → β) (out : Nat → β) (h : ∀ i x, rows[i]? = some x → out i = f x) : (List.range rows.length).map out = rows.map f := by
  apply List.ext_getElem
  · simp
  · intro i h1 h2
    simp at h1
    simp [h i rows[i] (by simp [h1])]
theorem c_turned (T : Tx K mg) : Met P w K mg base 4 (cC K) "turned" (spTurned K) [] := by
  have M_Change : Mak P w K mg base 2 "Change" (cC K) (spChange K) [] := c_Change T
  refine T.m_turned.met T.cl sc_Change_turned (fun vs H Q E h => ?_) (fun f cdv A outer s H vs Q E hr h => ?_)
  · obtain ⟨x, z, m, rows, rfl, _⟩ := h
    rfl
  · obtain ⟨x, z, m, rows, rfl, ⟨dx, t, d, kvs, hx, ht, hd, hi⟩, g, m1, k⟩ := h
    refine ⟨_, (pss_one (ps_ret (pe_mk M_Change hr (by decide) (by rfl) (pa_cons (pe_fldK K (pv 0) rfl) (pa_cons (pe_lc (own := [("row", 1)]) (g := gName 1) (tt := tYes) (by rfl) sc_Change_turned.nd (pi_tupK K (pe_fldK K (pv 0) rfl)) (blkOk_by (own := [("row", 1)]) (N := ["self", "row"]) (sc := defScope s_Change_turned) (by decide +kernel)) (fun _ _ _ _ _ => (pg_name (i := 1) sc_Change_turned.nd rfl (Or.inl rfl))) (fun _ _ _ _ _ => pts_nil) (fun _ _ _ _ _ => (pe_revS (pv 1) (pe_un un_neg pe_int)))) pa_nil))))), ?_⟩
    walk_at "g"
    refine ⟨x, _, dx, _, _, rfl, hx, T.cl, T.n_signs, rfl, ?_⟩
    walk_at "g"
    refine ⟨x, _, dx, _, _, rfl, hx, T.cl, T.n_rows, rfl, ?_⟩
    walk_at "g"
    refine ⟨⟨_, SqT.of ht⟩, ?_⟩
    have zl := g.len
    refine lcS (walk_tup (K := K) (a := t) (xs := rows.map V.str)) (fun i => V.str (revS (rows.getD i ""))) (by rw [List.length_map, g.im.len]; show _ ≤ 16777216; omega) (fun H3 s3 => SqT.of (s3 _ _ ht)) (fun i y H3 H4 C N hi0 s3 yy kC => ?_) fun D H3 nD s3 hD => ?_
    · obtain ⟨rfl, hy⟩ := yy
      rw [List.getElem?_map] at hy
      cases ey : rows[i]? with
      | none => rw [ey] at hy; cases hy
      | some r =>
        rw [ey] at hy
        cases hy
        have hm := List.mem_of_getElem? ey
        walk_at "g"
        refine ⟨rfl, ?_⟩
        walk_at "g"
        refine ⟨rfl, by rw [len_toL]; have := g.im.small r hm; show _ ≤ 16777216; omega, ?_⟩
        have := kC H4 (Same.refl _)
        rw [List.getD_eq_getElem?_getD, ey] at this
        exact this
    · rw [List.length_map, range_map rows (fun r => V.str (revS r)) _ (fun i x h => by rw [List.getD_eq_getElem?_getD, h]; rfl)] at hD
      walk_at "g"
      intro y dy ny ndy ne
      refine mk_ch (m := m) (rows := rows.map revS) ny ndy ne (by rw [hD, List.map_map]; rfl) g.rev (by omega) fun a H4 s4 c4 => ?_
      exact k a H4 (s3.trans s4) c4
def spEq (K : PySem.W.Frag) : Sp := fun vs H Q _ => ∃ (x y : Addr) (z z' : Str) (m m' : Nat) (rows rows' : List Str), vs = [.ref x, .ref y] ∧ ChAt K H x z rows ∧ ChAt K H y z' rows' ∧ Good z m rows ∧ Good z' m' rows' ∧ Q (.bl (decide (z = z') && decide (rows = rows'))) H
theorem c_eq (T : Tx K mg) : Met P w K mg base 1 (cC K) "__eq__" (spEq K) [] := by
  refine T.m_eq.met T.cl sc_ChangeD_eqD (fun vs H Q E h => ?_) (fun f cdv A outer s H vs Q E hr h => ?_)
  · obtain ⟨x, y, z, z', m, m', rows, rows', rfl, _⟩ := h
    rfl
  · obtain ⟨x, y, z, z', m, m', rows, rows', rfl, ⟨dx, t, d, kvs, hx, ht, hd, hi⟩, ⟨dx', t', d', kvs', hx', ht', hd', hi'⟩, g, g', k⟩ := h
    refine ⟨_, (pss_one (ps_ret (pe_and (pe_callB (call_isK K) (by rfl) T.b_isinstance (by decide +kernel) (pa_cons (pv 1) (pa_cons (pe_gc (v := .ref (He.ga K "Change")) (by rfl) ⟨_, T.m_Change, rfl⟩) pa_nil))) (pe_and (pe_cmpR op_eq (pe_fldK K (pv 0) rfl) (pe_fldK K (pv 1) rfl) (nomark _)) (pe_one (pe_cmpR (op_eqDK K hr.units) (pe_fldK K (pv 0) rfl) (pe_fldK K (pv 1) rfl) (nomark _))))))), ?_⟩
    walk_at "g"
    refine i_inst ?_ hx' T.ic
    walk_at "g"
    refine ⟨x, _, dx, _, _, rfl, hx, T.cl, T.n_signs, rfl, ?_⟩
    walk_at "g"
    refine ⟨y, _, dx', _, _, rfl, hx', T.cl, T.n_signs, rfl, ?_⟩
    refine i_eq rfl ?_
    walk_at "g"
    refine i_dec (fun h => ?_) (fun h => ?_)
    · walk_at "g"
      refine ⟨x, _, dx, _, _, rfl, hx, T.cl, T.n_rows, rfl, ?_⟩
      walk_at "g"
      refine ⟨y, _, dx', _, _, rfl, hx', T.cl, T.n_rows, rfl, ?_⟩
      refine i_eqTT (SqT.of ht) (SqT.of ht') g.ok g'.ok ?_
      have e : z = z' := by injection h
      rw [decide_eq_true e, Bool.true_and] at k
      exact k
    · have e : ¬ z = z' := fun e => h (by rw [e])
      rw [decide_eq_false e, Bool.false_and] at k
      exact k
def spMul (K : PySem.W.Frag) : Sp := fun vs H Q _ => ∃ (x y : Addr) (z : Str) (m m' : Nat) (rows rows' : List Str), vs = [.ref x, .ref y] ∧ ChAt K H x z rows ∧ ChAt K H y z rows' ∧ Good z m rows ∧ Good z m' rows' ∧ m ≤ 1000 ∧ m' ≤ 1000 ∧
  ∀ a H', Same H H' → ChAt K H' a z (rows'.map (imOf z rows)) → Q (.ref a) H'
theorem img_over {z : Str} {m : Nat} {rows : List Str} (g : Good z m rows) (c : Nat) : ∀ d ∈ img z rows c, d ∈ toL z := by
  intro d hd
  unfold img at hd
  cases h : (toL z).idxOf? c with
  | none => rw [h] at hd; cases hd
  | some j =>
    rw [h] at hd
    have hd : d ∈ (match rows[j]? with
      | some r => toL r
      | none => []) := hd
    cases e : rows[j]? with
    | none => rw [e] at hd; cases hd
    | some r => rw [e] at hd; exact g.im.ov r (List.mem_of_getElem? e) d hd
theorem im_over {z : Str} {m : Nat} {rows : List Str} (g : Good z m rows) (r : Str) : Over z (imOf z rows r) := by
  intro c hc
  unfold imOf at hc
  rw [toL_ofL] at hc
  obtain ⟨d, _, h⟩ := List.mem_flatMap.mp hc
  exact img_over g d c h
theorem im_len {z : Str} {m : Nat} {rows : List Str} (g : Good z m rows) (r : Str) : (toL (imOf z rows r)).length ≤ (toL r).length * m := by
  unfold imOf
  rw [toL_ofL]
  exact Over.len (z := z) g.im.small (toL r)
theorem Good.mul {z : Str} {m m' : Nat} {rows rows' : List Str} (g : Good z m rows) (g' : Good z m' rows') : Good z (m' * m) (rows'.map (imOf z rows)) := by
  refine ⟨g.sg, by rw [List.length_map]; exact g'.im.len, fun x hx => ?_, fun x hx => ?_⟩
  · obtain ⟨y, hy, rfl⟩ := List.mem_map.mp hx
    exact im_over g y
  · obtain ⟨y, hy, rfl⟩ := List.mem_map.mp hx
    exact Nat.le_trans (im_len g y) (Nat.mul_le_mul_right _ (g'.im.small y hy))
theorem c_mul (T : Tx K mg) : Met P w K mg base 4 (cC K) "__mul__" (spMul K) [] := by
  have M_Change : Mak P w K mg base 2 "Change" (cC K) (spChange K) [] := c_Change T
  refine T.m_mul.met T.cl sc_ChangeD_mulD (fun vs H Q E h => ?_) (fun f cdv A outer s H vs Q E hr h => ?_)
  · obtain ⟨x, y, z, m, m', rows, rows', rfl, _⟩ := h
    rfl
  · obtain ⟨x, y, z, m, m', rows, rows', rfl, ⟨dx, t, d, kvs, hx, ht, hd, hi⟩, ⟨dx', t', d', kvs', hx', ht', hd', hi'⟩, g, g', m1, m2, k⟩ := h
    refine ⟨_, (pss_one (ps_ret (pe_mk M_Change hr (by decide) (by rfl) (pa_cons (pe_fldK K (pv 0) rfl) (pa_cons (pe_lc (own := [("row", 3)]) (g := gName 3) (tt := tYes) (by rfl) sc_ChangeD_mulD.nd (pi_tupK K (pe_fldK K (pv 1) rfl)) (blkOk_by (own := [("row", 3)]) (N := ["self", "other", "sign", "row"]) (sc := defScope s_ChangeD_mulD) (by decide +kernel)) (fun _ _ _ _ _ => (pg_name (i := 3) sc_ChangeD_mulD.nd rfl (Or.inl rfl))) (fun _ _ _ _ _ => pts_nil) (fun _ _ _ _ _ => (pe_joinK K pe_str (pe_lc (own := [("sign", 2)]) (g := gName 2) (tt := tYes) (by rfl) sc_ChangeD_mulD.nd (pi_str (pv 3)) (blkOk_by (own := [("sign", 2)]) (N := ["self", "other", "sign", "row"]) (by rfl)) (fun _ _ _ _ _ => (pg_name (i := 2) sc_ChangeD_mulD.nd rfl (Or.inl rfl))) (fun _ _ _ _ _ => pts_nil) (fun _ _ _ _ _ => (pe_dget (hu_of hr) (pe_fldK K (pv 0) rfl) (pv 2) (fun _ _ => rfl))))))) pa_nil))))), ?_⟩
    walk_at "g"
    refine ⟨x, _, dx, _, _, rfl, hx, T.cl, T.n_signs, rfl, ?_⟩
    walk_at "g"
    refine ⟨y, _, dx', _, _, rfl, hx', T.cl, T.n_rows, rfl, ?_⟩
    walk_at "g"
    refine ⟨⟨_, SqT.of ht'⟩, ?_⟩
    have zl := g.len
    refine lcS (walk_tup (K := K) (a := t') (xs := rows'.map V.str)) (fun i => V.str (imOf z rows (rows'.getD i ""))) (by rw [List.length_map, g'.im.len]; show _ ≤ 16777216; omega) (fun H3 s3 => SqT.of (s3 _ _ ht')) (fun i y H3 H4 C N hi0 s3 yy kC => ?_) fun D H3 nD s3 hD => ?_
    · obtain ⟨rfl, hy⟩ := yy
      rw [List.getElem?_map] at hy
      cases ey : rows'[i]? with
      | none => rw [ey] at hy; cases hy
      | some r =>
        rw [ey] at hy
        cases hy
        have hm := List.mem_of_getElem? ey
        have r1 : (toL r).length ≤ 1000 := Nat.le_trans (g'.im.small r hm) m2
        walk_at "g"
        refine ⟨rfl, ?_⟩
        walk_at "g"
        refine lcS (walk_str (z := r)) (fun i => V.str (ofL (img z rows ((toL r).getD i 0)))) (Nat.le_trans (Nat.le_of_eq (show r.cps.size = (toL r).length by simp)) (Nat.le_trans r1 (by decide))) (fun _ _ => trivial) (fun i y H5 H6 C N hi' s5 yy kC => ?_) fun D H5 nD s5 hD => ?_
        · obtain ⟨rfl, c, hc, rfl⟩ := yy
          walk_at "g"
          refine ⟨rfl, ?_⟩
          walk_at "g"
          refine ⟨x, _, dx, _, _, rfl, s5 _ _ (s3 _ _ hx), T.cl, T.n_images, rfl, ?_⟩
          walk_at "g"
          exact ⟨d, _, rfl, dget_img (s5 _ _ (s3 _ _ hd)) hi g (g'.im.ov r hm) hc, kC _ (Same.refl _)⟩
        · rw [range_img] at hD
          refine i_joinL (SqL.of hD) ?_ ?_
          · rw [sum_img]
            have := Over.len (z := z) g.im.small (toL r)
            show _ + _ * 0 ≤ 16777216
            have : (toL r).length * m ≤ 1000 * 1000 := Nat.mul_le_mul r1 m1
            omega
          · rw [join_img]
            have := kC _ s5
            rw [List.getD_eq_getElem?_getD, ey] at this
            exact this
    · rw [List.length_map, range_map rows' (fun r => V.str (imOf z rows r)) _ (fun i x h => by rw [List.getD_eq_getElem?_getD, h]; rfl)] at hD
      walk_at "g"
      intro y dy ny ndy ne
      refine mk_ch (m := m' * m) (rows := rows'.map (imOf z rows)) ny ndy ne (by rw [hD, List.map_map]; rfl) (g.mul g') (Nat.le_trans (Nat.mul_le_mul m2 m1) (by decide)) fun a H4 s4 c4 => ?_
      exact k a H4 (s3.trans s4) c4
end
end K03
namespace K03
open PySem PySem.Spec PyProof.Rows L2 AR C8
section
variable {z : Str} {m m1 m2 : Nat} {rows rows1 rows2 : List Str}
theorem toL_imOf (r : Str) : toL (imOf z rows r) = (toL r).flatMap (img z rows) := by unfold imOf; rw [toL_ofL]
/-- a sign of z: its place and its image -/
theorem img_in (g : Good z m rows) {c : Nat} (h : c ∈ toL z) : ∃ (j : Nat) (r : Str), (toL z)[j]? = some c ∧ rows[j]? = some r := by
  obtain ⟨j, hj⟩ := List.getElem?_of_mem h
  have hjl : j < rows.length := by rw [g.im.len]; exact (List.getElem?_eq_some_iff.mp hj).1
  exact ⟨j, _, hj, List.getElem?_eq_getElem hjl⟩
theorem flat_congr {l : List Nat} {f h : Nat → List Nat} (e : ∀ c ∈ l, f c = h c) : l.flatMap f = l.flatMap h := by
  induction l with
  | nil => rfl
  | cons a r ih => rw [List.flatMap_cons, List.flatMap_cons, e a (by simp), ih fun c hc => e c (List.mem_cons_of_mem _ hc)]
theorem img_map (g : Good z m rows) (F : Str → Str) {c : Nat} (h : c ∈ toL z) : ∃ r, r ∈ rows ∧ img z rows c = toL r ∧ img z (rows.map F) c = toL (F r) := by
  obtain ⟨j, r, h1, h2⟩ := img_in g h
  exact ⟨r, List.mem_of_getElem? h2, img_at g.nd h1 h2, img_at g.nd h1 (by rw [List.getElem?_map, h2]; rfl)⟩
theorem im_comp (g1 : Good z m1 rows1) (g2 : Good z m2 rows2) {r : Str} (ov : Over z r) : imOf z (rows2.map (imOf z rows1)) r = imOf z rows1 (imOf z rows2 r) := by
  apply str_ext
  rw [toL_imOf, toL_imOf, toL_imOf, List.flatMap_assoc]
  refine flat_congr fun c hc => ?_
  obtain ⟨x, _, h1, h2⟩ := img_map g2 (imOf z rows1) (ov c hc)
  rw [h1, h2, toL_imOf]
theorem rows_comp {rows3 : List Str} {m3 : Nat} (g1 : Good z m1 rows1) (g2 : Good z m2 rows2) (g3 : Good z m3 rows3) : rows3.map (imOf z (rows2.map (imOf z rows1))) = (rows3.map (imOf z rows2)).map (imOf z rows1) := by
  rw [List.map_map]
  exact List.map_congr_left fun x hx => im_comp g1 g2 (g3.im.ov x hx)
theorem im_add (a b : Str) : imOf z rows (a ++ b) = imOf z rows a ++ imOf z rows b := by
  apply str_ext
  rw [toL_append, toL_imOf, toL_imOf, toL_imOf, toL_append, List.flatMap_append]
theorem im_rev (g : Good z m rows) {r : Str} (ov : Over z r) : imOf z (rows.map revS) (revS r) = revS (imOf z rows r) := by
  apply str_ext
  rw [toL_revS, toL_imOf, toL_imOf, toL_revS, List.reverse_flatMap]
  refine flat_congr fun c hc => ?_
  obtain ⟨x, _, h1, h2⟩ := img_map g revS (ov c (List.mem_reverse.mp hc))
  show _ = (img z rows c).reverse
  rw [h1, h2, toL_revS]
theorem revS_revS (x : Str) : revS (revS x) = x := str_ext (by rw [toL_revS, toL_revS, List.reverse_reverse])
theorem rev_rev (rows : List Str) : (rows.map revS).map revS = rows := by
  rw [List.map_map]
  have : (revS ∘ revS) = id := funext revS_revS
  rw [this, List.map_id]
theorem rows_rev (g1 : Good z m1 rows1) (g2 : Good z m2 rows2) : (rows2.map (imOf z rows1)).map revS = (rows2.map revS).map (imOf z (rows1.map revS)) := by
  rw [List.map_map, List.map_map]
  exact List.map_congr_left fun x hx => (im_rev g1 (g2.im.ov x hx)).symm
theorem im_nil : imOf z rows "" = "" := by
  apply str_ext
  rw [toL_imOf]
  rfl
/-- the plain images, the void ones -/
def plainOf (z : Str) : List Str := (toL z).map fun c => (⟨#[c]⟩ : Str)
def voidOf (z : Str) : List Str := List.replicate (toL z).length ""
theorem good_plain (g : Good z m rows) : Good z 1 (plainOf z) := by
  refine ⟨g.sg, by unfold plainOf; rw [List.length_map], fun x hx => ?_, fun x hx => ?_⟩
  · obtain ⟨c, hc, rfl⟩ := List.mem_map.mp hx
    intro d hd
    have : d = c := by simpa using hd
    rw [this]; exact hc
  · obtain ⟨c, hc, rfl⟩ := List.mem_map.mp hx
    exact Nat.le_refl 1
theorem good_void (g : Good z m rows) : Good z 0 (voidOf z) := by
  refine ⟨g.sg, by unfold voidOf; rw [List.length_replicate], fun x hx => ?_, fun x hx => ?_⟩
  · rw [List.eq_of_mem_replicate hx]; intro d hd; cases hd
  · rw [List.eq_of_mem_replicate hx]; exact Nat.zero_le _
theorem img_plain (g : Good z m rows) {c : Nat} (h : c ∈ toL z) : img z (plainOf z) c = [c] := by
  obtain ⟨j, hj⟩ := List.getElem?_of_mem h
  rw [img_at (r := ⟨#[c]⟩) g.nd hj (by unfold plainOf; rw [List.getElem?_map, hj]; rfl)]
theorem im_plain (g : Good z m rows) {r : Str} (ov : Over z r) : imOf z (plainOf z) r = r := by
  apply str_ext
  rw [toL_imOf, flat_congr (h := fun c => [c]) fun c hc => img_plain g (ov c hc)]
  simp
theorem img_void (g : Good z m rows) (c : Nat) : img z (voidOf z) c = [] := by
  have := img_len (z := z) (good_void g).im.small c
  exact List.eq_nil_of_length_eq_zero (by omega)
theorem im_void (g : Good z m rows) (r : Str) : imOf z (voidOf z) r = "" := by
  apply str_ext
  rw [toL_imOf, flat_congr (h := fun c => []) fun c hc => img_void g c]
  show _ = []
  exact List.flatMap_eq_nil_iff.mpr fun c _ => rfl
theorem mul_plain (g : Good z m rows) : (plainOf z).map (imOf z rows) = rows := by
  apply List.ext_getElem?
  intro j
  unfold plainOf
  rw [List.map_map, List.getElem?_map]
  cases h : (toL z)[j]? with
  | none =>
    rw [List.getElem?_eq_none_iff, ← g.im.len] at h
    rw [List.getElem?_eq_none h]; rfl
  | some c =>
    have hjl : j < rows.length := by rw [g.im.len]; exact (List.getElem?_eq_some_iff.mp h).1
    have hr := List.getElem?_eq_getElem hjl
    rw [hr]
    show some (imOf z rows ⟨#[c]⟩) = some rows[j]
    congr 1
    apply str_ext
    rw [toL_imOf]
    show [c].flatMap _ = _
    rw [List.flatMap_singleton, img_at g.nd h hr]
theorem plain_mul (g : Good z m rows) : rows.map (imOf z (plainOf z)) = rows := by
  conv => rhs; rw [← List.map_id rows]
  exact List.map_congr_left fun x hx => im_plain g (g.im.ov x hx)
theorem void_mul (g : Good z m rows) : rows.map (imOf z (voidOf z)) = voidOf z := by
  rw [List.map_congr_left (g := fun _ => ("" : Str)) fun x hx => im_void g x, List.map_const', g.im.len]
  rfl
theorem mul_void (rows : List Str) : (voidOf z).map (imOf z rows) = voidOf z := by
  unfold voidOf
  rw [List.map_replicate, im_nil]
end
theorem menu_sg : ∀ z ∈ menu, areSigns z = true := by decide +kernel
/-! ### the law's steps -/
section
variable {K : PySem.W.Frag} {H : Hp} {Q : VK} {x y : Addr} {z : Str} {rows rows' : List Str} {m m' : Nat}
theorem u_mul (hx : ChAt K H x z rows) (hy : ChAt K H y z rows') (g : Good z m rows) (g' : Good z m' rows') (h1 : m ≤ 1000) (h2 : m' ≤ 1000) (k : ∀ a H', Same H H' → ChAt K H' a z (rows'.map (imOf z rows)) → Q (.ref a) H') : rOwnI (cC K) (spMul K) (.ref x) (.ref y) H Q := by
  obtain ⟨dx, t, d, kvs, hx1, hx2⟩ := id hx
  obtain ⟨dy, t', d', kvs', hy1, hy2⟩ := id hy
  exact ⟨x, dx, _, y, dy, _, rfl, rfl, hx1, hy1, x, y, z, m, m', rows, rows', rfl, hx, hy, g, g', h1, h2, k⟩
theorem u_ne (hx : ChAt K H x z rows) (hy : ChAt K H y z rows') (g : Good z m rows) (g' : Good z m' rows') (e : rows = rows') (k : Q (.bl false) H) : rOwnN (cC K) (spEq K) (.ref x) (.ref y) H Q := by
  obtain ⟨dx, t, d, kvs, hx1, hx2⟩ := id hx
  obtain ⟨dy, t', d', kvs', hy1, hy2⟩ := id hy
  refine ⟨x, dx, _, y, dy, _, rfl, rfl, hx1, hy1, x, y, z, z, m, m', rows, rows', rfl, hx, hy, g, g', _, rfl, ?_⟩
  rw [decide_eq_true e, decide_eq_true rfl]
  exact k
theorem u_rc {F : Prop} {n : Str} (hx : ChAt K H x z rows) (hn : ∀ a b c : V, List.lookup n [(("signs" : Str), a), ("rows", b), ("images", c)] = none) (k : F) : ∃ a dx fs, V.ref x = .ref a ∧ H a = some (.ins (cC K) dx fs) ∧ fs.lookup n = none ∧ F := by
  obtain ⟨dx, t, d, kvs, hx1, hx2⟩ := hx
  exact ⟨x, dx, _, rfl, hx1, hn _ _ _, k⟩
theorem u_of {r : Str} (hx : ChAt K H x z rows) (g : Good z m rows) (h1 : m ≤ 1000) (ov : Over z r) (hr : (toL r).length ≤ 10000) (k : ∀ H', Same H H' → Q (.str (imOf z rows r)) H') : spOf K [.ref x, .str r] H Q C8.E0 :=
  ⟨x, z, r, m, rows, rfl, hx, g, h1, ov, hr, k⟩
theorem u_image {r : Str} {l : Addr} (hl : SqL K H l (rows.map V.str)) (g : Good z m rows) (h1 : m ≤ 1000) (ov : Over z r) (hr : (toL r).length ≤ 10000) (k : ∀ H', Same H H' → Q (.str (imOf z rows r)) H') : spImage K [.str z, .ref l, .str r] H Q C8.E0 :=
  ⟨z, r, l, rows, rfl, hl, g.nd, g.im.len, ov, hr, fun x hx => Nat.le_trans (g.im.small x hx) h1, k⟩
theorem u_neS {a b : Str} (e : a = b) (k : Q (.bl false) H) : rNe (.str a) (.str b) H Q := by
  subst e
  refine i_ne rfl ?_
  rw [decide_eq_true rfl]
  exact k
theorem u_add {a b : Str} (h : a.length + b.length ≤ sizeLine) (k : Q (.str (a ++ b)) H) : ∃ i j, V.str a = .str i ∧ V.str b = .str j ∧ i.length + j.length ≤ sizeLine ∧ Q (.str (i ++ j)) H := ⟨a, b, rfl, rfl, h, k⟩
theorem over_add {a b : Str} (ha : Over z a) (hb : Over z b) : Over z (a ++ b) := by
  intro c hc
  rw [toL_append] at hc
  rcases List.mem_append.mp hc with q | q
  · exact ha c q
  · exact hb c q
theorem over_rev {a : Str} (ha : Over z a) : Over z (revS a) := by
  intro c hc
  rw [toL_revS] at hc
  exact ha c (List.mem_reverse.mp hc)
theorem mk_chR {R : Hp → Prop} {x dx l : Addr} (nx : H x = none) (nd : H dx = none) (ne : dx ≠ x) (hl : H l = some (.lst (rows.map V.str))) (g : Good z m rows) (hm : m ≤ 1000000) (k : ∀ H', Same H H' → ChAt K H' x z rows → R H') :
    spChange K [.ref x, .str z, .ref l] (upd (upd H dx (.own x)) x (.ins (cC K) dx [])) (fun v H2 => v = .non ∧ R H2) C8.E0 := by
  generalize hE : upd _ _ _ = H1
  obtain ⟨s1, hx⟩ := newI nx nd ne hE
  exact ⟨x, dx, l, z, m, rows, rfl, hx, s1 _ _ hl, g, hm, fun H' o c => ⟨rfl, k H' (fun a u ha => o a u (s1 _ _ ha) (ne_of_none ha nx)) c⟩⟩
theorem u_tu (hx : ChAt K H x z rows) (g : Good z m rows) (h1 : m ≤ 1000) (k : ∀ y H', Same H H' → ChAt K H' y z (rows.map revS) → Q (.ref y) H') : spTurned K [.ref x] H Q C8.E0 :=
  ⟨x, z, m, rows, rfl, hx, g, h1, k⟩
end
end K03
local macro_rules | `(tactic| walk_at "ch") => `(tactic| first | assumption | ((with_reducible refine' K03.ChAt.same ?hh ?kk); (case kk => assumption); (case hh => walk_at "ch")) | ((with_reducible refine' K03.ChAt.keep ?hh ?kk); (case kk => assumption); (case hh => walk_at "ch")))
local macro_rules | `(tactic| walk_at "rc") => `(tactic| refine K03.u_rc (by walk_at "ch") (by intros; rfl) ?_)
namespace K03
open PySem PySem.Spec PyProof.Rows L2 AR C8
def StA (a : Addr) (σ : L2.St) : Prop := ∃ v1 v2 v3 v4 v5 v6 v7 v8 v9 v10 v11 v12 v13 v14 v15 v16 v17 v18 : Option V, σ = [some (.ref a), v1, v2, v3, v4, v5, v6, v7, v8, v9, v10, v11, v12, v13, v14, v15, v16, v17, v18]
def StB (a b : Addr) (σ : L2.St) : Prop := ∃ v1 v3 v4 v5 v6 v7 v8 v9 v10 v11 v12 v13 v14 v15 v16 v17 v18 : Option V, σ = [some (.ref a), v1, some (.ref b), v3, v4, v5, v6, v7, v8, v9, v10, v11, v12, v13, v14, v15, v16, v17, v18]
theorem StB.a {a b : Addr} {σ : L2.St} (h : StB a b σ) : StA a σ := by
  obtain ⟨v1, v3, v4, v5, v6, v7, v8, v9, v10, v11, v12, v13, v14, v15, v16, v17, v18, rfl⟩ := h
  exact ⟨_, _, _, _, _, _, _, _, _, _, _, _, _, _, _, _, _, _, rfl⟩
/-- a change away from D -/
def ChO (K : PySem.W.Frag) (D : Addr) (H : Hp) (a : Addr) (z : Str) (rows : List Str) : Prop := ∃ dx t d kvs, a ≠ D ∧ t ≠ D ∧ d ≠ D ∧ H a = some (.ins (cC K) dx [("signs", .str z), ("rows", .ref t), ("images", .ref d)]) ∧ H t = some (.tup (rows.map V.str)) ∧ H d = some (.dK kvs) ∧ ImgD kvs z rows
theorem ChO.ch {K : PySem.W.Frag} {D a : Addr} {H : Hp} {z : Str} {rows : List Str} (h : ChO K D H a z rows) : ChAt K H a z rows := by
  obtain ⟨dx, t, d, kvs, _, _, _, h⟩ := h
  exact ⟨dx, t, d, kvs, h⟩
theorem ChAt.off {K : PySem.W.Frag} {D a : Addr} {H : Hp} {z : Str} {rows : List Str} {xs : List V} (h : ChAt K H a z rows) (hD : H D = some (.lst xs)) : ChO K D H a z rows := by
  obtain ⟨dx, t, d, kvs, h1, h2, h3, h4⟩ := h
  exact ⟨dx, t, d, kvs, fun e => (by rw [e, hD] at h1; cases h1), fun e => (by rw [e, hD] at h2; cases h2), fun e => (by rw [e, hD] at h3; cases h3), h1, h2, h3, h4⟩
theorem ChO.keep {K : PySem.W.Frag} {D a : Addr} {H H' : Hp} {z : Str} {rows : List Str} (h : ChO K D H a z rows) (k : Keep H H') : ChO K D H' a z rows := by
  obtain ⟨dx, t, d, kvs, n1, n2, n3, h1, h2, h3, h4⟩ := h
  exact ⟨dx, t, d, kvs, n1, n2, n3, k.st _ _ h1 nb_ins, k.st _ _ h2 nb_tup, k.st _ _ h3 nb_dK, h4⟩
theorem ChO.mut {K : PySem.W.Frag} {D a : Addr} {H : Hp} {o : HO} {z : Str} {rows : List Str} (h : ChO K D H a z rows) : ChO K D (upd H D o) a z rows := by
  obtain ⟨dx, t, d, kvs, n1, n2, n3, h1, h2, h3, h4⟩ := h
  exact ⟨dx, t, d, kvs, n1, n2, n3, by rw [upd_ne n1]; exact h1, by rw [upd_ne n2]; exact h2, by rw [upd_ne n3]; exact h3, h4⟩
theorem menu_len : ∀ z ∈ menu, 0 < (toL z).length ∧ (toL z).length ≤ 1000 := by decide +kernel
section
variable {P : Program} {w : World} {K : PySem.W.Frag} {mg : Str → Option Value} {base : Heap}
def spLaw (K : PySem.W.Frag) : Sp := fun vs H Q _ => ∃ (a : Addr) (ns : List Int), vs = [.ref a] ∧ Scr K H a (ns.map V.int) ∧ ∀ H', Q (.bl true) H'
theorem ok_law (T : Tx K mg) {f : Addr} {fd : FuncData} (F : FunD K "law" "law" (defArgs s_law) (defBody s_law) (defScope s_law) [] [] f fd) : FnOk P w K mg base L2.CX0 6 f fd ["_law_script"] (spLaw K) := by
  have C_w_seed : Cal P w K mg base 1 "_law_seed" (spSeed K) [] := c_seed T
  have C_w_signs : Cal P w K mg base 3 "_law_signs" spSigns [] := c_signs T
  have C_w_row : Cal P w K mg base 3 "_law_row" spRow [] := c_row T
  have C_w_images : Cal P w K mg base 4 "_law_images" spImages [] := c_images T
  have C_w_image : Cal P w K mg base 1 "_law_image" (spImage K) [] := c_image T
  have M_Change : Mak P w K mg base 2 "Change" (cC K) (spChange K) [] := c_Change T
  have M_Change_of : Met P w K mg base 1 (cC K) "of" (spOf K) [] := c_of T
  have M_Change_turned : Met P w K mg base 4 (cC K) "turned" (spTurned K) [] := c_turned T
  have M_Change_mul : Met P w K mg base 4 (cC K) "__mul__" (spMul K) [] := c_mul T
  have M_Change_eq : Met P w K mg base 1 (cC K) "__eq__" (spEq K) [] := c_eq T
  refine F.ok sc_law (fun vs H Q E h => ?_) (fun cdv A outer s H vs Q E hr h => ?_)
  · obtain ⟨a, ns, rfl, _⟩ := h
    rfl
  · obtain ⟨a, ns, rfl, hS, k⟩ := h
    refine ⟨_, PSs.nox (pss_cons (ps_for PassesOwn.never rfl (pi_range1 (by rfl) T.b_range (pa_cons (pe_callB (call_max2 rfl) (by rfl) T.b_max (by decide +kernel) (pa_cons pe_int (pa_cons (pe_callB (call_min2 rfl) (by rfl) T.b_min (by decide +kernel) (pa_cons pe_int (pa_cons (pe_callB (call_lenK K) (by rfl) T.b_len (by decide +kernel) (pa_cons (pv 0) pa_nil)) pa_nil))) pa_nil))) pa_nil)) (pg_name (i := 1) sc_law.nd rfl (Or.inl rfl))
      (pss_cons (ps_set (i := 2) sc_law.nd rfl (Or.inr rfl) (pe_c C_w_seed hr (by decide) (by rfl) (pa_cons (pv 0) (pa_cons (pv 1) pa_nil))))
      (pss_one (ps_for PassesOwn.never rfl (pi_range1 (by rfl) T.b_range (pa_cons pe_int pa_nil)) (pg_name (i := 3) sc_law.nd rfl (Or.inl rfl))
      (pss_cons (ps_set (i := 4) sc_law.nd rfl (Or.inr rfl) (pe_c C_w_signs hr (by decide) (by rfl) (pa_cons (pv 2) pa_nil)))
      (pss_cons (ps_set (i := 5) sc_law.nd rfl (Or.inr rfl) (pe_lc (own := [("_law_more", 6)]) (g := gName 6) (tt := tYes) (by rfl) sc_law.nd (pi_range1 (by rfl) T.b_range (pa_cons pe_int pa_nil)) (blkOk_by (own := [("_law_more", 6)]) (N := ["_law_script", "_law_k", "_law_box", "_law_turn", "_law_signs_here", "_law_drawn", "_law_more", "_law_one", "_law_two", "_law_three", "_law_images_here", "_law_row_here", "_law_tail", "_law_inner", "_law_both", "_law_image_here", "_law_plain", "_law_void", "_law_sign"]) (sc := defScope s_law) (by decide +kernel)) (fun _ _ _ _ _ => (pg_name (i := 6) sc_law.nd rfl (Or.inl rfl))) (fun _ _ _ _ _ => pts_nil) (fun _ _ _ _ _ => (pe_c C_w_images hr (by decide) (by rfl) (pa_cons (pv 2) (pa_cons (pv 4) (pa_cons pe_int pa_nil)))))))
      (pss_cons (ps_asg (pe_lc (own := [("_law_images_here", 10)]) (g := gName 10) (tt := tYes) (by rfl) sc_law.nd (pi_listK K (pv 5)) (blkOk_by (own := [("_law_images_here", 10)]) (N := ["_law_script", "_law_k", "_law_box", "_law_turn", "_law_signs_here", "_law_drawn", "_law_more", "_law_one", "_law_two", "_law_three", "_law_images_here", "_law_row_here", "_law_tail", "_law_inner", "_law_both", "_law_image_here", "_law_plain", "_law_void", "_law_sign"]) (sc := defScope s_law) (by decide +kernel)) (fun _ _ _ _ _ => (pg_name (i := 10) sc_law.nd rfl (Or.inl rfl))) (fun _ _ _ _ _ => pts_nil) (fun _ _ _ _ _ => (pe_mk M_Change hr (by decide) (by rfl) (pa_cons (pv 4) (pa_cons (pv 10) pa_nil))))) (pg_uK (n := 3) K (by rfl) (pgs_cons (pg_name (i := 7) sc_law.nd rfl (Or.inl rfl)) (pgs_cons (pg_name (i := 8) sc_law.nd rfl (Or.inl rfl)) (pgs_cons (pg_name (i := 9) sc_law.nd rfl (Or.inl rfl)) pgs_nil)))))
      (pss_cons (ps_par (i := 11) (j := 12) (by rfl) sc_law.nd rfl rfl (by decide) rfl rfl (pa_cons (pe_c C_w_row hr (by decide) (by rfl) (pa_cons (pv 2) (pa_cons (pv 4) (pa_cons pe_int pa_nil)))) (pa_cons (pe_c C_w_row hr (by decide) (by rfl) (pa_cons (pv 2) (pa_cons (pv 4) (pa_cons pe_int pa_nil)))) pa_nil)) (by rfl))
      (pss_cons (ps_set (i := 13) sc_law.nd rfl (Or.inl rfl) (pe_c C_w_image hr (by decide) (by rfl) (pa_cons (pv 4) (pa_cons (pe_ix (ix_listK K) (pv 5) pe_int (fun _ _ => rfl)) (pa_cons (pv 11) pa_nil)))))
      (pss_cons (ps_set (i := 14) sc_law.nd rfl (Or.inl rfl) (pe_op (op_ownB M_Change_mul T.sf_Change hr (by decide)) (pv 7) (pv 8)))
      (pss_cons (ps_if (PW.pt (pw_or (pt_cmpR op_ne (pe_mt M_Change_of hr (by decide) (pv 8) (pa_cons (pv 11) pa_nil)) (pv 13) (nomark _)) (pw_or1 (pt_cmpR op_ne (pe_mt M_Change_of hr (by decide) (pv 14) (pa_cons (pv 11) pa_nil)) (pe_c C_w_image hr (by decide) (by rfl) (pa_cons (pv 4) (pa_cons (pe_ix (ix_listK K) (pv 5) pe_int (fun _ _ => rfl)) (pa_cons (pv 13) pa_nil)))) (nomark _))))) (pss_one (ps_ret pe_bl)) pss_nil)
      (pss_cons (ps_if (pt_cmpR (op_neDK K hr.units) (pe_callTy (call_listK K) (by rfl) T.b_list (by decide +kernel) (pa_cons (pe_fldK K (pe_op (op_ownB M_Change_mul T.sf_Change hr (by decide)) (pv 7) (pv 8)) rfl) pa_nil)) (pe_lc (own := [("_law_image_here", 15)]) (g := gName 15) (tt := tYes) (by rfl) sc_law.nd (pi_listK K (pe_ix (ix_listK K) (pv 5) pe_int (fun _ _ => rfl))) (blkOk_by (own := [("_law_image_here", 15)]) (N := ["_law_script", "_law_k", "_law_box", "_law_turn", "_law_signs_here", "_law_drawn", "_law_more", "_law_one", "_law_two", "_law_three", "_law_images_here", "_law_row_here", "_law_tail", "_law_inner", "_law_both", "_law_image_here", "_law_plain", "_law_void", "_law_sign"]) (sc := defScope s_law) (by decide +kernel)) (fun _ _ _ _ _ => (pg_name (i := 15) sc_law.nd rfl (Or.inl rfl))) (fun _ _ _ _ _ => pts_nil) (fun _ _ _ _ _ => (pe_c C_w_image hr (by decide) (by rfl) (pa_cons (pv 4) (pa_cons (pe_ix (ix_listK K) (pv 5) pe_int (fun _ _ => rfl)) (pa_cons (pv 15) pa_nil)))))) (nomark _)) (pss_one (ps_ret pe_bl)) pss_nil)
      (pss_cons (ps_if (PW.pt (pw_or (pt_cmpR (op_ownNe M_Change_eq T.ne_Change T.mr_Change hr (by decide)) (pe_op (op_ownB M_Change_mul T.sf_Change hr (by decide)) (pe_op (op_ownB M_Change_mul T.sf_Change hr (by decide)) (pv 7) (pv 8)) (pv 9)) (pe_op (op_ownB M_Change_mul T.sf_Change hr (by decide)) (pv 7) (pe_op (op_ownB M_Change_mul T.sf_Change hr (by decide)) (pv 8) (pv 9))) (nomark _)) (pw_or1 (pt_cmpR op_ne (pe_mt M_Change_of hr (by decide) (pv 8) (pa_cons (pe_op op_add_str (pv 11) (pv 12)) pa_nil)) (pe_op op_add_str (pe_mt M_Change_of hr (by decide) (pv 8) (pa_cons (pv 11) pa_nil)) (pe_mt M_Change_of hr (by decide) (pv 8) (pa_cons (pv 12) pa_nil))) (nomark _))))) (pss_one (ps_ret pe_bl)) pss_nil)
      (pss_cons (ps_if (PW.pt (pw_or (pt_cmpR op_ne (pe_mt M_Change_of hr (by decide) (pe_mt0 M_Change_turned hr (by decide) (pv 8)) (pa_cons (pe_revS (pv 11) (pe_op op_sub pe_int pe_int)) pa_nil)) (pe_revS (pe_mt M_Change_of hr (by decide) (pv 8) (pa_cons (pv 11) pa_nil)) (pe_op op_sub pe_int pe_int)) (nomark _)) (pw_or1 (pt_cmpR (op_ownNe M_Change_eq T.ne_Change T.mr_Change hr (by decide)) (pe_mt0 M_Change_turned hr (by decide) (pe_mt0 M_Change_turned hr (by decide) (pv 8))) (pv 8) (nomark _))))) (pss_one (ps_ret pe_bl)) pss_nil)
      (pss_cons (ps_if (PW.pt (pw_or (pt_cmpR (op_ownNe M_Change_eq T.ne_Change T.mr_Change hr (by decide)) (pe_mt0 M_Change_turned hr (by decide) (pe_op (op_ownB M_Change_mul T.sf_Change hr (by decide)) (pv 7) (pv 8))) (pe_op (op_ownB M_Change_mul T.sf_Change hr (by decide)) (pe_mt0 M_Change_turned hr (by decide) (pv 7)) (pe_mt0 M_Change_turned hr (by decide) (pv 8))) (nomark _)) (pw_or1 (pt_cmpR op_ne (pe_mt M_Change_of hr (by decide) (pv 8) (pa_cons pe_str pa_nil)) pe_str (nomark _))))) (pss_one (ps_ret pe_bl)) pss_nil)
      (pss_cons (ps_par (i := 16) (j := 17) (by rfl) sc_law.nd rfl rfl (by decide) rfl rfl (pa_cons (pe_mk M_Change hr (by decide) (by rfl) (pa_cons (pv 4) (pa_cons (pe_callTy (call_listT rfl) (by rfl) T.b_list (by decide +kernel) (pa_cons (pv 4) pa_nil)) pa_nil))) (pa_cons (pe_mk M_Change hr (by decide) (by rfl) (pa_cons (pv 4) (pa_cons (pe_lc (own := [("_law_sign", 18)]) (g := gName 18) (tt := tYes) (by rfl) sc_law.nd (pi_str (pv 4)) (blkOk_by (own := [("_law_sign", 18)]) (N := ["_law_script", "_law_k", "_law_box", "_law_turn", "_law_signs_here", "_law_drawn", "_law_more", "_law_one", "_law_two", "_law_three", "_law_images_here", "_law_row_here", "_law_tail", "_law_inner", "_law_both", "_law_image_here", "_law_plain", "_law_void", "_law_sign"]) (sc := defScope s_law) (by decide +kernel)) (fun _ _ _ _ _ => (pg_name (i := 18) sc_law.nd rfl (Or.inl rfl))) (fun _ _ _ _ _ => pts_nil) (fun _ _ _ _ _ => pe_str)) pa_nil))) pa_nil)) (by rfl))
      (pss_cons (ps_if (PW.pt (pw_or (pt_cmpR (op_ownNe M_Change_eq T.ne_Change T.mr_Change hr (by decide)) (pe_op (op_ownB M_Change_mul T.sf_Change hr (by decide)) (pv 7) (pv 16)) (pv 7) (nomark _)) (pw_or (pt_cmpR (op_ownNe M_Change_eq T.ne_Change T.mr_Change hr (by decide)) (pe_op (op_ownB M_Change_mul T.sf_Change hr (by decide)) (pv 16) (pv 7)) (pv 7) (nomark _)) (pw_or (pt_cmpR (op_ownNe M_Change_eq T.ne_Change T.mr_Change hr (by decide)) (pe_op (op_ownB M_Change_mul T.sf_Change hr (by decide)) (pv 17) (pv 7)) (pv 17) (nomark _)) (pw_or1 (pt_cmpR (op_ownNe M_Change_eq T.ne_Change T.mr_Change hr (by decide)) (pe_op (op_ownB M_Change_mul T.sf_Change hr (by decide)) (pv 7) (pv 17)) (pv 17) (nomark _))))))) (pss_one (ps_ret pe_bl)) pss_nil)
      (pss_one (ps_if (PW.pt (pw_or (pt_cmpR op_ne (pe_mt M_Change_of hr (by decide) (pv 16) (pa_cons (pv 11) pa_nil)) (pv 11) (nomark _)) (pw_or1 (pt_cmpR op_ne (pe_mt M_Change_of hr (by decide) (pv 17) (pa_cons (pv 11) pa_nil)) pe_str (nomark _))))) (pss_one (ps_ret pe_bl)) pss_nil)))))))))))))))))))
      (pss_one (ps_ret pe_bl))), ?_⟩
    walk_at "g"
    generalize hL : ((List.map V.int ns).length : Int) = L
    generalize hM : (if (if L < 3 then L else 3) > 1 then (if L < 3 then L else 3) else 1) = M
    have hM3 : 1 ≤ M ∧ M ≤ 3 := by
      rw [← hM]
      constructor <;> ((repeat' split) <;> omega)
    refine ⟨by omega, by omega, ?_⟩
    refine for_it (walk_range (lo := 0) (n := M.toNat)) (fun i σ H' => StA a σ ∧ Scr K H' a (ns.map V.int)) ⟨⟨_, _, _, _, _, _, _, _, _, _, _, _, _, _, _, _, _, _, rfl⟩, hS⟩ (fun _ _ _ _ _ => trivial) ?_ ?_
    · rintro i x σ H1 H1' hi ⟨⟨v1, v2, v3, v4, v5, v6, v7, v8, v9, v10, v11, v12, v13, v14, v15, v16, v17, v18, rfl⟩, hS1⟩ ⟨rfl, rfl⟩
      walk_at "g"
      refine ⟨a, ns, _, rfl, by walk_at "h", by omega, by omega, fun b H2 nb k2 hb => ?_⟩
      walk_at "g"
      refine ⟨by decide, by decide, ?_⟩
      refine for_it (walk_range (lo := 0) (n := 4)) (fun i σ H' => StB a b σ ∧ Keep H2 H') ⟨⟨_, _, _, _, _, _, _, _, _, _, _, _, _, _, _, _, _, rfl⟩, Keep.refl _⟩ (fun _ _ _ _ _ => trivial) ?_ ?_
      · rintro j x σ H3 H3' hj ⟨⟨w1, w3, w4, w5, w6, w7, w8, w9, w10, w11, w12, w13, w14, w15, w16, w17, w18, rfl⟩, k3⟩ ⟨rfl, rfl⟩
        walk_at "g"
        refine ⟨b, rfl, hb.keep k3, fun z H4 hz k4 => ?_⟩
        have sg := menu_sg z hz
        have zl := menu_len z hz
        walk_at "g"
        refine ⟨by decide, by decide, ?_⟩
        refine lcH (walk_range (lo := 0) (n := 3)) (fun D _ Hc y => ∃ l rows, y = .ref l ∧ l ≠ D ∧ Hc l = some (.lst (rows.map V.str)) ∧ Imgs z 3 rows) (by decide) ?_ ?_ ?_ (fun _ _ => trivial) ?_ ?_
        · rintro D i Hc Hd y kk ⟨l, rows, rfl, n1, h1, h2⟩
          exact ⟨l, rows, rfl, n1, kk.st _ _ h1 nb_strs, h2⟩
        · rintro D i Hc o y ⟨l, rows, rfl, n1, h1, h2⟩
          exact ⟨l, rows, rfl, n1, by rw [upd_ne n1]; exact h1, h2⟩
        · rintro D i Hc y ⟨l, rows, rfl, _⟩
          exact ⟨l, rfl⟩
        · rintro D acc i x H5 H5' C N hi k5 nD hD ⟨rfl, rfl⟩ kC
          walk_at "g"
          refine ⟨rfl, ?_⟩
          walk_at "g"
          refine ⟨b, z, 3, rfl, by walk_at "h", zl.1, zl.2, by decide, by decide, fun l rows H6 nl k6 hl im => ?_⟩
          exact kC _ _ ⟨l, rows, rfl, fun e => (by rw [e, hD] at nl; cases nl), hl, im⟩ k6
        · intro D H5 ys nD k5 hD hlen hy
          obtain ⟨y1, y2, y3, rfl⟩ := len3 hlen
          obtain ⟨l1, rows1, rfl, _, hl1, im1⟩ := hy 0 _ rfl
          obtain ⟨l2, rows2, rfl, _, hl2, im2⟩ := hy 1 _ rfl
          obtain ⟨l3, rows3, rfl, _, hl3, im3⟩ := hy 2 _ rfl
          have g1 : Good z 3 rows1 := ⟨sg, im1⟩
          have g2 : Good z 3 rows2 := ⟨sg, im2⟩
          have g3 : Good z 3 rows3 := ⟨sg, im3⟩
          walk_at "g"
          refine ⟨⟨_, SqL.of hD⟩, ?_⟩
          refine lcH (walk_list (K := K) (a := D) (xs := [.ref l1, .ref l2, .ref l3])) (fun D' i Hc y => ∃ x rr, y = .ref x ∧ [rows1, rows2, rows3][i]? = some rr ∧ ChO K D' Hc x z rr) (by show 3 ≤ sizeLine; decide) ?_ ?_ ?_ (fun H6 k6 => SqL.of (k6.st _ _ hD nb_ref1)) ?_ ?_
          · rintro D' i Hc Hd y kk ⟨x, rr, rfl, e, h1⟩
            exact ⟨x, rr, rfl, e, h1.keep kk⟩
          · rintro D' i Hc o y ⟨x, rr, rfl, e, h1⟩
            exact ⟨x, rr, rfl, e, h1.mut⟩
          · rintro D' i Hc y ⟨x, rr, rfl, _⟩
            exact ⟨x, rfl⟩
          · rintro D' acc i x H6 H6' C N hi k6 nD' hD' ⟨rfl, hx⟩ kC
            obtain ⟨l, rr, rfl, e2, hl, im⟩ : ∃ l rr, x = .ref l ∧ [rows1, rows2, rows3][i]? = some rr ∧ H5 l = some (.lst (rr.map V.str)) ∧ Imgs z 3 rr := by
              have hi : i < 3 := hi
              match i, hi with
              | 0, _ => cases hx; exact ⟨_, _, rfl, rfl, hl1, im1⟩
              | 1, _ => cases hx; exact ⟨_, _, rfl, rfl, hl2, im2⟩
              | 2, _ => cases hx; exact ⟨_, _, rfl, rfl, hl3, im3⟩
            walk_at "g"
            refine ⟨rfl, ?_⟩
            walk_at "g"
            intro x dx nx ndx ne
            refine mk_ch nx ndx ne (k6.st _ _ hl nb_strs) ⟨sg, im⟩ (by decide) fun x' H7 s7 c7 => ?_
            exact kC _ _ ⟨x', rr, rfl, e2, c7.off (s7 _ _ hD')⟩ (Keep.same s7)
          · intro D' H6 ys nD' k6 hD' hlen' hy'
            obtain ⟨y1, y2, y3, rfl⟩ := len3 hlen'
            obtain ⟨a1, rr, rfl, e, c1⟩ := hy' 0 _ rfl
            cases e
            obtain ⟨a2, rr, rfl, e, c2⟩ := hy' 1 _ rfl
            cases e
            obtain ⟨a3, rr, rfl, e, c3⟩ := hy' 2 _ rfl
            cases e
            replace c1 := c1.ch
            replace c2 := c2.ch
            replace c3 := c3.ch
            refine i_unl (SqL.of hD') rfl ?_
            walk_at "g"
            refine ⟨b, z, 9, rfl, by walk_at "h", zl.1, zl.2, by decide, by decide, fun r H7 ov rl k7 => ?_⟩
            walk_at "g"
            refine ⟨b, z, 5, rfl, by walk_at "h", zl.1, zl.2, by decide, by decide, fun tl H8 ovt tll k8 => ?_⟩
            have hD8 : H8 D = some (.lst [.ref l1, .ref l2, .ref l3]) := by walk_at "h"
            have hl18 : H8 l1 = some (.lst (rows1.map V.str)) := by walk_at "h"
            have hl28 : H8 l2 = some (.lst (rows2.map V.str)) := by walk_at "h"
            have c18 : ChAt K H8 a1 z rows1 := by walk_at "ch"
            have c28 : ChAt K H8 a2 z rows2 := by walk_at "ch"
            have c38 : ChAt K H8 a3 z rows3 := by walk_at "ch"
            have kx : Keep H2 H8 := by walk_at "kp"
            walk_at "g"
            refine u_image (SqL.of hl28) g2 (by decide) ov (by omega) fun H9 s9 => ?_
            walk_at "g"
            refine u_mul (by walk_at "ch") (by walk_at "ch") g1 g2 (by decide) (by decide) fun ab H10 s10 cb => ?_
            walk_at "g"
            walk_at "rc"
            walk_at "g"
            refine u_of (by walk_at "ch") g2 (by decide) ov (by omega) fun H11 s11 => ?_
            walk_at "g"
            refine u_neS rfl ?_
            walk_at "g"
            walk_at "rc"
            walk_at "g"
            refine u_of (by walk_at "ch") (g1.mul g2) (by decide) ov (by omega) fun H12 s12 => ?_
            walk_at "g"
            refine u_image (SqL.of (by walk_at "h")) g1 (by decide) (im_over g2 r) (by have := im_len g2 r; omega) fun H13 s13 => ?_
            refine u_neS (im_comp g1 g2 ov) ?_
            walk_at "g"
            refine u_mul (by walk_at "ch") (by walk_at "ch") g1 g2 (by decide) (by decide) fun ac H14 s14 cc => ?_
            walk_at "g"
            obtain ⟨dx, t, d, kvs, hx, ht, hd, hi'⟩ := id cc
            refine ⟨ac, _, dx, _, _, rfl, hx, T.cl, T.n_rows, rfl, ?_⟩
            walk_at "g"
            refine i_listU (SqT.of ht) fun lq H15 nq s15 hq => ?_
            have hl115 : H15 l1 = some (.lst (rows1.map V.str)) := by walk_at "h"
            have hl215 : H15 l2 = some (.lst (rows2.map V.str)) := by walk_at "h"
            have hD15 : H15 D = some (.lst [.ref l1, .ref l2, .ref l3]) := by walk_at "h"
            walk_at "g"
            refine ⟨⟨_, SqL.of hl215⟩, ?_⟩
            refine lcS (walk_list (K := K) (a := l2) (xs := rows2.map V.str)) (fun i => V.str (imOf z rows1 (rows2.getD i ""))) (by rw [List.length_map, g2.im.len]; show _ ≤ 16777216; omega) (fun Hc sc => SqL.of (sc _ _ hl215)) (fun i y H16 H16' C N hi s16 yy kC => ?_) fun Dq H16 nDq s16 hDq => ?_
            · obtain ⟨rfl, hy⟩ := yy
              rw [List.getElem?_map] at hy
              cases ey : rows2[i]? with
              | none => rw [ey] at hy; cases hy
              | some rr =>
                rw [ey] at hy
                cases hy
                have hm := List.mem_of_getElem? ey
                walk_at "g"
                refine ⟨rfl, ?_⟩
                walk_at "g"
                refine u_image (SqL.of (by walk_at "h")) g1 (by decide) (g2.im.ov rr hm) (by have := g2.im.small rr hm; omega) fun H17 s17 => ?_
                have := kC _ s17
                rw [List.getD_eq_getElem?_getD, ey] at this
                exact this
            · rw [List.length_map, range_map rows2 (fun r => V.str (imOf z rows1 r)) _ (fun i x h => by rw [List.getD_eq_getElem?_getD, h]; rfl)] at hDq
              refine i_neLL (xs := rows2.map (imOf z rows1)) (ys := rows2.map (imOf z rows1)) (SqL.of (s16 _ _ hq)) (SqL.of (by rw [hDq, List.map_map]; rfl)) (g1.mul g2).ok (g1.mul g2).ok ?_
              rw [decide_eq_true rfl]
              have s816 : Same H8 H16 := by walk_at "sm"
              have c1 : ChAt K H16 a1 z rows1 := c18.same s816
              have c2 : ChAt K H16 a2 z rows2 := c28.same s816
              have c3 : ChAt K H16 a3 z rows3 := c38.same s816
              have kx : Keep H2 H16 := kx.trans (Keep.same s816)
              clear s16 s15 s14 s13 s12 s11 s10 s9
              walk_at "g"
              refine u_mul (by walk_at "ch") (by walk_at "ch") g1 g2 (by decide) (by decide) fun p1 H17 s17 cp1 => ?_
              walk_at "g"
              refine u_mul (by walk_at "ch") (by walk_at "ch") (g1.mul g2) g3 (by decide) (by decide) fun p2 H18 s18 cp2 => ?_
              walk_at "g"
              refine u_mul (by walk_at "ch") (by walk_at "ch") g2 g3 (by decide) (by decide) fun p3 H19 s19 cp3 => ?_
              walk_at "g"
              refine u_mul (by walk_at "ch") (by walk_at "ch") g1 (g2.mul g3) (by decide) (by decide) fun p4 H20 s20 cp4 => ?_
              refine u_ne (by walk_at "ch") cp4 ((g1.mul g2).mul g3) (g1.mul (g2.mul g3)) (rows_comp g1 g2 g3) ?_
              walk_at "g"
              walk_at "rc"
              walk_at "g"
              refine ⟨r, tl, rfl, rfl, by rw [len_toL, len_toL]; show _ ≤ 16777216; omega, ?_⟩
              walk_at "g"
              refine u_of (by walk_at "ch") g2 (by decide) (over_add ov ovt) (by rw [toL_append, List.length_append]; omega) fun H21 s21 => ?_
              walk_at "g"
              walk_at "rc"
              walk_at "g"
              refine u_of (by walk_at "ch") g2 (by decide) ov (by omega) fun H22 s22 => ?_
              walk_at "g"
              walk_at "rc"
              walk_at "g"
              refine u_of (by walk_at "ch") g2 (by decide) ovt (by omega) fun H23 s23 => ?_
              refine ⟨_, _, rfl, rfl, by rw [len_toL, len_toL]; have := im_len g2 r; have := im_len g2 tl; show _ ≤ 16777216; omega, ?_⟩
              refine u_neS (im_add r tl) ?_
              have s1623 : Same H16 H23 := by walk_at "sm"
              replace c1 := c1.same s1623
              replace c2 := c2.same s1623
              replace kx := kx.trans (Keep.same s1623)
              clear s17 s18 s19 s20 s21 s22 s23
              walk_at "g"
              walk_at "rc"
              walk_at "g"
              refine u_tu (by walk_at "ch") g2 (by decide) fun q1 H24 s24 cq1 => ?_
              walk_at "rc"
              walk_at "g"
              refine ⟨rfl, by rw [len_toL]; show _ ≤ 16777216; omega, ?_⟩
              walk_at "g"
              refine u_of (by walk_at "ch") g2.rev (by decide) (over_rev ov) (by rw [toL_revS, List.length_reverse]; omega) fun H25 s25 => ?_
              walk_at "g"
              walk_at "rc"
              walk_at "g"
              refine u_of (by walk_at "ch") g2 (by decide) ov (by omega) fun H26 s26 => ?_
              walk_at "g"
              refine ⟨rfl, by rw [len_toL]; have := im_len g2 r; show _ ≤ 16777216; omega, ?_⟩
              refine u_neS (im_rev g2 ov) ?_
              walk_at "g"
              walk_at "rc"
              walk_at "g"
              refine u_tu (by walk_at "ch") g2 (by decide) fun q2 H27 s27 cq2 => ?_
              walk_at "rc"
              walk_at "g"
              refine u_tu (by walk_at "ch") g2.rev (by decide) fun q3 H28 s28 cq3 => ?_
              walk_at "g"
              refine u_ne (by walk_at "ch") (by walk_at "ch") g2.rev.rev g2 (rev_rev rows2) ?_
              walk_at "g"
              refine u_mul (by walk_at "ch") (by walk_at "ch") g1 g2 (by decide) (by decide) fun q4 H29 s29 cq4 => ?_
              walk_at "rc"
              walk_at "g"
              refine u_tu (by walk_at "ch") (g1.mul g2) (by decide) fun q5 H30 s30 cq5 => ?_
              walk_at "g"
              walk_at "rc"
              walk_at "g"
              refine u_tu (by walk_at "ch") g1 (by decide) fun q6 H31 s31 cq6 => ?_
              walk_at "g"
              walk_at "rc"
              walk_at "g"
              refine u_tu (by walk_at "ch") g2 (by decide) fun q7 H32 s32 cq7 => ?_
              refine u_mul (by walk_at "ch") (by walk_at "ch") g1.rev g2.rev (by decide) (by decide) fun q8 H33 s33 cq8 => ?_
              refine u_ne (by walk_at "ch") (by walk_at "ch") (g1.mul g2).rev (g1.rev.mul g2.rev) (rows_rev g1 g2) ?_
              walk_at "g"
              walk_at "rc"
              walk_at "g"
              refine u_of (by walk_at "ch") g2 (by decide) (fun c hc => nomatch hc) (Nat.zero_le _) fun H34 s34 => ?_
              walk_at "g"
              refine u_neS im_nil ?_
              have s2334 : Same H23 H34 := by walk_at "sm"
              replace c1 := c1.same s2334
              replace c2 := c2.same s2334
              replace kx := kx.trans (Keep.same s2334)
              clear s24 s25 s26 s27 s28 s29 s30 s31 s32 s33 s34
              walk_at "g"
              have zs : z.length ≤ sizeLine := by rw [len_toL]; show (toL z).length ≤ 16777216; omega
              have gp := good_plain g1
              have gv := good_void g1
              refine i_listT zs fun lp H35 np s35 hp => ?_
              walk_at "g"
              intro pa dx nx ndx ne
              refine mk_chR (rows := plainOf z) (m := 1) nx ndx ne (by rw [hp, chV_strs]; rfl) gp (by decide) fun H36 s36 cpa => ?_
              walk_at "g"
              refine lcS (walk_str (z := z)) (fun i => V.str "") zs (fun _ _ => trivial) (fun i x Hc Hc' C N hi sc y kC => ?_) fun Dv H37 nDv s37 hDv => ?_
              · obtain ⟨rfl, c, hc, rfl⟩ := y
                walk_at "g"
                refine ⟨rfl, ?_⟩
                walk_at "g"
                exact kC _ (Same.refl _)
              · have er : (List.range z.cps.size).map (fun i => V.str "") = (voidOf z).map V.str := by
                  unfold voidOf
                  apply List.ext_getElem <;> simp
                rw [er] at hDv
                walk_at "g"
                intro va dx nx ndx ne
                refine mk_chR (rows := voidOf z) (m := 0) nx ndx ne hDv gv (by decide) fun H38 s38 cva => ?_
                walk_at "g"
                refine u_mul (by walk_at "ch") (by walk_at "ch") g1 gp (by decide) (by decide) fun q1 H39 s39 cq1 => ?_
                walk_at "g"
                refine u_ne (by walk_at "ch") (by walk_at "ch") (g1.mul gp) g1 (mul_plain g1) ?_
                walk_at "g"
                refine u_mul (by walk_at "ch") (by walk_at "ch") gp g1 (by decide) (by decide) fun q2 H40 s40 cq2 => ?_
                walk_at "g"
                refine u_ne (by walk_at "ch") (by walk_at "ch") (gp.mul g1) g1 (plain_mul g1) ?_
                walk_at "g"
                refine u_mul (by walk_at "ch") (by walk_at "ch") gv g1 (by decide) (by decide) fun q3 H41 s41 cq3 => ?_
                walk_at "g"
                refine u_ne (by walk_at "ch") (by walk_at "ch") (gv.mul g1) gv (void_mul g1) ?_
                walk_at "g"
                refine u_mul (by walk_at "ch") (by walk_at "ch") g1 gv (by decide) (by decide) fun q4 H42 s42 cq4 => ?_
                walk_at "g"
                refine u_ne (by walk_at "ch") (by walk_at "ch") (g1.mul gv) gv (mul_void rows1) ?_
                walk_at "g"
                walk_at "rc"
                walk_at "g"
                refine u_of (by walk_at "ch") gp (by decide) ov (by omega) fun H43 s43 => ?_
                walk_at "g"
                refine u_neS (im_plain g1 ov) ?_
                walk_at "g"
                walk_at "rc"
                walk_at "g"
                refine u_of (by walk_at "ch") gv (by decide) ov (by omega) fun H44 s44 => ?_
                walk_at "g"
                refine u_neS (im_void g1 r) ?_
                walk_at "g"
                exact ⟨⟨_, _, _, _, _, _, _, _, _, _, _, _, _, _, _, _, _, rfl⟩, by walk_at "kp"⟩
      · rintro σ H3 ⟨hB, k3⟩
        exact ⟨hB.a, (hS1.keep k2).keep k3⟩
    · rintro σ H3 ⟨hA, _⟩
      walk_at "g"
      exact k _
end
end K03
namespace K03
open PySem PySem.Spec PyProof.Rows L2 AR
def dD_w_seed : He.DefD := ⟨("_law_seed", none), "_law_seed", "_law_seed", defArgs s_w_seed, defBody s_w_seed, defScope s_w_seed, [], []⟩
def dD_w_choose : He.DefD := ⟨("_law_choose", none), "_law_choose", "_law_choose", defArgs s_w_choose, defBody s_w_choose, defScope s_w_choose, [], []⟩
def dD_w_one_of : He.DefD := ⟨("_law_one_of", none), "_law_one_of", "_law_one_of", defArgs s_w_one_of, defBody s_w_one_of, defScope s_w_one_of, [], []⟩
def dD_w_signs : He.DefD := ⟨("_law_signs", none), "_law_signs", "_law_signs", defArgs s_w_signs, defBody s_w_signs, defScope s_w_signs, [], []⟩
def dD_w_row : He.DefD := ⟨("_law_row", none), "_law_row", "_law_row", defArgs s_w_row, defBody s_w_row, defScope s_w_row, [], []⟩
def dD_w_images : He.DefD := ⟨("_law_images", none), "_law_images", "_law_images", defArgs s_w_images, defBody s_w_images, defScope s_w_images, [], []⟩
def dD_w_image : He.DefD := ⟨("_law_image", none), "_law_image", "_law_image", defArgs s_w_image, defBody s_w_image, defScope s_w_image, [], []⟩
def dD_is_sequence : He.DefD := ⟨("is_sequence", none), "is_sequence", "is_sequence", defArgs s_is_sequence, defBody s_is_sequence, defScope s_is_sequence, [], []⟩
def dD_are_signs : He.DefD := ⟨("are_signs", none), "are_signs", "are_signs", defArgs s_are_signs, defBody s_are_signs, defScope s_are_signs, [], []⟩
def dD_is_row : He.DefD := ⟨("is_row", none), "is_row", "is_row", defArgs s_is_row, defBody s_is_row, defScope s_is_row, [], []⟩
def dD_law : He.DefD := ⟨("law", none), "law", "law", defArgs s_law, defBody s_law, defScope s_law, [], []⟩
def dD_Change_init : He.DefD := ⟨("Change", some "__init__"), "__init__", "Change.__init__", defArgs s_ChangeD_initD, defBody s_ChangeD_initD, defScope s_ChangeD_initD, [], []⟩
def dD_Change_of : He.DefD := ⟨("Change", some "of"), "of", "Change.of", defArgs s_Change_of, defBody s_Change_of, defScope s_Change_of, [], []⟩
def dD_Change_turned : He.DefD := ⟨("Change", some "turned"), "turned", "Change.turned", defArgs s_Change_turned, defBody s_Change_turned, defScope s_Change_turned, [], []⟩
def dD_ChangeD_mulD : He.DefD := ⟨("Change", some "__mul__"), "__mul__", "Change.__mul__", defArgs s_ChangeD_mulD, defBody s_ChangeD_mulD, defScope s_ChangeD_mulD, [], []⟩
def dD_ChangeD_eqD : He.DefD := ⟨("Change", some "__eq__"), "__eq__", "Change.__eq__", defArgs s_ChangeD_eqD, defBody s_ChangeD_eqD, defScope s_ChangeD_eqD, [], []⟩
def fnL : List He.DefD := [dD_w_seed, dD_w_choose, dD_w_one_of, dD_w_signs, dD_w_row, dD_w_images, dD_w_image, dD_is_sequence, dD_are_signs, dD_is_row, dD_law, dD_Change_init, dD_Change_of, dD_Change_turned, dD_ChangeD_mulD, dD_ChangeD_eqD]
def faL : List He.Fa := [.free "len", .free "abs", .free "int", .free "range", .free "list", .free "max", .free "min", .free "isinstance", .free "tuple", .free "str", .free "all", .free "zip", .free "dict", .str "LETTERS" "abcdefghijklmnopqrstuvwxyz", .glo "_law_seed", .glo "_law_choose", .glo "_law_one_of", .glo "_law_signs", .glo "_law_row", .glo "_law_images", .glo "_law_image", .glo "is_sequence", .glo "are_signs", .glo "is_row", .glo "law", .glo "Change", .cls "Change", .noat "Change" "signs", .noat "Change" "rows", .noat "Change" "images", .mkr "Change", .meth "Change" "of", .meth "Change" "turned", .meth "Change" "__mul__", .meth "Change" "__eq__"]
def exL (K : PySem.W.Frag) : Bool := PySem.W.selfFirst K (He.ga K "Change") && (He.eqO (PySem.W.findIn K (.ref (He.ga K "Change")) "__ne__") (some (some (.builtin "object.__ne__"))) && (decide (PySem.W.mroIn K (He.ga K "Change") (.type "object") = some true) && (He.eqO (PySem.W.findIn K (.ref (He.ga K "Change")) "__class__") (some (some (.builtin "object.__class__"))) && (He.eqO (PySem.W.specialIn K (.builtin "object.__class__") "__get__") (some (some (.builtin "getset_descriptor.__get__"))) && (decide (PySem.W.takesIn K (.builtin "object.__class__") = some true) && (decide (PySem.W.kitOne K (.ref (He.ga K "Change")) (.ref (He.ga K "Change")) = some true)))))))
abbrev RL : PySem.W.OpenRow := PySem.W.OpenLaw.row PySem.Challenge.rw_allrows_k03_changes_done_one_behind_anot
abbrev hkL : PySem.W.Hook := He.hookX 6 faL fnL [] [] exL
def obL (s : PySem.W.SharedT) : He.AlX := He.obsX 6 faL fnL [] [] exL (HandSHeadRun.getT s)
theorem ob_eq (s : PySem.W.SharedT) : obL s = hkL.obs s.abs := He.obsX_eq (HandSHeadRun.getT_eq s)
def looseL : List Str := ["_wall", "RowError", "InvalidChange", "LETTERS", "is_sequence", "are_signs", "is_row", "Change", "_law_seed", "_law_choose", "_law_one_of", "_law_signs", "_law_row", "_law_images", "_law_image"]
theorem runL (w : World) : HandSHeadRun.RunEq RL (PySem.W.view RL.prog [19]) hkL obL 4000 looseL w := by
  intro os
  kernel_rfl
end K03
namespace K03
open PySem PySem.Spec PyProof.Rows L2 AR
section
theorem bn1 {K : PySem.W.Frag} {d : He.DefD} {fd : FuncData} {ps : List Str} (F : FunD K d.name d.qual d.params d.body d.scope [] [] (He.fAd K d.at_) fd) (h : ∀ us : List Value, us.length = ps.length → True) : True := trivial
theorem factsL {w : World} {K : PySem.W.Frag} {h : Heap} {mg : Str → Option Value} (X : K.In h) (G : h.Ns mainGlobals mg) (c : He.SaysX faL fnL [] [] exL w h K) : Tx K mg := by
  have x0 : exL K = true := c.more
  unfold exL at x0
  obtain ⟨y0, x1⟩ := He.ba x0
  obtain ⟨y1, x2⟩ := He.ba x1
  obtain ⟨y2, x3⟩ := He.ba x2
  obtain ⟨y3, x4⟩ := He.ba x3
  obtain ⟨y4, x5⟩ := He.ba x4
  obtain ⟨y5, x6⟩ := He.ba x5
  have y6 := x6
  exact {
    b_len := He.free_ok X G (c.t.d.fact 0 (f := .free "len") rfl),
    b_abs := He.free_ok X G (c.t.d.fact 1 (f := .free "abs") rfl),
    b_int := He.free_ok X G (c.t.d.fact 2 (f := .free "int") rfl),
    b_range := He.free_ok X G (c.t.d.fact 3 (f := .free "range") rfl),
    b_list := He.free_ok X G (c.t.d.fact 4 (f := .free "list") rfl),
    b_max := He.free_ok X G (c.t.d.fact 5 (f := .free "max") rfl),
    b_min := He.free_ok X G (c.t.d.fact 6 (f := .free "min") rfl),
    b_isinstance := He.free_ok X G (c.t.d.fact 7 (f := .free "isinstance") rfl),
    b_tuple := He.free_ok X G (c.t.d.fact 8 (f := .free "tuple") rfl),
    b_str := He.free_ok X G (c.t.d.fact 9 (f := .free "str") rfl),
    b_all := He.free_ok X G (c.t.d.fact 10 (f := .free "all") rfl),
    b_zip := He.free_ok X G (c.t.d.fact 11 (f := .free "zip") rfl),
    b_dict := He.free_ok X G (c.t.d.fact 12 (f := .free "dict") rfl),
    k_LETTERS := by
      obtain ⟨t, e⟩ := He.str_ok X G (c.t.d.fact 13 (f := .str "LETTERS" "abcdefghijklmnopqrstuvwxyz") rfl)
      exact ⟨_, e, t, rfl⟩,
    d_seed := by
      obtain ⟨fd, F⟩ := c.t.d.def_ 0 (d := dD_w_seed) rfl
      exact ⟨_, fd, F, He.glo_ok X G (c.t.d.fact 14 (f := .glo "_law_seed") rfl), F.bindsN (ps := ["_law_script", "_law_k"]) (fun _ _ _ _ _ _ us hl => match us, hl with | [_, _], _ => rfl)⟩,
    d_choose := by
      obtain ⟨fd, F⟩ := c.t.d.def_ 1 (d := dD_w_choose) rfl
      exact ⟨_, fd, F, He.glo_ok X G (c.t.d.fact 15 (f := .glo "_law_choose") rfl), F.bindsN (ps := ["_law_box", "_law_many"]) (fun _ _ _ _ _ _ us hl => match us, hl with | [_, _], _ => rfl)⟩,
    d_one_of := by
      obtain ⟨fd, F⟩ := c.t.d.def_ 2 (d := dD_w_one_of) rfl
      exact ⟨_, fd, F, He.glo_ok X G (c.t.d.fact 16 (f := .glo "_law_one_of") rfl), F.bindsN (ps := ["_law_box", "_law_some"]) (fun _ _ _ _ _ _ us hl => match us, hl with | [_, _], _ => rfl)⟩,
    d_signs := by
      obtain ⟨fd, F⟩ := c.t.d.def_ 3 (d := dD_w_signs) rfl
      exact ⟨_, fd, F, He.glo_ok X G (c.t.d.fact 17 (f := .glo "_law_signs") rfl), F.bindsN (ps := ["_law_box"]) (fun _ _ _ _ _ _ us hl => match us, hl with | [_], _ => rfl)⟩,
    d_row := by
      obtain ⟨fd, F⟩ := c.t.d.def_ 4 (d := dD_w_row) rfl
      exact ⟨_, fd, F, He.glo_ok X G (c.t.d.fact 18 (f := .glo "_law_row") rfl), F.bindsN (ps := ["_law_box", "_law_signs_here", "_law_most"]) (fun _ _ _ _ _ _ us hl => match us, hl with | [_, _, _], _ => rfl)⟩,
    d_images := by
      obtain ⟨fd, F⟩ := c.t.d.def_ 5 (d := dD_w_images) rfl
      exact ⟨_, fd, F, He.glo_ok X G (c.t.d.fact 19 (f := .glo "_law_images") rfl), F.bindsN (ps := ["_law_box", "_law_signs_here", "_law_most"]) (fun _ _ _ _ _ _ us hl => match us, hl with | [_, _, _], _ => rfl)⟩,
    d_image := by
      obtain ⟨fd, F⟩ := c.t.d.def_ 6 (d := dD_w_image) rfl
      exact ⟨_, fd, F, He.glo_ok X G (c.t.d.fact 20 (f := .glo "_law_image") rfl), F.bindsN (ps := ["_law_signs_here", "_law_images_here", "_law_row_here"]) (fun _ _ _ _ _ _ us hl => match us, hl with | [_, _, _], _ => rfl)⟩,
    d_is_sequence := by
      obtain ⟨fd, F⟩ := c.t.d.def_ 7 (d := dD_is_sequence) rfl
      exact ⟨_, fd, F, He.glo_ok X G (c.t.d.fact 21 (f := .glo "is_sequence") rfl), F.bindsN (ps := ["value"]) (fun _ _ _ _ _ _ us hl => match us, hl with | [_], _ => rfl)⟩,
    d_are_signs := by
      obtain ⟨fd, F⟩ := c.t.d.def_ 8 (d := dD_are_signs) rfl
      exact ⟨_, fd, F, He.glo_ok X G (c.t.d.fact 22 (f := .glo "are_signs") rfl), F.bindsN (ps := ["value"]) (fun _ _ _ _ _ _ us hl => match us, hl with | [_], _ => rfl)⟩,
    d_is_row := by
      obtain ⟨fd, F⟩ := c.t.d.def_ 9 (d := dD_is_row) rfl
      exact ⟨_, fd, F, He.glo_ok X G (c.t.d.fact 23 (f := .glo "is_row") rfl), F.bindsN (ps := ["signs", "value"]) (fun _ _ _ _ _ _ us hl => match us, hl with | [_, _], _ => rfl)⟩,
    m_Change := He.glo_ok X G (c.t.d.fact 25 (f := .glo "Change") rfl),
    cl := He.cls_ok (c.t.d.fact 26 (f := .cls "Change") rfl),
    ic := ⟨He.cls_ok (c.t.d.fact 26 (f := .cls "Change") rfl), He.eqO_ok y3, He.eqO_ok y4, of_decide_eq_true y5, of_decide_eq_true y2, of_decide_eq_true y6⟩,
    n_signs := He.noat_ok (c.t.d.fact 27 (f := .noat "Change" "signs") rfl),
    n_rows := He.noat_ok (c.t.d.fact 28 (f := .noat "Change" "rows") rfl),
    n_images := He.noat_ok (c.t.d.fact 29 (f := .noat "Change" "images") rfl),
    sf_Change := y0,
    ne_Change := He.eqO_ok y1,
    mr_Change := of_decide_eq_true y2,
    i_Change := by
      obtain ⟨fd, F⟩ := c.t.d.def_ 11 (d := dD_Change_init) rfl
      exact ⟨_, fd, F, He.mkr_ok (c.t.d.fact 30 (f := .mkr "Change") rfl), He.glo_ok X G (c.t.d.fact 25 (f := .glo "Change") rfl), F.bindsN (ps := ["self", "signs", "rows"]) (fun _ _ _ _ _ _ us hl => match us, hl with | [_, _, _], _ => rfl)⟩,
    m_of := by
      obtain ⟨fd, F⟩ := c.t.d.def_ 12 (d := dD_Change_of) rfl
      exact ⟨_, fd, F, He.meth_ok (c.t.d.fact 31 (f := .meth "Change" "of") rfl), F.bindsN (ps := ["self", "row"]) (fun _ _ _ _ _ _ us hl => match us, hl with | [_, _], _ => rfl)⟩,
    m_turned := by
      obtain ⟨fd, F⟩ := c.t.d.def_ 13 (d := dD_Change_turned) rfl
      exact ⟨_, fd, F, He.meth_ok (c.t.d.fact 32 (f := .meth "Change" "turned") rfl), F.bindsN (ps := ["self"]) (fun _ _ _ _ _ _ us hl => match us, hl with | [_], _ => rfl)⟩,
    m_mul := by
      obtain ⟨fd, F⟩ := c.t.d.def_ 14 (d := dD_ChangeD_mulD) rfl
      exact ⟨_, fd, F, He.meth_ok (c.t.d.fact 33 (f := .meth "Change" "__mul__") rfl), F.bindsN (ps := ["self", "other"]) (fun _ _ _ _ _ _ us hl => match us, hl with | [_, _], _ => rfl)⟩,
    m_eq := by
      obtain ⟨fd, F⟩ := c.t.d.def_ 15 (d := dD_ChangeD_eqD) rfl
      exact ⟨_, fd, F, He.meth_ok (c.t.d.fact 34 (f := .meth "Change" "__eq__") rfl), F.bindsN (ps := ["self", "other"]) (fun _ _ _ _ _ _ us hl => match us, hl with | [_, _], _ => rfl)⟩ }
end
end K03
open PySem PySem.W PySem.Calls PyProof.Rows
theorem PySem.Challenge.cw_allrows_k03_changes_done_one_behind_anot_holds : PySem.Challenge.rw_allrows_k03_changes_done_one_behind_anot.Holds := by
  w_on; o_law
  refine HandSHeadRun.head_any (r := OpenLaw.row PySem.Challenge.rw_allrows_k03_changes_done_one_behind_anot) (q := view (OpenLaw.row PySem.Challenge.rw_allrows_k03_changes_done_one_behind_anot).prog [19]) (H := K03.hkL) (ob := K03.obL) (M := 4000) (loose := K03.looseL) (d := HandSHeadRun.topDef (OpenLaw.row PySem.Challenge.rw_allrows_k03_changes_done_one_behind_anot).prog 19) (kwd := []) K03.ob_eq
    (by kernel_rfl) (fun s => by kernel_rfl) K03.runL (by kernel_rfl) (by kernel_rfl) (by kernel_rfl) (by rfl) (by first | assumption | decide +kernel) (by decide +kernel) ⟨rfl, rfl, rfl, rfl, rfl, by decide +kernel⟩ ?hw ?hc
  case hw => w_witness2
  case hc =>
    refine L2.walk_ofE (l := PySem.Challenge.rw_allrows_k03_changes_done_one_behind_anot) (n := 63) (k := 6) (x := "_law_script") (CX := L2.CX0) rfl (by decide) (by kernel_rfl) ⟨rfl, by decide, by decide⟩ ?F (fun _ _ _ _ z => z)
    intro w mg fa h Y G hmg0
    obtain ⟨K, KX, c⟩ := Y
    have hmg : mg ("law" : PySem.Str) = some (.ref fa) := by
      have e : (HandSHeadRun.topDef (OpenLaw.row PySem.Challenge.rw_allrows_k03_changes_done_one_behind_anot).prog 19).name = ("law" : PySem.Str) := by kernel_rfl
      rw [← e]
      exact hmg0
    have T := K03.factsL KX G c
    obtain ⟨fd, F⟩ := c.t.d.def_ 10 (d := K03.dD_law) rfl
    have e := hmg.symm.trans (He.glo_ok KX G (c.t.d.fact 24 (f := .glo "law") rfl))
    cases e
    have b := L2.FunD.bindsA (ps := ["_law_script"]) F fun _ _ _ _ _ _ us hl => match us, hl with | [_], _ => rfl
    exact ⟨K, fd, K03.spLaw K, KX, fun s v => b s [v] rfl, fun H a ns hl o hS => ⟨a, ns, rfl, AR.Scr.of o hS, fun _ => rfl⟩, fun base _ _ => K03.ok_law T F⟩
