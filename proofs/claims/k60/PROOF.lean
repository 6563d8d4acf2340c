import PyProof.Rows.All
import Wide.All
import OpenK.AllK
import Wide.FinOn
import HandS.ForMost
import HandS.Codes
import HandS.Defaults
import KE.GoesNew
import KE.GoesEnum
import HandS.Walk
import PyProof.StrLawsIn
import PyProof.StrLawsChain
import PyProof.StrBlockL
import HandS.SlotsOwn
import PyProof.ListStr
import PyProof.Rows.StrRev
import HandS.Style
import KE.KxIndex
import KE.KDictZip
import KE.KDictItemsList
import HandS.IsInst
import HandS.NoneIn
import HandS.TupAny
import HandS.Replace
import HandS.HeadHook4
import HandS.DictComp
import KE.KDictDisplayH
import HandS.Deep
import HandS.TupLen
import HandS.HeadEnd
import PyProof.ReprRoads
import HandS.TupLe
import HandS.Star
import HandS.Base
import HandS.Call
import HandS.Exc
import HandS.ExcInit
import HandS.ExcField
import HandS.ExcIs
import KE.KSuper
import KE.KExcInit
import KE.KExcSuper
import HandS.ExcOwn
import KE.KExcIs
import HandS.MakeKwOnly
import HandS.Head0
import HandS.Head1
import HandS.Head2
import PyProof.ReprText
import PyProof.StrLawsRepr
import PySem.Challenge.RW_allrows_k60_rules_made_and_moved
set_option Elab.async false
set_option linter.all false
set_option maxRecDepth 100000
set_option maxHeartbeats 0
/-! AR: the small layer of this work over HandS -/
namespace AR
open PySem PySem.Spec PyProof.Rows L2
/-- a def of the module under its name, as the top leaves it -/
structure GD (K : PySem.W.Frag) (mg : Str → Option Value) (x : Str) (st : Stmt) (ps : List Str) : Prop where
  ex : ∃ (f : Addr) (fd : FuncData), FunD K x x (defArgs st) (defBody st) (defScope st) [] [] f fd ∧ mg x = some (.ref f) ∧ Binds K fd ps []
section
variable {P : Program} {w : World} {K : PySem.W.Frag} {mg : Str → Option Value} {base : Heap}
theorem GD.cal {x : Str} {st : Stmt} {N ps : List Str} {k : Nat} {sp : Sp} (G : GD K mg x st ps) (S : FnScope N ps (defScope st)) (len : ∀ vs H Q E, sp vs H Q E → vs.length = ps.length)
    (hbody : ∀ (f : Addr) (cdv : Value) (A : Around) (outer : List Env) (s : Shared) (H : Hp) (vs : List V) (Q : VK) (E : XK), Room k (A.deeper (envOfC x (defScope st) s.heap.objs.size f cdv)) → sp vs H Q E →
      ∃ t, PSs (cxOf CX0 P w K mg base N x (defScope st) f cdv A outer s H E).nox (defBody st) t ∧ t { nx := fun _ H' => Q .non H', rt := Q } (start N vs) H) : C8.Cal P w K mg base (k + 1) x sp [] := by
  obtain ⟨f, fd, F, m, b⟩ := G.ex
  refine ⟨f, fd, ps, [], F.ok S len fun cdv A outer s H vs Q E hr hsp => ?_, m, F.kp, b, .nil⟩
  obtain ⟨t, h, q⟩ := hbody f cdv A outer s H vs Q E hr hsp
  exact ⟨t, h.nox, q⟩
end
/-! ### boxes -/
/-- a list of three ints -/
def Box (o : HO) : Prop := ∃ x y z : Int, o = .lst [.int x, .int y, .int z]
/-- what is no box stays as it is; a box stays a box -/
structure Keep (H H' : Hp) : Prop where
  st : ∀ a o, H a = some o → ¬ Box o → H' a = some o
  bx : ∀ a o, H a = some o → Box o → ∃ o', H' a = some o' ∧ Box o'
theorem Keep.refl (H : Hp) : Keep H H := ⟨fun _ _ h _ => h, fun _ _ h b => ⟨_, h, b⟩⟩
theorem Keep.trans {H H1 H2 : Hp} (a : Keep H H1) (b : Keep H1 H2) : Keep H H2 :=
  ⟨fun c o h n => b.st c o (a.st c o h n) n, fun c o h n => by
    obtain ⟨o', h1, b1⟩ := a.bx c o h n
    exact b.bx c o' h1 b1⟩
theorem Keep.free {H H' : Hp} (e : Keep H H') {l : Addr} (h : H' l = none) : H l = none := by
  cases q : H l with
  | none => rfl
  | some o =>
    by_cases b : Box o
    · obtain ⟨o', h1, _⟩ := e.bx l o q b
      rw [h] at h1; cases h1
    · rw [e.st l o q b] at h; cases h
theorem Keep.same {H H' : Hp} (e : Same H H') : Keep H H' := ⟨fun a o h _ => e a o h, fun a o h b => ⟨o, e a o h, b⟩⟩
/-- a new object -/
theorem Keep.new {H : Hp} {p : Addr} {o : HO} (h : H p = none) : Keep H (upd H p o) := Keep.same fun a u e => by rw [upd_ne (ne_of_none e h)]; exact e
/-- an object that H does not know may change -/
theorem Keep.mut {H H' : Hp} {p : Addr} {o : HO} (e : Keep H H') (h : H p = none) : Keep H (upd H' p o) :=
  ⟨fun a u ha n => by rw [upd_ne (ne_of_none ha h)]; exact e.st a u ha n, fun a u ha n => by rw [upd_ne (ne_of_none ha h)]; exact e.bx a u ha n⟩
/-- a box is changed -/
theorem Keep.box {H : Hp} {p : Addr} {o o' : HO} (h : H p = some o) (b : Box o) (b' : Box o') : Keep H (upd H p o') :=
  ⟨fun a u ha n => by
    by_cases e : a = p
    · subst e; rw [h] at ha; cases ha; exact absurd b n
    · rw [upd_ne e]; exact ha, fun a u ha n => by
    by_cases e : a = p
    · subst e; exact ⟨_, upd_same, b'⟩
    · rw [upd_ne e]; exact ⟨_, ha, n⟩⟩
/-- the box at b -/
def BoxAt (H : Hp) (b : Addr) : Prop := ∃ x y z : Int, H b = some (.lst [.int x, .int y, .int z])
theorem BoxAt.keep {H H' : Hp} {b : Addr} (h : BoxAt H b) (k : Keep H H') : BoxAt H' b := by
  obtain ⟨x, y, z, e⟩ := h
  obtain ⟨o', h1, x', y', z', rfl⟩ := k.bx b _ e ⟨x, y, z, rfl⟩
  exact ⟨x', y', z', h1⟩
end AR
namespace AR
open PySem PySem.Spec PyProof.Rows L2
/-! ### what is walked: a text, a list, a tuple -/
inductive Src where
  | txt (x : Str) | lst (a : Addr) | tup (a : Addr)
def Src.v : Src → V
  | .txt x => .str x
  | .lst a => .ref a
  | .tup a => .ref a
/-- the signs of a text as values -/
def chV (x : Str) : List V := x.cps.toList.map fun c => V.str ⟨#[c]⟩
def Src.has (K : PySem.W.Frag) (H : Hp) (xs : List V) : Src → Prop
  | .txt x => xs = chV x
  | .lst a => SqL K H a xs
  | .tup a => SqT K H a xs
def Src.fp : Src → List Addr
  | .txt _ => []
  | .lst a => [a]
  | .tup a => [a]
/-- the value it stands for -/
def Src.is (t : Tok) : Src → Value → Prop
  | .txt x, v => v = .str x t
  | .lst a, v => v = .ref a
  | .tup a, v => v = .ref a
def Src.obj (t : Tok) : Src → Obj
  | .txt x => { cls := .type (strIterType x), data := .fields #[.str x t, .int 0 0] }
  | .lst l => { cls := .type "list_iterator", data := .fields #[.ref l, .int 0 0] }
  | .tup l => { cls := .type "tuple_iterator", data := .fields #[.ref l, .int 0 0] }
/-- its iterator's state -/
def Src.at (t : Tok) (it : Addr) (i : Nat) (h : Heap) : Src → Prop
  | .txt x => h.IsStrIter it (strIterType x) x t i
  | .lst a => h.IsListIter it a i
  | .tup a => h.IsTupleIter it a i
/-- what the heap holds of it -/
def Src.ok (items : Array Value) (h : Heap) : Src → Prop
  | .txt _ => True
  | .lst a => h.IsList a items
  | .tup a => h.IsTuple a items
def Src.rel (xs : List V) (items : Array Value) : Src → Prop
  | .txt x => xs = chV x
  | .lst _ => Vals xs items.toList
  | .tup _ => Vals xs items.toList
section
variable {P : Program} {w : World} {A : Around}
theorem Src.draws (hh : A.handled = none) (src : Src) (t : Tok) (it : Addr) (items : Array Value) (xs : List V) (hr : src.rel xs items) (hne : ∀ b ∈ src.fp, b ≠ it) :
    Draws P w A it (it :: src.fp) xs.length (fun i v => ∃ x, xs[i]? = some x ∧ RelV x v) (fun i h => src.at t it i h ∧ src.ok items h) := by
  cases src with
  | txt x =>
    have hx : xs = chV x := hr
    have D := Draws.text (prog := P) (w := w) hh it x t
    have hl : xs.length = x.cps.size := by rw [hx]; simp [chV]
    refine ⟨fun i h st => D.live i h st.1, fun i h h' st k => ⟨D.frame i h h' st.1 fun b hb o e => k b (by rw [List.mem_singleton.mp hb]; exact List.mem_cons_self) o e, trivial⟩, fun i s Q E hi st hQ => ?_, fun s Q E st hE => ?_⟩
    · refine D.item i s Q E (by omega) st.1 fun v h' tk hv st' sb => hQ v h' tk ?_ ⟨st', trivial⟩ sb
      obtain ⟨c, u, hc, rfl⟩ := hv
      refine ⟨.str ⟨#[c]⟩, ?_, u, rfl⟩
      rw [hx]
      unfold chV
      rw [List.getElem?_map, Array.getElem?_toList, hc]
      rfl
    · exact D.done s Q E (by rw [← hl]; exact st.1) hE
  | lst a =>
    have hv : Vals xs items.toList := hr
    have D := Draws.list (prog := P) (w := w) hh it a (hne a (by simp [Src.fp])) items
    have hl : xs.length = items.size := by rw [hv.length]; simp
    refine ⟨fun i h st => D.live i h st, fun i h h' st k => D.frame i h h' st fun b hb o e => k b (by simpa [Src.fp] using hb) o e, fun i s Q E hi st hQ => ?_, fun s Q E st hE => ?_⟩
    · refine D.item i s Q E (by omega) st fun v h' tk hv' st' sb => hQ v h' tk ?_ st' sb
      obtain ⟨x, hx⟩ : ∃ x, xs[i]? = some x := ⟨xs[i], by simp [hi]⟩
      obtain ⟨u, hu, r⟩ := hv.get hx
      have : u = v := by
        rw [Array.getElem?_toList] at hu
        rw [hu] at hv'
        exact Option.some.inj hv'
      subst this
      exact ⟨x, hx, r⟩
    · exact D.done s Q E (by rw [← hl]; exact st) hE
  | tup a =>
    have hv : Vals xs items.toList := hr
    have D := Draws.tuple (prog := P) (w := w) hh it a (hne a (by simp [Src.fp])) items
    have hl : xs.length = items.size := by rw [hv.length]; simp
    refine ⟨fun i h st => D.live i h st, fun i h h' st k => D.frame i h h' st fun b hb o e => k b (by simpa [Src.fp] using hb) o e, fun i s Q E hi st hQ => ?_, fun s Q E st hE => ?_⟩
    · refine D.item i s Q E (by omega) st fun v h' tk hv' st' sb => hQ v h' tk ?_ st' sb
      obtain ⟨x, hx⟩ : ∃ x, xs[i]? = some x := ⟨xs[i], by simp [hi]⟩
      obtain ⟨u, hu, r⟩ := hv.get hx
      have : u = v := by
        rw [Array.getElem?_toList] at hu
        rw [hu] at hv'
        exact Option.some.inj hv'
      subst this
      exact ⟨x, hx, r⟩
    · exact D.done s Q E (by rw [← hl]; exact st) hE
theorem Src.begins (src : Src) (t : Tok) (items : Array Value) {v : Value} (hv : src.is t v) : Begins v (src.obj t) (src.ok items) := by
  cases src with
  | txt x => cases hv; exact begins_text x t
  | lst a => cases hv; exact begins_list a items
  | tup a => cases hv; exact begins_tuple a items
theorem Src.at_obj (src : Src) (t : Tok) {it : Addr} {h : Heap} (e : h.get? it = some (src.obj t)) : src.at t it 0 h := by
  cases src with
  | txt x => exact ⟨_, e, rfl, rfl⟩
  | lst a => exact ⟨_, e, rfl, rfl⟩
  | tup a => exact ⟨_, e, rfl, rfl⟩
theorem Src.at_keep (src : Src) {t : Tok} {it : Addr} {i : Nat} {h h' : Heap} (x : src.at t it i h) (k : ∀ o, h.get? it = some o → h'.get? it = some o) : src.at t it i h' := by
  cases src with
  | txt x' => obtain ⟨o, e, r⟩ := x; exact ⟨o, k o e, r⟩
  | lst a => obtain ⟨o, e, r⟩ := x; exact ⟨o, k o e, r⟩
  | tup a => obtain ⟨o, e, r⟩ := x; exact ⟨o, k o e, r⟩
theorem Src.at_live (src : Src) {t : Tok} {it : Addr} {i : Nat} {h : Heap} (x : src.at t it i h) : ∃ o, h.get? it = some o ∧ ∀ v, o.data ≠ .cell v := by
  cases src with
  | txt x' => obtain ⟨o, e, _, d⟩ := x; exact ⟨o, e, fun v q => by rw [d] at q; cases q⟩
  | lst a => obtain ⟨o, e, _, d⟩ := x; exact ⟨o, e, fun v q => by rw [d] at q; cases q⟩
  | tup a => obtain ⟨o, e, _, d⟩ := x; exact ⟨o, e, fun v q => by rw [d] at q; cases q⟩
end
section
variable {X : Cx} {pins : List (Addr × Obj)} {σ : L2.St} {H : Hp} {s : Shared}
theorem Src.given (I : Inv X pins σ H s) (src : Src) {xs : List V} (h : src.has X.K H xs) : ∃ items : Array Value, src.ok items s.heap ∧ src.rel xs items ∧ (∀ b ∈ src.fp, b < s.heap.objs.size) ∧ (∀ b ∈ src.fp, ∃ o, s.heap.get? b = some o) := by
  cases src with
  | txt x => exact ⟨#[], trivial, h, fun b hb => absurd hb (by simp [Src.fp]), fun b hb => absurd hb (by simp [Src.fp])⟩
  | lst a =>
    obtain ⟨its, r, pl, _⟩ := I.list h
    obtain ⟨o, e, q⟩ := pl.isList
    refine ⟨its.toArray, pl.isList, by simpa [Src.rel] using r, fun b hb => ?_, fun b hb => ?_⟩
    · have : b = a := by simpa [Src.fp] using hb
      subst this; exact pl.lt
    · have : b = a := by simpa [Src.fp] using hb
      subst this; exact ⟨o, e⟩
  | tup a =>
    obtain ⟨its, r, pl, _⟩ := I.tuple h
    obtain ⟨o, e, q⟩ := id pl
    refine ⟨its.toArray, pl, by simpa [Src.rel] using r, fun b hb => ?_, fun b hb => ?_⟩
    · have : b = a := by simpa [Src.fp] using hb
      subst this; exact Heap.lt_size e
    · have : b = a := by simpa [Src.fp] using hb
      subst this; exact ⟨o, e⟩
theorem Src.is_of (src : Src) {v : Value} (r : RelV src.v v) : ∃ t, src.is t v := by
  cases src with
  | txt x => obtain ⟨t, e⟩ := r; exact ⟨t, e⟩
  | lst a => exact ⟨0, r⟩
  | tup a => exact ⟨0, r⟩
end
/-! ### zip -/
def ItZ (K : PySem.W.Frag) (s1 s2 : Src) (xs ys : List V) : It :=
  ⟨fun i H => s1.has K H xs ∧ s2.has K H ys ∧ i < min xs.length ys.length,
    fun i H v H' => ∃ T x y, v = .ref T ∧ H T = none ∧ H' = upd H T (.tup [x, y]) ∧ xs[i]? = some x ∧ ys[i]? = some y,
    fun i H => s1.has K H xs ∧ s2.has K H ys ∧ i = min xs.length ys.length⟩
theorem walk_Z {K : PySem.W.Frag} {s1 s2 : Src} {xs ys : List V} : Walk (ItZ K s1 s2 xs ys) (min xs.length ys.length) (fun H => s1.has K H xs ∧ s2.has K H ys) (YPair (fun i => xs[i]?) (fun i => ys[i]?)) :=
  ⟨fun i H hi q => ⟨q.1, q.2, hi⟩, fun H q => ⟨q.1, q.2, rfl⟩, fun i H v H' _ _ y => y⟩
theorem turn_Z {P : Program} {w : World} {K : PySem.W.Frag} {elts : List Expr} {kk : Nat} {tpos : Pos} {z TI TO i1 i2 : Addr} {s1 s2 : Src} {t1 t2 : Tok} {xs ys : List V} (S : ZipSep2 z TI TO i1 i2 (i1 :: s1.fp) (i2 :: s2.fp)) (n1 : ∀ b ∈ s1.fp, b ≠ i1) (n2 : ∀ b ∈ s2.fp, b ≠ i2) :
    Turn P w K (.Tuple elts kk tpos) (ItZ K s1 s2 xs ys) [z, TI, TO, i1, i2] z (fun i h => IsZip h z TI TO .none ∧ IsTupOf2 h TI (.ref i1) (.ref i2) ∧ (∃ x y, IsTupOf2 h TO x y) ∧ s1.at t1 i1 i h ∧ s2.at t2 i2 i h) where
  mem := by simp
  obj := fun i h st c hc => by
    obtain ⟨hz, hTI, ⟨x, y, hTO⟩, h1, h2⟩ := st
    have e' : c = z ∨ c = TI ∨ c = TO ∨ c = i1 ∨ c = i2 := by simpa using hc
    rcases e' with q | q | q | q | q
    · rw [q]; exact ⟨_, hz, fun v q => nomatch q⟩
    · rw [q]; exact ⟨_, hTI, fun v q => nomatch q⟩
    · rw [q]; exact ⟨_, hTO, fun v q => nomatch q⟩
    · rw [q]; exact s1.at_live h1
    · rw [q]; exact s2.at_live h2
  keep := fun i h h' st k => by
    obtain ⟨hz, hTI, ⟨x, y, hTO⟩, h1, h2⟩ := st
    exact ⟨k z (by simp) _ hz, k TI (by simp) _ hTI, ⟨x, y, k TO (by simp) _ hTO⟩, s1.at_keep h1 fun o q => k i1 (by simp) o q, s2.at_keep h2 fun o q => k i2 (by simp) o q⟩
  item := by
    intro X hP hw hK hc i pins s σ H E I hf st hg
    subst hP hw hK
    obtain ⟨hz, hTI, hTO, h1, h2⟩ := st
    obtain ⟨g1, g2, hi⟩ := hg
    obtain ⟨it1, o1, r1, _, _⟩ := Src.given I s1 g1
    obtain ⟨it2, o2, r2, _, _⟩ := Src.given I s2 g2
    have D1 := Src.draws (P := X.prog) (w := X.w) (A := X.A.in1) (I.ok.hd hc) s1 t1 i1 it1 xs r1 n1
    have D2 := Src.draws (P := X.prog) (w := X.w) (A := X.A.in1) (I.ok.hd hc) s2 t2 i2 it2 ys r2 n2
    have G := GoesN.zip2 (elts := elts) (x1 := kk) (pos := tpos) S D1 D2
    refine G.goes i s (fun u s2' => ∃ x H', Inv X pins σ H' s2' ∧ RelV x u ∧ (ItZ X.K s1 s2 xs ys).yld i H x H' ∧ (IsZip s2'.heap z TI TO .none ∧ IsTupOf2 s2'.heap TI (.ref i1) (.ref i2) ∧ (∃ x y, IsTupOf2 s2'.heap TO x y) ∧ s1.at t1 i1 (i + 1) s2'.heap ∧ s2.at t2 i2 (i + 1) s2'.heap) ∧ ∀ b ∈ [z, TI, TO, i1, i2], H' b = none) E hi ⟨hz, hTI, hTO, ⟨h1, o1⟩, ⟨h2, o2⟩⟩ ?_
    rintro v h' tk ⟨T, u, u2, rfl, hT, ⟨x, hx, rx⟩, ⟨y, hy, ry⟩, isT⟩ ⟨z', TI', TO', ⟨a1, _⟩, ⟨a2, _⟩⟩ kept _
    have new : ObjOk X.prog X.w (upd H T (.tup [x, y])) h' T (.tup [x, y]) := ⟨by show 2 ≤ sizeLine; decide, [u, u2], .cons rx (.cons ry .nil), isT⟩
    have I1 : Inv X pins σ (upd H T (.tup [x, y])) { s with heap := h', toks := tk } := I.turnedNew (t' := tk) (ch := [z, TI, TO, i1, i2]) (fun c o hb q => kept c o (fun m => hb (by
      have e' : c = z ∨ c = TO ∨ c = i1 ∨ c = i2 := by simpa using m
      rcases e' with q | q | q | q <;> simp [q])) q) hf hT new
    refine ⟨.ref T, _, I1, rfl, ⟨T, x, y, rfl, I.hok.fresh hT, rfl, hx, hy⟩, ⟨z', TI', TO', a1, a2⟩, fun c hcm => ?_⟩
    have hlt : c ≠ T := by
      intro e
      have e' : c = z ∨ c = TI ∨ c = TO ∨ c = i1 ∨ c = i2 := by simpa using hcm
      have hl : c < s.heap.objs.size := by
        obtain ⟨_, _, hTO⟩ := hTO
        rcases e' with q | q | q | q | q
        · rw [q]; exact Heap.lt_size hz
        · rw [q]; exact Heap.lt_size hTI
        · rw [q]; exact Heap.lt_size hTO
        · rw [q]; obtain ⟨_, e1, _⟩ := s1.at_live h1; exact Heap.lt_size e1
        · rw [q]; obtain ⟨_, e2, _⟩ := s2.at_live h2; exact Heap.lt_size e2
      rw [e] at hl
      exact absurd (Nat.lt_of_lt_of_le hl hT) (Nat.lt_irrefl _)
    rw [upd_ne hlt]
    exact (hf c hcm).1
  done := by
    intro X hP hw hK hc i pins s σ H E I hf st hg
    subst hP hw hK
    obtain ⟨hz, hTI, hTO, h1, h2⟩ := st
    obtain ⟨g1, g2, hi⟩ := hg
    obtain ⟨it1, o1, r1, _, _⟩ := Src.given I s1 g1
    obtain ⟨it2, o2, r2, _, _⟩ := Src.given I s2 g2
    have D1 := Src.draws (P := X.prog) (w := X.w) (A := X.A.in1) (I.ok.hd hc) s1 t1 i1 it1 xs r1 n1
    have D2 := Src.draws (P := X.prog) (w := X.w) (A := X.A.in1) (I.ok.hd hc) s2 t2 i2 it2 ys r2 n2
    have G := GoesN.zip2 (elts := elts) (x1 := kk) (pos := tpos) S D1 D2
    refine G.stops s (fun s' => Inv X pins σ H s') E (by rw [← hi]; exact ⟨hz, hTI, hTO, ⟨h1, o1⟩, ⟨h2, o2⟩⟩) fun h' tk kept _ => I.turnedL (t' := tk) (ch := [z, TI, TO, i1, i2]) (fun c o hb q => kept c o (fun m => hb (by
      have e' : c = z ∨ c = TO ∨ c = i1 ∨ c = i2 := by simpa using m
      rcases e' with q | q | q | q <;> simp [q])) q) hf
  self := fun A i s Q E st h => wpAny_pyIter_zip st.1 h
def iZ (K : PySem.W.Frag) (ta : TA) : TI := fun σ H R => ta σ H fun vs H1 => ∃ s1 s2 : Src, ∃ xs ys, vs = [s1.v, s2.v] ∧ s1.has K H1 xs ∧ s2.has K H1 ys ∧ R (ItZ K s1 s2 xs ys) H1
theorem pi_Z {X : Cx} {e e2 : Expr} {ta : TA} {p pos tpos : Pos} {elts : List Expr} {kk : Nat} (hg : Gl X "zip") (hm : X.mg "zip" = none) (ha : PA X [e, e2] ta)
    (hs : starEach [e, e2] X.env = (false, eval e X.env) :: starEach [e2] X.env := by rfl) (hpl : (backTo pos (starEach [e2] X.env)).any (·.1) = false := by rfl) :
    PI X (.Tuple elts kk tpos) (.Call (.Name "zip" p) [e, e2] [] pos) (iZ X.K ta) := by
  refine ⟨fun pins s σ H R I h => ?_⟩
  refine Call_ (ld_blt I hg hm PyProof.Rows.boot_zip (PyProof.Rows.callWith_type1 (thn (ha.run pos pins s σ H _ I h) fun us s1 ⟨vs, H1, I1, r1, q1⟩ => ?_) hs hpl))
  obtain ⟨c1, c2, xs, ys, rfl, g1, g2, q⟩ := q1
  cases r1 with
  | cons r rr =>
    cases rr with
    | cons r' rr =>
      cases rr
      obtain ⟨t1, e1⟩ := c1.is_of r
      obtain ⟨t2, e2⟩ := c2.is_of r'
      obtain ⟨it1, o1, r1, l1, _⟩ := Src.given I1 c1 g1
      obtain ⟨it2, o2, r2, l2, _⟩ := Src.given I1 c2 g2
      refine zip_begins2 (c1.begins t1 it1 e1) (c2.begins t2 it2 e2) o1 o2 fun h' hz hTI hTO h1 h2 hsz hk => wpAny_pyIter_zip hz ?_
      have I2 : Inv X pins σ H1 { s1 with heap := h' } := I1.kept (t' := s1.toks) hk
      refine ⟨s1.heap.objs.size + 4, [s1.heap.objs.size + 4, s1.heap.objs.size + 2, s1.heap.objs.size + 3, s1.heap.objs.size, s1.heap.objs.size + 1], _, _, H1, rfl, I2,
        turn_Z (t1 := t1) (t2 := t2) (zip_sep2 l1 l2) (fun b hb => Nat.ne_of_lt (l1 b hb)) (fun b hb => Nat.ne_of_lt (Nat.lt_succ_of_lt (l2 b hb))), ⟨hz, hTI, ⟨_, _, hTO⟩, c1.at_obj t1 h1, c2.at_obj t2 h2⟩, fun c hcm => ?_, q⟩
      have e' : c = s1.heap.objs.size + 4 ∨ c = s1.heap.objs.size + 2 ∨ c = s1.heap.objs.size + 3 ∨ c = s1.heap.objs.size ∨ c = s1.heap.objs.size + 1 := by simpa using hcm
      have hle : s1.heap.objs.size ≤ c := by
        rcases e' with z | z | z | z | z
        · rw [z]; exact Nat.le_add_right _ _
        · rw [z]; exact Nat.le_add_right _ _
        · rw [z]; exact Nat.le_add_right _ _
        · rw [z]; exact Nat.le_refl _
        · rw [z]; exact Nat.le_add_right _ _
      exact I1.fpOk hle (I1.hok.fresh hle)
end AR
namespace AR
open PySem
abbrev toL (s : Str) : List Nat := s.cps.toList
def ofL (l : List Nat) : Str := ⟨l.toArray⟩
@[simp] theorem toL_ofL (l : List Nat) : toL (ofL l) = l := by simp [toL, ofL]
theorem str_ext {a b : Str} (h : toL a = toL b) : a = b := by
  obtain ⟨a⟩ := a
  obtain ⟨b⟩ := b
  have : a = b := Array.ext' h
  rw [this]
@[simp] theorem ofL_toL (s : Str) : ofL (toL s) = s := str_ext (by simp)
theorem len_toL (s : Str) : s.length = (toL s).length := by simp [toL, Str.length]
theorem toL_append (a b : Str) : toL (a ++ b) = toL a ++ toL b := by
  obtain ⟨a⟩ := a
  obtain ⟨b⟩ := b
  show (a ++ b).toList = a.toList ++ b.toList
  simp
theorem join_empty : ∀ ys : List Str, toL (Str.join Str.empty ys) = ys.flatMap toL
  | [] => rfl
  | [x] => by simp [Str.join]
  | x :: y :: r => by
    show toL (x ++ Str.empty ++ Str.join Str.empty (y :: r)) = _
    rw [toL_append, toL_append, join_empty (y :: r)]
    have : toL Str.empty = [] := rfl
    rw [this, List.append_nil]
    rfl
theorem txt_join (ys : List Str) : toL (Txt.join Str.empty ys) = ys.flatMap toL := by
  show toL (Builtin.Str.glued Str.empty ys) = _
  rw [StrLaws.glued_eq_join, join_empty]
theorem txt_join0 (ys : List Str) : Txt.join "" ys = ofL (ys.flatMap toL) := by
  have e : ("" : Str) = Str.empty := by decide +kernel
  rw [e]
  exact str_ext (by rw [txt_join]; simp)
theorem occ_one {x : Str} {c : Nat} (h : c ∈ toL x) : ∃ i rest, Builtin.Str.occurrences x ⟨#[c]⟩ 0 x.length 1 = i :: rest ∧ (toL x)[i]? = some c := by
  have h1 := StrLaws.found_one x c
  rw [decide_eq_true h] at h1
  obtain ⟨f, hc⟩ := StrLaws.occ_chain x ⟨#[c]⟩ 1
  cases e : Builtin.Str.occurrences x ⟨#[c]⟩ 0 x.length 1 with
  | nil => rw [e] at h1; cases h1
  | cons i r =>
    rw [e] at hc
    exact ⟨i, r, rfl, (StrLaws.subAt_one x c i).mp hc.2.1⟩
end AR
namespace AR
open PySem PySem.Spec PyProof.Rows L2 PySem.W
section
variable {prog : Program} {w : World} {A : Around} {E : Value → Shared → Prop} {s : Shared} {K : PySem.W.Frag} {x C L f : Addr} {h₀ : Heap} {m : Str → Option Value} {ox : Obj} {od : Option Obj} {b tb : Value}
/-- the check ahead of a built-in slot of object, its self an own instance -/
theorem check_obj {M : Model} {id n : String} {rest : List Value} {Q : Unit → Shared → Prop} (hk : builtinKind id = some .slot) (hs : splitId id = some ("object", n)) (ha : argsOk id ⟨.ref x :: rest, []⟩)
    (X : K.In s.heap) (I : InstAt s.heap x ox C od) (hm : mroIn K C (.type "object") = some true) (hq : Q () s) : wpAny M A (checkBuiltinCall id ⟨.ref x :: rest, []⟩) Q E s := by
  have L0 := I.type (M := M)
  have L1 := looks_mroIn (M := M) X hm
  obtain ⟨hh, g, d, t, os⟩ := s
  simp only [checkBuiltinCall, hk, hs]
  refine wpAny_bind ?_
  unfold isInstance
  repeat lk
  cases hsig : Manifest.signature? id with
  | none => exact wpAny_pure hq
  | some sig =>
    simp only [argsOk, hsig] at ha
    have h2 : Bind.checkArgs id sig ⟨.ref x :: rest, []⟩ = pure () := ha
    show wpAny M A (Bind.checkArgs id sig ⟨.ref x :: rest, []⟩) Q E _
    rw [h2]; exact wpAny_pure hq
/-- a special method that is a built-in of object -/
theorem ifBound_B {M : Model} {name : Str} {id : String} {T : String} {args : List Value} {Q : Option Value → Shared → Prop} (X : K.In s.heap) (I : InstAt s.heap x ox C od) (hs : findIn K (.ref C) name = some (some (.builtin id))) (S : Slot T name id)
    (h : wpAny M A (call (.builtin id) (.ref x :: args)) (fun v => Q (some v)) E s) : wpAny M A (callSpecialIfBound? (.ref x) name args) Q E s := by
  simp only [callSpecialIfBound?, bindSpecialIfBound?]
  refine wpAny_holding (wpAny_bind (wpAny_bind (wpAny_bind (I.type.here ((looks_findIn X hs).here ?_)))))
  simp only [S.bind]
  refine wpAny_bind (wpAny_askSetting (wpAny_ite ?_))
  have fin : wpAny M A (call (.builtin id) ([.ref x] ++ args) >>= fun v => pure (some v)) Q E s := wpAny_bind (wpAny_mono h (fun v s' h' => wpAny_pure h') fun _ _ h' => h')
  split
  · exact wpAny_bind (wpAny_pure (wpAny_pure fin))
  · exact wpAny_tryCatch (wpAny_bind (wpAny_pure (wpAny_pure fin)))
/-- x != b of an own class with an own __eq__ and no own __ne__ -/
theorem ne_K {Q : Value → Shared → Prop} (hu : A.units + 1 < cLine) (X : K.In s.heap) (I : InstAt s.heap x ox C od) (hb : Looks (model prog w) s.heap (typeOf b) tb) (hn : notFirst K C tb = true)
    (hne : findIn K (.ref C) "__ne__" = some (some (.builtin "object.__ne__"))) (hm : mroIn K C (.type "object") = some true) (hs : findIn K (.ref C) "__eq__" = some (some (.ref f))) (hf : isFn K (.ref f) = true)
    (h : wpAny (model prog w) A.in1 (call (.ref f) [.ref x, b]) (fun v s' => ∃ k, v = .bool k ∧ Q (.bool (!k)) s') E s) : wpAny (model prog w) A (richCompare .NotEq (.ref x) b) Q E s := by
  have ent : wpAny (model prog w) A.in1 (Builtin.«object.__ne__» ⟨[.ref x, b], []⟩) (fun fin s' => ∃ k, fin = .done (.ret (.bool k)) ∧ Q (.bool k) s') E s := by
    unfold Builtin.«object.__ne__»
    repeat (first
      | with_reducible refine wpAny_cRoomFor hu ?_
      | (refine wpAny_bind (m := callSpecialIfBound? (.ref x) (Str.ofString "__eq__") [b])
          (ifBound_K X I hs hf (wpAny_mono h (fun r s' hr => by
            obtain ⟨k, rfl, hq⟩ := hr
            repeat (first | exact ⟨_, rfl, hq⟩ | exact wpAny_pure ⟨_, rfl, hq⟩ | exact wpAny_truthy_bool hq | (refine wpAny_bind (m := truthy (.bool _)) (wpAny_truthy_bool ?_)) | wp_step)) fun _ _ e => e)))
      | wp_step)
  have one : wpAny (model prog w) A (tryCompare (.ref x) (cmpInfo .NotEq).2.1 b) (fun r s' => ∃ v, r = some v ∧ Q v s') E s := by
    rw [cmpInfo_NotEq]
    dsimp only
    unfold tryCompare
    refine wpAny_bind (ifBound_B (T := "zip") X I hne F.slot_zip_ne (wpAny_call (codeAny_call_builtin F.slot_zip_ne.plain F.cmpEntry_ne (check_obj F.cmpKind_ne F.cmpSplit_ne (F.cmpArgs_ne _ _) X I hm
      (wpAny_mono ent (fun fin s' z => ?_) fun _ _ e => e)))))
    obtain ⟨k, rfl, hq⟩ := z
    exact wpAny_pure ⟨_, rfl, hq⟩
  unfold richCompare
  simp only [oneThing_ref]
  refine wpAny_holding (wpAny_bind (wpAny_cRoomFor (Nat.lt_of_succ_lt hu) ?_))
  refine wpAny_bind (I.type.here (wpAny_bind (hb.here ?_)))
  split
  · rename_i q
    have e : subIn K tb (.ref C) = some false := by
      rcases Bool.or_eq_true_iff.mp hn with e | e
      · rw [beq_iff_eq.mp e] at q; simp at q
      · exact beq_iff_eq.mp e
    refine wpAny_bind ((looks_subIn X e).here ?_)
    simp only [Bool.false_eq_true, if_false]
    refine wpAny_bind (wpAny_mono one (fun r s' z => ?_) fun _ _ e => e)
    obtain ⟨v, rfl, hq⟩ := z
    exact wpAny_pure hq
  · refine wpAny_bind (wpAny_pure ?_)
    simp only [Bool.false_eq_true, if_false]
    refine wpAny_bind (wpAny_mono one (fun r s' z => ?_) fun _ _ e => e)
    obtain ⟨v, rfl, hq⟩ := z
    exact wpAny_pure hq
end
/-! ### over the layer: both operands instances of one own class -/
section
variable {X : Cx} {k j : Nat} {C : Addr} {sp : Sp}
def rOwnI (C : Addr) (sp : Sp) : R2 := fun x y H Q => ∃ a dx fs b dy gs, x = .ref a ∧ y = .ref b ∧ H a = some (.ins C dx fs) ∧ H b = some (.ins C dy gs) ∧ sp [x, y] H Q E0
theorem op_ownB {op : Operator} (c : C8.Met X.prog X.w X.K X.mg X.base k C (PySem.dunder op.info.2) sp []) (sf : selfFirst X.K C = true) (hr : Room j X.A) (hk : k ≤ j) : OpR X (binaryOp op) (rOwnI C sp) := by
  intro pins s σ H x y v u Q I rx ry h
  obtain ⟨a, dx, fs, b, dy, gs, rfl, rfl, ha, hb, q⟩ := h
  cases (show v = Value.ref a from rx)
  cases (show u = Value.ref b from ry)
  obtain ⟨f, fd, ps, ds, cl, me, F, bi, vd⟩ := c.ex
  cases vd
  obtain ⟨mA, O, _⟩ := ins_get I.hok ha
  obtain ⟨mB, O', _⟩ := ins_get I.hok hb
  obtain ⟨od, J, _⟩ := O.look
  obtain ⟨od', J', _⟩ := O'.look
  obtain ⟨m, hF⟩ := I.fr
  refine binop_K hF I.ok.mod.kin J J'.type sf me.at_ me.fn (wpAny_mono (run_fn (us := [.ref a, .ref b]) (vs := [.ref a, .ref b]) F (hr.mono hk) bi .nil pass0 I (.cons rfl (.cons rfl .nil)) q) (fun w s' z => ?_) fun _ _ x => x)
  obtain ⟨z', H', I', rz, qz⟩ := z
  exact SlX.cmpback rz ⟨z', H', I', rz, qz⟩
theorem op_ownEq (c : C8.Met X.prog X.w X.K X.mg X.base k C "__eq__" sp []) (hr : Room j X.A) (hk : k ≤ j) : OpR X (compareOp .Eq) (rOwnI C sp) := by
  intro pins s σ H x y v u Q I rx ry h
  obtain ⟨a, dx, fs, b, dy, gs, rfl, rfl, ha, hb, q⟩ := h
  cases (show v = Value.ref a from rx)
  cases (show u = Value.ref b from ry)
  obtain ⟨f, fd, ps, ds, cl, me, F, bi, vd⟩ := c.ex
  cases vd
  obtain ⟨mA, O, _⟩ := ins_get I.hok ha
  obtain ⟨mB, O', _⟩ := ins_get I.hok hb
  obtain ⟨od, J, _⟩ := O.look
  obtain ⟨od', J', _⟩ := O'.look
  obtain ⟨m, hF⟩ := I.fr
  refine cmp_ofEq (cmp_K (op := .Eq) (tb := .ref C) hr.units0 hF I.ok.mod.kin J J'.type (by simp [notFirst]) me.at_ me.fn (wpAny_mono (run_fn (us := [.ref a, .ref b]) (vs := [.ref a, .ref b]) F (hr.mono hk) bi .nil pass0 I (.cons rfl (.cons rfl .nil)) q) (fun w s' z => ?_) fun _ _ x => x))
  obtain ⟨z', H', I', rz, qz⟩ := z
  exact SlX.cmpback rz ⟨z', H', I', rz, qz⟩
/-- the promise gives a bool -/
def rOwnN (C : Addr) (sp : Sp) : R2 := fun x y H Q => ∃ a dx fs b dy gs, x = .ref a ∧ y = .ref b ∧ H a = some (.ins C dx fs) ∧ H b = some (.ins C dy gs) ∧ sp [x, y] H (fun z H' => ∃ k, z = .bl k ∧ Q (.bl (!k)) H') E0
theorem op_ownNe (c : C8.Met X.prog X.w X.K X.mg X.base k C "__eq__" sp []) (hne : findIn X.K (.ref C) "__ne__" = some (some (.builtin "object.__ne__"))) (hm : mroIn X.K C (.type "object") = some true) (hr : Room j X.A) (hk : k + 1 ≤ j) : OpR X (compareOp .NotEq) (rOwnN C sp) := by
  intro pins s σ H x y v u Q I rx ry h
  obtain ⟨a, dx, fs, b, dy, gs, rfl, rfl, ha, hb, q⟩ := h
  cases (show v = Value.ref a from rx)
  cases (show u = Value.ref b from ry)
  obtain ⟨f, fd, ps, ds, cl, me, F, bi, vd⟩ := c.ex
  cases vd
  obtain ⟨mA, O, _⟩ := ins_get I.hok ha
  obtain ⟨mB, O', _⟩ := ins_get I.hok hb
  obtain ⟨od, J, _⟩ := O.look
  obtain ⟨od', J', _⟩ := O'.look
  have hr1 : Room k X.A.in1 := Room.in1 (hr.mono hk)
  show wpAny (model X.prog X.w) X.A (richCompare .NotEq (.ref a) (.ref b)) (EP X pins σ Q) X.xe s
  refine ne_K (tb := .ref C) (hu_of hr) I.kIn J J'.type (by simp [notFirst]) hne hm me.at_ me.fn ?_
  refine wpAny_call (codeAny_mono (F.run X.A.in1 X.stack s H ⟨[.ref a, .ref b], []⟩ [.ref a, .ref b] [.ref a, .ref b] _ E0 hr1 I.env0.in1 (by simpa using bi s [.ref a, .ref b] I.kIn (F.len _ _ _ _ q)) (.cons rfl (.cons rfl .nil)) q) fun r s' hq => ?_)
  cases r with
  | error e => exact absurd hq (fun z => z)
  | ok fl =>
    cases fl with
    | ret u =>
      obtain ⟨z', H', I', rz, k', rfl, qz⟩ := I.after hq
      cases (show u = Value.bool k' from rz)
      exact ⟨k', rfl, .bl (!k'), H', I', rfl, qz⟩
    | next => exact False.elim hq
    | brk => exact False.elim hq
    | cont => exact False.elim hq
end
end AR
namespace AR
open PySem PySem.Spec PyProof.Rows L2
theorem paired_of_get {α β : Type} {F : α → β → Prop} : ∀ {xs : List α} {ys : List β}, xs.length = ys.length → (∀ (j : Nat) a b, xs[j]? = some a → ys[j]? = some b → F a b) → Paired F xs ys
  | [], [], _, _ => .nil
  | [], _ :: _, h, _ => by cases h
  | _ :: _, [], h, _ => by cases h
  | x :: xs, y :: ys, h, g => .cons (g 0 x y rfl rfl) (paired_of_get (by simpa using h) fun j a b h1 h2 => g (j + 1) a b (by simpa using h1) (by simpa using h2))
/-- a text turned about -/
def revS (x : Str) : Str := ⟨x.cps.toList.reverse.toArray⟩
theorem pick_rev (c : Array Nat) : ((List.range c.size).map fun k => c.size - 1 - k).filterMap (c[·]?) = c.toList.reverse := by
  have e : ((List.range c.size).map fun k => c.size - 1 - k) = (List.range c.size).reverse := by
    apply List.ext_getElem
    · simp
    · intro i h1 h2
      simp
  rw [e, List.filterMap_reverse]
  congr 1
  apply List.ext_getElem?
  intro i
  have key : ∀ (n : Nat), n ≤ c.size → (List.range n).filterMap (c[·]?) = c.toList.take n := by
    intro n
    induction n with
    | zero => intro _; simp
    | succ n ih =>
      intro hn
      rw [List.range_succ, List.filterMap_append, ih (by omega), List.take_succ]
      congr 1
      have hc : c[n]? = some c[n] := by simp [show n < c.size by omega]
      simp [hc]
  rw [key c.size (Nat.le_refl _), List.take_of_length_le (by simp)]
section
variable {X : Cx}
/-- list(text) -/
theorem call_list_txt (hc : X.calm = true) : CallR X (.type "list") (fun xs H Q => ∃ x, xs = [.str x] ∧ x.length ≤ sizeLine ∧ ∀ l, H l = none → Q (.ref l) (upd H l (.lst (chV x)))) := by
  intro pins s σ H xs us Q I r h
  obtain ⟨x, rfl, hx, q⟩ := h
  obtain ⟨u, rfl, t, rfl⟩ := vals1 r
  refine PySem.call_list_str (I.ok.hd hc) x t (fun h' tk acc' c' hk hS' hacc => ?_) hx
  have rel : Vals (chV x) acc'.toList := by
    refine paired_of_get (by simp [chV, hacc.1]) fun j v u h1 h2 => ?_
    obtain ⟨c, tu, hcp, rfl⟩ := hacc.2 j u (by simpa using h2)
    have : (chV x)[j]? = some (V.str ⟨#[c]⟩) := by
      unfold chV
      rw [List.getElem?_map, Array.getElem?_toList, hcp]
      rfl
    rw [this] at h1
    cases h1
    exact ⟨tu, rfl⟩
  have hl : (chV x).length ≤ sizeLine := by
    have e : (chV x).length = x.length := by simp [chV, Str.length]
    rw [e]; exact hx
  exact ⟨.ref s.heap.objs.size, _, I.laid (t' := tk) hk (Nat.le_refl _) (show ObjOk X.prog X.w _ h' _ (.lst (chV x)) from ⟨hl, acc'.toList, c', rel, by simpa using hS'⟩), rfl, q _ (I.hok.fresh (Nat.le_refl _))⟩
/-- text * n -/
def rMulS : R2 := fun x y H Q => ∃ (z : Str) (n : Int), x = .str z ∧ y = .int n ∧ -1000000 ≤ n ∧ n ≤ 1000000 ∧ z.length * n.toNat ≤ sizeLine ∧ Q (.str (Txt.mul z n)) H
theorem op_mul_txt : OpR X (binaryOp .Mult) rMulS := by
  intro pins s σ H x y v u Q I rx ry h
  obtain ⟨z, n, rfl, rfl, h1, h2, hz, q⟩ := h
  obtain ⟨t, rfl⟩ := rx
  obtain ⟨t', rfl⟩ := ry
  refine SB.mul ⟨?_, fun hn _ => ?_, fun hn _ => ?_⟩ fun t'' k => ⟨.str _, H, I.tok _, ⟨_, rfl⟩, q⟩
  · simp only [Bool.or_eq_false_iff, decide_eq_false_iff_not]
    omega
  · intro hh
    have hs : sizeLine = 16777216 := sizeLine_eq
    have : z.length ≤ z.length * n.toNat := Nat.le_mul_of_pos_right _ (by omega)
    have h3 : (16777216 : Int) ≤ (2 ^ 63 - 1) / n := by
      apply Int.le_ediv_of_mul_le (by omega)
      omega
    omega
  · unfold Builtin.Str.tooLong
    simp
    exact hz
/-- text[::step], the step -1 -/
def tRevS (te ts : TE) : TE := fun σ H Q => te σ H fun x H1 => ts σ H1 fun i H2 => ∃ z, x = .str z ∧ i = .int (-1) ∧ z.length ≤ sizeLine ∧ Q (.str (revS z)) H2
theorem pe_revS {e st : Expr} {te ts : TE} {p3 pos : Pos} (he : PE X e te) (hst : PE X st ts) : PE X (.Subscript e (.Slice none none (some st) p3) pos) (tRevS te ts) := by
  refine ⟨fun pins s σ H Q I h => ?_⟩
  refine Subscript_ (thn (he.run pins s σ H _ I h) fun v s1 ⟨x, H1, I1, r1, q1⟩ => ?_)
  refine wpAny_Slice (thn (po_none.run pins s1 σ H1 (fun o H2 => o = none ∧ H2 = H1) I1 ⟨rfl, rfl⟩) fun vl s2 ⟨l, H2, I2, pl, el, e2⟩ => ?_)
  subst el e2
  refine thn (po_none.run pins s2 σ H2 (fun o H3 => o = none ∧ H3 = H2) I2 ⟨rfl, rfl⟩) fun vu s3 ⟨u, H3, I3, pu, eu, e3⟩ => ?_
  subst eu e3
  rw [evalPart_some]
  refine thn (hst.run pins s3 σ H3 _ I3 q1) fun vs s4 ⟨i, H4, I4, ri, z, ex, ei, hz, q⟩ => ?_
  subst ex ei
  obtain ⟨t, rfl⟩ := r1
  obtain ⟨ti, rfl⟩ := ri
  cases pl
  cases pu
  have I5 : Inv X pins σ H4 { s4 with heap := s4.heap.push { cls := .type "slice", data := .fields #[.none, .none, .int (-1) ti] } } := I4.kept (t' := s4.toks) fun b ob q => Heap.get?_push_of_some _ q
  show wpAny (model X.prog X.w) X.A (subscriptTail e (.Slice none none (some st) p3) (.str z t) (.ref s4.heap.objs.size)) (EP X pins σ Q) X.xe { s4 with heap := s4.heap.push { cls := .type "slice", data := .fields #[.none, .none, .int (-1) ti] } }
  refine tail_any (ops := [.ref s4.heap.objs.size, .str z t]) (typeIs_str _ _ _) F.slot_str_getitem.lookup ?_ (by with_unfolding_all rfl)
  refine wpAny_getItem_str_slice (l := none) (u := none) (st := some (-1, ti)) ⟨_, Heap.get?_push_size _ rfl, rfl, rfl⟩ rfl ?_
  have em : sliceMade z t none none (some (-1, ti)) = .str (revS z) := by
    unfold sliceMade slicePicked
    rw [if_neg (by simp)]
    show Made.str ⟨((Builtin.Str.strSliceIndices none none (-1) z.length).filterMap (z.cps[·]?)).toArray⟩ = _
    rw [picked_rev]
    show Made.str ⟨(((List.range z.cps.size).map fun k => z.cps.size - 1 - k).filterMap (z.cps[·]?)).toArray⟩ = _
    rw [pick_rev]
    rfl
  rw [em]
  refine ⟨?_, .str (revS z), H4, I5.tok _, ⟨_, rfl⟩, q⟩
  have e : (revS z).length = z.length := by simp [revS, Str.length]
  rw [e]; exact hz
end
end AR
namespace AR
open PySem PySem.Spec PyProof.Rows L2
/-! ### an iterator of new pairs that are held -/
structure PairIter (prog : Program) (w : World) (A : Around) (I S : Addr) (n : Nat) (Pr : Nat → Value → Value → Prop) (wr : List Addr) (St : Nat → Heap → Prop) : Prop where
  item : ∀ i (s : Shared) (Q : Option Value → Shared → Prop) (E : Value → Shared → Prop), i < n → St i s.heap → S < s.heap.objs.size →
    (∀ x y h' tk, Pr i x y → St (i + 1) h' → IsTupOf2 h' s.heap.objs.size x y → (∀ b o, b ∉ wr → s.heap.get? b = some o → h'.get? b = some o) → Q (some (.ref s.heap.objs.size)) { s with heap := h', toks := tk }) →
    wpAny (model prog w) A (pyNext (.ref I)) Q E s
  done : ∀ (s : Shared) (Q : Option Value → Shared → Prop) (E : Value → Shared → Prop), St n s.heap →
    (∀ h' tk, (∀ b o, b ∉ wr → s.heap.get? b = some o → h'.get? b = some o) → Q none { s with heap := h', toks := tk }) → wpAny (model prog w) A (pyNext (.ref I)) Q E s
  keep : ∀ i h h', St i h → (∀ b o, b ≠ S → h.get? b = some o → h'.get? b = some o) → St i h'
  low : ∀ b ∈ wr, b < S
/-- the tuples made so far -/
structure Made2 (Pr : Nat → Value → Value → Prop) (S : Addr) (h : Heap) (as : List Addr) : Prop where
  rise : as.Pairwise (· < ·)
  above : ∀ a ∈ as, S < a
  pairs : ∀ (j : Nat) (a : Addr), as[j]? = some a → ∃ x y, Pr j x y ∧ IsTupOf2 h a x y
section
variable {prog : Program} {w : World} {A : Around} {s : Shared} {R : Result → Shared → Prop} {I S : Addr} {n : Nat} {Pr : Nat → Value → Value → Prop} {wr : List Addr} {St : Nat → Heap → Prop}
theorem pl_loop (W : PairIter prog w A.in1 I S n Pr wr St) (hn : n ≤ sizeLine) (res : Value) {h₁ : Heap}
    (hR : ∀ h' tk acc c as, (∀ b o, b ≠ S → b ∉ wr → h₁.get? b = some o → h'.get? b = some o) → h'.get? S = some { cls := .type "list", dict := none, data := .seq acc c, slots := #[] } → as.length = n → Made2 Pr S h' as →
      acc.toList = as.map Value.ref → R (.ok (.ret res)) { s with heap := h', toks := tk }) :
    ∀ (k i : Nat) (h : Heap) (tk c : Nat) (acc : Array Value) (as : List Addr), n - i = k → i ≤ n → St i h → (∀ b o, b ≠ S → b ∉ wr → h₁.get? b = some o → h.get? b = some o) →
      h.get? S = some { cls := .type "list", dict := none, data := .seq acc c, slots := #[] } → acc.toList = as.map Value.ref → as.length = i → Made2 Pr S h as →
      codeAny (model prog w) A (.builtin "list.extend.loop" ⟨[.ref S, .ref I, res], []⟩) R { s with heap := h, toks := tk } := by
  have hSw : S ∉ wr := fun m => absurd (W.low S m) (Nat.lt_irrefl _)
  have haw : ∀ a, S < a → a ∉ wr := fun a ha m => absurd (Nat.lt_trans ha (W.low a m)) (Nat.lt_irrefl _)
  intro k
  induction k with
  | zero =>
    intro i h tk c acc as hk hi hst hkeep hS hacc hal hG
    have hin : i = n := by omega
    subst hin
    refine codeAny_builtin PySem.F.entry_extend_loop ?_
    rw [Around.under_plainId PySem.F.plain_extend_loop _]
    show wpAny _ A.in1 (pyNext (.ref I) >>= _) _ _ _
    refine wpAny_bind (W.done { s with heap := h, toks := tk } _ _ hst fun h' tk' he => ?_)
    refine wpAny_pure (hR h' tk' acc c as (fun b o h1 h2 e => he b o h2 (hkeep b o h1 h2 e)) (he S _ hSw hS) (by omega) ⟨hG.rise, hG.above, fun j a hj => ?_⟩ hacc)
    obtain ⟨x, y, hp, e3⟩ := hG.pairs j a hj
    exact ⟨x, y, hp, he a _ (haw a (hG.above a (List.mem_of_getElem? hj))) e3⟩
  | succ k ih =>
    intro i h tk c acc as hk hi hst hkeep hS hacc hal hG
    have hlt : i < n := by omega
    have hsz : acc.size = i := by rw [← Array.length_toList, hacc, List.length_map, hal]
    refine codeAny_builtin PySem.F.entry_extend_loop ?_
    rw [Around.under_plainId PySem.F.plain_extend_loop _]
    show wpAny _ A.in1 (pyNext (.ref I) >>= _) _ _ _
    refine wpAny_bind (W.item i { s with heap := h, toks := tk } _ _ hlt hst (Heap.lt_size hS) fun x y h' tk' hp hst' ht hkp => ?_)
    dsimp only at ht hkp ⊢
    have hS' := hkp S _ hSw hS
    have up : ∀ b o, b ≠ S → h'.get? b = some o → (h'.update S (Obj.mapSeq (·.push (Value.ref h.objs.size)))).get? b = some o := fun b o hb e => (Heap.get?_update_other _ _ (Ne.symm hb)).trans e
    have hSl : S < h.objs.size := Heap.lt_size hS
    show wpAny _ A.in1 (updateSeq S (·.push (Value.ref h.objs.size)) >>= _) _ _ _
    refine wpAny_bind ?_
    refine wpAny_updateSeq hS' rfl (wpAny_pure ⟨plainId_quiet PySem.F.plain_extend_loop _, ih (i + 1) _ tk' _ (acc.push (Value.ref h.objs.size)) (as ++ [h.objs.size]) (by omega) hlt (W.keep _ _ _ hst' up)
      (fun b o h1 h2 e => up b o h1 (hkp b o h2 (hkeep b o h1 h2 e))) (Heap.get?_update_self _ hS' rfl) (by rw [Array.toList_push, hacc, List.map_append]; rfl) (by rw [List.length_append, hal]; rfl) ⟨?_, ?_, ?_⟩⟩) (by rw [hsz]; omega) (by show (acc.push (Value.ref h.objs.size)).size ≤ sizeLine + 1; rw [Array.size_push, hsz]; omega)
    · refine List.pairwise_append.mpr ⟨hG.rise, List.pairwise_singleton _ _, fun a ha b hb => ?_⟩
      rw [List.mem_singleton.mp hb]
      obtain ⟨j, hj⟩ := List.mem_iff_getElem?.mp ha
      obtain ⟨x', y', _, e⟩ := hG.pairs j a hj
      exact Heap.lt_size e
    · intro a ha
      rcases List.mem_append.mp ha with ha | ha
      · exact hG.above a ha
      · rw [List.mem_singleton.mp ha]; exact hSl
    · intro j b hj
      rcases Nat.lt_trichotomy j as.length with h1 | h1 | h1
      · rw [List.getElem?_append_left h1] at hj
        obtain ⟨x', y', hp', e3⟩ := hG.pairs j b hj
        have hb := hG.above b (List.mem_of_getElem? hj)
        exact ⟨x', y', hp', up b _ (Nat.ne_of_gt hb) (hkp b _ (haw b hb) e3)⟩
      · subst h1
        have hb : h.objs.size = b := by simpa using hj
        subst hb
        rw [hal]
        exact ⟨x, y, hp, up _ _ (Nat.ne_of_gt hSl) ht⟩
      · have hnone : (as ++ [h.objs.size])[j]? = none := List.getElem?_eq_none (by rw [List.length_append, List.length_singleton]; omega)
        rw [hnone] at hj; cases hj
end
/-! ### zip, its tuples held -/
section
variable {prog : Program} {w : World} {A : Around} {E : Value → Shared → Prop} {s : Shared} {z TI TO i1 i2 S : Addr} {fp1 fp2 : List Addr} {n1 n2 i : Nat} {P1 P2 : Nat → Value → Prop} {St1 St2 : Nat → Heap → Prop} {a1 a2 : Value}
theorem zipD_item_held {T : Addr} {f : Bool} {oT : Obj} {Q : Value → Shared → Prop} (S : ZipSep2 z TI TO i1 i2 fp1 fp2) (D1 : Draws prog w A i1 fp1 n1 P1 St1) (D2 : Draws prog w A i2 fp2 n2 P2 St2)
    (hz : IsZipHeld s.heap z TI TO T f) (hT : s.heap.get? T = some oT) (hTI : IsTupOf2 s.heap TI (.ref i1) (.ref i2)) (st1 : St1 i s.heap) (st2 : St2 i s.heap) (hlt1 : i < n1) (hlt2 : i < n2)
    (hQ : ∀ x y h' tk, P1 i x → P2 i y → IsZipHeld h' z TI TO T true → St1 (i + 1) h' → St2 (i + 1) h' → IsTupOf2 h' s.heap.objs.size x y →
      (∀ c o, c ≠ z → c ≠ i1 → c ≠ i2 → s.heap.get? c = some o → h'.get? c = some o) → Q (.ref s.heap.objs.size) { s with heap := h', toks := tk }) :
    wpAny (model prog w) A (Builtin.«zip.__next__» ⟨[.ref z], []⟩) (fun fin s' => ∃ v, fin = .done (.ret v) ∧ Q v s') E s := by
  obtain ⟨hp, g, d, tk0, os⟩ := s
  show wpAny _ _ (field (.ref z) 2 >>= _) _ _ _
  refine wpAny_bind (wpAny_field hz rfl (x := .bool false) rfl ?_)
  show wpAny _ _ (field (.ref z) 3 >>= _) _ _ _
  refine wpAny_bind (wpAny_field hz rfl (x := .ref TI) rfl ?_)
  refine wpAny_bind (wpAny_seqItems hTI rfl ?_)
  show wpAny _ _ (Builtin.SmallTypes.ownedTupleIsFree (.ref z) >>= _) _ _ _
  refine wpAny_bind (wpAny_tupleHeld_zip hz hT fun h₁ hz₁ hs₁ => ?_)
  replace hs₁ : Heap.SameBut z hp h₁ := hs₁
  simp only [Bool.false_eq_true, if_false]
  refine wpAny_bind ?_
  rw [← Array.forIn_toList]
  simp only [List.forIn_cons, List.forIn_nil]
  refine wpAny_bind (wpAny_bind (wpAny_holding ?_))
  show wpAny _ _ (Builtin.SmallTypes.nextOf (.ref i1) >>= _) _ _ ⟨h₁, g, d, tk0, os⟩
  refine wpAny_bind (D1.item i _ _ _ hlt1 (D1.over st1 hs₁ S.zf1) fun x h₂ tk1 hx sn1 hs₂ => wpAny_pure ?_)
  replace hs₂ : Heap.SameBut i1 h₁ h₂ := hs₂
  refine wpAny_pure ?_
  refine wpAny_bind (wpAny_bind (wpAny_holding ?_))
  show wpAny _ _ (Builtin.SmallTypes.nextOf (.ref i2) >>= _) _ _ ⟨h₂, g, d, tk1, os⟩
  refine wpAny_bind (D2.item i _ _ _ hlt2 (D2.over (D2.over st2 hs₁ S.zf2) hs₂ S.sep1_2) fun y h₃ tk2 hy sn2 hs₃ => wpAny_pure ?_)
  replace hs₃ : Heap.SameBut i2 h₂ h₃ := hs₃
  refine wpAny_pure (wpAny_pure ?_)
  show wpAny _ _ (newTuple [x, y] >>= _) _ _ _
  refine wpAny_bind (wpAny_newTuple ?_)
  have hsz : h₃.objs.size = hp.objs.size := by rw [hs₃.1, hs₂.1, hs₁.1]
  have hz₃ : IsZipHeld h₃ z TI TO T true := hs₃.extBut _ _ S.zi2 (hs₂.extBut _ _ S.zi1 hz₁)
  have hk : ∀ c o, c ≠ z → c ≠ i1 → c ≠ i2 → hp.get? c = some o → h₃.get? c = some o := fun c o c1 c2 c3 e => hs₃.extBut _ _ c3 (hs₂.extBut _ _ c2 (hs₁.extBut _ _ c1 e))
  have hj1 : St1 (i + 1) h₃ := D1.over sn1 hs₃ S.sep2_1
  refine wpAny_pure ⟨_, rfl, ?_⟩
  show Q (.ref h₃.objs.size) ⟨h₃.push { cls := .type "tuple", data := .seq #[x, y] }, g, d, tk2, os⟩
  have hp' : IsTupOf2 (h₃.push { cls := .type "tuple", data := .seq #[x, y] }) h₃.objs.size x y := Heap.get?_push_size _ rfl
  rw [hsz] at hp' ⊢
  exact hQ x y _ tk2 hx hy (Heap.get?_push_of_some _ hz₃) (D1.frame _ _ _ hj1 fun b hb o e => Heap.get?_push_of_some _ e) (D2.frame _ _ _ sn2 fun b hb o e => Heap.get?_push_of_some _ e) hp' fun c o c1 c2 c3 e => Heap.get?_push_of_some _ (hk c o c1 c2 c3 e)
theorem zipD_end_held {T : Addr} {f : Bool} {oT : Obj} {Q : Fin → Shared → Prop} (S : ZipSep2 z TI TO i1 i2 fp1 fp2) (D1 : Draws prog w A i1 fp1 n1 P1 St1) (D2 : Draws prog w A i2 fp2 n2 P2 St2)
    (hz : IsZipHeld s.heap z TI TO T f) (hT : s.heap.get? T = some oT) (hTI : IsTupOf2 s.heap TI (.ref i1) (.ref i2)) (st1 : St1 i s.heap) (st2 : St2 i s.heap) (hle1 : i ≤ n1) (hle2 : i ≤ n2) (hend : i = n1 ∨ i = n2)
    (hE : ∀ h' tk e, (∀ c o, c ≠ z → c ≠ i1 → c ≠ i2 → s.heap.get? c = some o → h'.get? c = some o) → (∃ o, h'.get? e = some o ∧ o.cls = .type "StopIteration") → E (.ref e) { s with heap := h', toks := tk }) :
    wpAny (model prog w) A (Builtin.«zip.__next__» ⟨[.ref z], []⟩) Q E s := by
  obtain ⟨hp, g, d, tk0, os⟩ := s
  show wpAny _ _ (field (.ref z) 2 >>= _) _ _ _
  refine wpAny_bind (wpAny_field hz rfl (x := .bool false) rfl ?_)
  show wpAny _ _ (field (.ref z) 3 >>= _) _ _ _
  refine wpAny_bind (wpAny_field hz rfl (x := .ref TI) rfl ?_)
  refine wpAny_bind (wpAny_seqItems hTI rfl ?_)
  show wpAny _ _ (Builtin.SmallTypes.ownedTupleIsFree (.ref z) >>= _) _ _ _
  refine wpAny_bind (wpAny_tupleHeld_zip hz hT fun h₁ hz₁ hs₁ => ?_)
  replace hs₁ : Heap.SameBut z hp h₁ := hs₁
  simp only [Bool.false_eq_true, if_false]
  refine wpAny_bind ?_
  rw [← Array.forIn_toList]
  simp only [List.forIn_cons, List.forIn_nil]
  refine wpAny_bind (wpAny_bind (wpAny_holding ?_))
  show wpAny _ _ (Builtin.SmallTypes.nextOf (.ref i1) >>= _) _ _ ⟨h₁, g, d, tk0, os⟩
  by_cases h1 : i = n1
  · subst h1
    refine wpAny_bind (D1.done _ _ _ (D1.over st1 hs₁ S.zf1) fun h₂ e hs₂ he => ?_)
    replace hs₂ : Heap.ExtBut i1 h₁ h₂ := hs₂
    exact hE h₂ tk0 e (fun c o c1 c2 _ x => hs₂ _ _ c2 (hs₁.extBut _ _ c1 x)) he
  · have h2 : i = n2 := by rcases hend with q | q; exact absurd q h1; exact q
    refine wpAny_bind (D1.item i _ _ _ (by omega) (D1.over st1 hs₁ S.zf1) fun x h₂ tk1 hx sn1 hs₂ => wpAny_pure ?_)
    replace hs₂ : Heap.SameBut i1 h₁ h₂ := hs₂
    refine wpAny_pure ?_
    refine wpAny_bind (wpAny_bind (wpAny_holding ?_))
    show wpAny _ _ (Builtin.SmallTypes.nextOf (.ref i2) >>= _) _ _ ⟨h₂, g, d, tk1, os⟩
    subst h2
    refine wpAny_bind (D2.done _ _ _ (D2.over (D2.over st2 hs₁ S.zf2) hs₂ S.sep1_2) fun h₃ e hs₃ he => ?_)
    replace hs₃ : Heap.ExtBut i2 h₂ h₃ := hs₃
    exact hE h₃ tk1 e (fun c o c1 c2 c3 x => hs₃ _ _ c3 (hs₂.extBut _ _ c2 (hs₁.extBut _ _ c1 x))) he
end
end AR
namespace AR
open PySem PySem.Spec PyProof.Rows L2
section
variable {prog : Program} {w : World} {A : Around} {z TI TO i1 i2 S : Addr} {fp1 fp2 : List Addr} {n1 n2 : Nat} {P1 P2 : Nat → Value → Prop} {St1 St2 : Nat → Heap → Prop}
def ZSt (z TI TO i1 i2 S : Addr) (St1 St2 : Nat → Heap → Prop) (i : Nat) (h : Heap) : Prop :=
  ((IsZip h z TI TO .none ∧ ∃ a1 a2, IsTupOf2 h TO a1 a2) ∨ ∃ T f oT, IsZipHeld h z TI TO T f ∧ h.get? T = some oT ∧ T ≠ z ∧ T ≠ i1 ∧ T ≠ i2 ∧ T ≠ S) ∧ IsTupOf2 h TI (.ref i1) (.ref i2) ∧ St1 i h ∧ St2 i h
theorem zip_pairIter (hS : ∀ b, b = z ∨ b = TI ∨ b = TO ∨ b ∈ fp1 ∨ b ∈ fp2 → b < S) (SP : ZipSep2 z TI TO i1 i2 fp1 fp2) (D1 : Draws prog w A.in1 i1 fp1 n1 P1 St1) (D2 : Draws prog w A.in1 i2 fp2 n2 P2 St2) :
    PairIter prog w A z S (min n1 n2) (fun i x y => P1 i x ∧ P2 i y) [z, TO, i1, i2] (ZSt z TI TO i1 i2 S St1 St2) where
  item := fun i s Q E hi st hSl hQ => by
    obtain ⟨hz, hTI, st1, st2⟩ := st
    have nT : ∀ c, c = z ∨ c = i1 ∨ c = i2 ∨ c = S → s.heap.objs.size ≠ c := fun c hc e => by
      have : c < s.heap.objs.size := by
        rcases hc with q | q | q | q
        · rw [q]; exact Nat.lt_trans (hS z (by simp)) hSl
        · rw [q]; exact Nat.lt_trans (hS i1 (by simp [SP.mem1])) hSl
        · rw [q]; exact Nat.lt_trans (hS i2 (by simp [SP.mem2])) hSl
        · rw [q]; exact hSl
      rw [e] at this
      exact absurd this (Nat.lt_irrefl _)
    rcases hz with ⟨hz, a1, a2, hTO⟩ | ⟨T, f, oT, hz, hT, t1, t2, t3, t4⟩
    · have hTy : s.TypeIs (.ref z) "zip" := ⟨_, hz, rfl⟩
      unfold pyNext
      refine wpAny_bind (wpAny_attempt (wpAny_callSpecial?_slot (name := Str.ofString "__next__") hTy F.slot_zip_next
        (wpAny_call_entry F.slot_zip_next hTy F.entry_zip_next
          (zipD2_next_item SP D1 D2 hz hTI hTO st1 st2 (by omega) (by omega) fun x y h' tk hx hy hz' hTO' sn1 sn2 ht hsz hk => wpAny_pure ?_) (F.args_zip_next_1 _))))
      refine hQ x y h' tk ⟨hx, hy⟩ ⟨.inr ⟨_, false, _, hz', ht, nT z (by simp), nT i1 (by simp), nT i2 (by simp), nT S (by simp)⟩, hk TI _ SP.TIz SP.TITO SP.TIi1 SP.TIi2 hTI, sn1, sn2⟩ ht fun b o hb e => ?_
      simp only [List.mem_cons, List.not_mem_nil, or_false, not_or] at hb
      exact hk b o hb.1 hb.2.1 hb.2.2.1 hb.2.2.2 e
    · have hTy : s.TypeIs (.ref z) "zip" := ⟨_, hz, rfl⟩
      unfold pyNext
      refine wpAny_bind (wpAny_attempt (wpAny_callSpecial?_slot (name := Str.ofString "__next__") hTy F.slot_zip_next
        (wpAny_call_entry F.slot_zip_next hTy F.entry_zip_next
          (zipD_item_held SP D1 D2 hz hT hTI st1 st2 (by omega) (by omega) fun x y h' tk hx hy hz' sn1 sn2 ht hk => wpAny_pure ?_) (F.args_zip_next_1 _))))
      refine hQ x y h' tk ⟨hx, hy⟩ ⟨.inr ⟨T, true, oT, hz', hk T oT t1 t2 t3 hT, t1, t2, t3, t4⟩, hk TI _ SP.TIz SP.TIi1 SP.TIi2 hTI, sn1, sn2⟩ ht fun b o hb e => ?_
      simp only [List.mem_cons, List.not_mem_nil, or_false, not_or] at hb
      exact hk b o hb.1 hb.2.2.1 hb.2.2.2 e
  done := fun s Q E st hQ => by
    obtain ⟨hz, hTI, st1, st2⟩ := st
    have hen : min n1 n2 = n1 ∨ min n1 n2 = n2 := by omega
    rcases hz with ⟨hz, a1, a2, hTO⟩ | ⟨T, f, oT, hz, hT, t1, t2, t3, t4⟩
    · have hTy : s.TypeIs (.ref z) "zip" := ⟨_, hz, rfl⟩
      unfold pyNext
      refine wpAny_bind (wpAny_attempt (wpAny_callSpecial?_slot (name := Str.ofString "__next__") hTy F.slot_zip_next
        (wpAny_call_entry F.slot_zip_next hTy F.entry_zip_next (zipD2_next_end SP D1 D2 hz hTI hTO st1 st2 (Nat.min_le_left _ _) (Nat.min_le_right _ _) hen fun h' tk e hk he => ?_) (F.args_zip_next_1 _))))
      obtain ⟨o, ho, hc⟩ := he
      refine wpAny_bind (wpAny_isInstance (T := "StopIteration") (b := true) ⟨o, ho, hc⟩ isSubtype_stop ?_)
      refine wpAny_pure (hQ h' tk fun b o hb e => ?_)
      simp only [List.mem_cons, List.not_mem_nil, or_false, not_or] at hb
      exact hk b o hb.1 hb.2.1 hb.2.2.1 hb.2.2.2 e
    · have hTy : s.TypeIs (.ref z) "zip" := ⟨_, hz, rfl⟩
      unfold pyNext
      refine wpAny_bind (wpAny_attempt (wpAny_callSpecial?_slot (name := Str.ofString "__next__") hTy F.slot_zip_next
        (wpAny_call_entry F.slot_zip_next hTy F.entry_zip_next (zipD_end_held SP D1 D2 hz hT hTI st1 st2 (Nat.min_le_left _ _) (Nat.min_le_right _ _) hen fun h' tk e hk he => ?_) (F.args_zip_next_1 _))))
      obtain ⟨o, ho, hc⟩ := he
      refine wpAny_bind (wpAny_isInstance (T := "StopIteration") (b := true) ⟨o, ho, hc⟩ isSubtype_stop ?_)
      refine wpAny_pure (hQ h' tk fun b o hb e => ?_)
      simp only [List.mem_cons, List.not_mem_nil, or_false, not_or] at hb
      exact hk b o hb.1 hb.2.2.1 hb.2.2.2 e
  keep := fun i h h' st k => by
    obtain ⟨hz, hTI, st1, st2⟩ := st
    have kk : ∀ b o, (b = z ∨ b = TI ∨ b = TO ∨ b ∈ fp1 ∨ b ∈ fp2) → h.get? b = some o → h'.get? b = some o := fun b o hb e => k b o (Nat.ne_of_lt (hS b hb)) e
    refine ⟨?_, kk TI _ (by simp) hTI, D1.frame _ _ _ st1 fun b hb o e => kk b o (by simp [hb]) e, D2.frame _ _ _ st2 fun b hb o e => kk b o (by simp [hb]) e⟩
    rcases hz with ⟨hz, a1, a2, hTO⟩ | ⟨T, f, oT, hz, hT, t1, t2, t3, t4⟩
    · exact .inl ⟨kk z _ (by simp) hz, a1, a2, kk TO _ (by simp) hTO⟩
    · exact .inr ⟨T, f, oT, kk z _ (by simp) hz, k T oT t4 hT, t1, t2, t3, t4⟩
  low := fun b hb => by
    have e' : b = z ∨ b = TO ∨ b = i1 ∨ b = i2 := by simpa using hb
    rcases e' with q | q | q | q
    · rw [q]; exact hS z (by simp)
    · rw [q]; exact hS TO (by simp)
    · rw [q]; exact hS i1 (by simp [SP.mem1])
    · rw [q]; exact hS i2 (by simp [SP.mem2])
end
theorem zip_no_len : typeLookup (.type "zip") "__len__" = pure none := am_miss_of_fast (by decide +kernel)
theorem zip_no_hint : typeLookup (.type "zip") "__length_hint__" = pure none := am_miss_of_fast (by decide +kernel)
section
variable {prog : Program} {w : World} {A : Around} {E : Value → Shared → Prop} {s : Shared} {I S : Addr} {n : Nat} {Pr : Nat → Value → Value → Prop} {wr : List Addr} {St : Nat → Heap → Prop}
theorem zip_hint {r : Addr} (hT : s.TypeIs (.ref r) "zip") {Q : Bool → Shared → Prop} (h : Q true s) : wpAny (model prog w) A (Builtin.List.listLengthHint (.ref r)) Q E s := by
  unfold Builtin.List.listLengthHint
  refine wpAny_bind (wpAny_specialOf hT zip_no_len ?_)
  refine wpAny_ite_split (fun hab => absurd hab (by decide)) (fun _ => ?_)
  refine wpAny_ite_split (fun hab => absurd hab (by decide)) (fun _ => ?_)
  refine wpAny_bind (wpAny_specialOf hT zip_no_hint ?_)
  exact wpAny_pure h
theorem pl_extend {R : Result → Shared → Prop} (W : PairIter prog w A.in1 I S n Pr wr St) (hn : n ≤ sizeLine) (hT : s.TypeIs (.ref I) "zip") (hIS : I ≠ S) (hst : St 0 s.heap)
    (self : ∀ (A' : Around) (s' : Shared) (Q : Value → Shared → Prop) (E : Value → Shared → Prop), s'.heap = s.heap → Q (.ref I) s' → wpAny (model prog w) A' (pyIter (.ref I)) Q E s')
    (res : Value) (c₀ : Nat) (hS : s.heap.get? S = some { cls := .type "list", data := .seq #[] c₀ })
    (hR : ∀ h' tk acc c as, (∀ b o, b ≠ S → b ∉ wr → s.heap.get? b = some o → h'.get? b = some o) → h'.get? S = some { cls := .type "list", dict := none, data := .seq acc c, slots := #[] } → as.length = n → Made2 Pr S h' as →
      acc.toList = as.map Value.ref → R (.ok (.ret res)) { s with heap := h', toks := tk }) :
    wpAny (model prog w) A.in1 (Builtin.List.listExtendWith (.ref S) (.ref I) res)
      (fun fin s' => match fin with | .done f => R (.ok f) s' | .again c' => c'.quiet = true ∧ codeAny (model prog w) A c' R s') (fun e s' => R (.error e) s') s := by
  have key : ∀ (h : Heap) (c₁ tk : Nat), St 0 h → (∀ b o, b ≠ S → b ∉ wr → s.heap.get? b = some o → h.get? b = some o) →
      h.get? S = some { cls := .type "list", data := .seq #[] c₁ } → codeAny (model prog w) A (.builtin "list.extend.loop" ⟨[.ref S, .ref I, res], []⟩) R { s with heap := h, toks := tk } := by
    intro h c₁ tk hst hk hS₁
    exact pl_loop W hn res hR n 0 h tk c₁ #[] [] (Nat.sub_zero _) (Nat.zero_le _) hst hk hS₁ rfl rfl ⟨List.Pairwise.nil, (fun _ ha => nomatch ha), (fun j a hj => by simp at hj)⟩
  unfold Builtin.List.listExtendWith
  refine wpAny_bind (wpAny_typeOf (T := "zip") hT ?_)
  have h1 : Builtin.List.listSameRef (.ref S) (.ref I) = false := by simp [Builtin.List.listSameRef, Ne.symm hIS]
  have h2 : (Value.type "zip" == Value.type "list") = false := by decide
  have h3 : (Value.type "zip" == Value.type "tuple") = false := by decide
  simp only [h1, h2, h3, Bool.or_false, Bool.false_eq_true, if_false]
  refine wpAny_bind (self _ _ _ _ rfl ?_)
  refine wpAny_bind (wpAny_holding (zip_hint hT ?_))
  refine wpAny_ite_split (fun _ => ?_) (fun _ => wpAny_pure ⟨plainId_quiet PySem.F.plain_extend_loop _, key _ c₀ _ hst (fun b o _ _ e => e) hS⟩)
  refine wpAny_bind (wpAny_rule ?_)
  refine wpAny_bind ?_
  show wpAny _ _ (updateSeq S (·.push .none) >>= fun _ => updateSeq S (·.pop)) _ _ _
  refine wpAny_bind (wpAny_updateSeq hS rfl ?_)
  have hS₂ := Heap.get?_update_self (Obj.mapSeq (·.push Value.none)) hS rfl
  refine wpAny_updateSeq (hz := by seq_fits) hS₂ rfl ?_
  have hS₃ := Heap.get?_update_self (Obj.mapSeq (·.pop)) hS₂ rfl
  have oth : ∀ b o, b ≠ S → s.heap.get? b = some o → ((s.heap.update S (Obj.mapSeq (·.push Value.none))).update S (Obj.mapSeq (·.pop))).get? b = some o := fun b o hb e => (Heap.get?_update_other _ _ (Ne.symm hb)).trans ((Heap.get?_update_other _ _ (Ne.symm hb)).trans e)
  exact wpAny_pure ⟨plainId_quiet PySem.F.plain_extend_loop _, key _ _ _ (W.keep _ _ _ hst oth) (fun b o hb _ e => oth b o hb e) hS₃⟩
end
end AR
namespace AR
open PySem PySem.Spec PyProof.Rows L2
section
variable {prog : Program} {w : World} {A : Around} {E : Value → Shared → Prop} {s : Shared} {I : Addr} {n : Nat} {Pr : Nat → Value → Value → Prop} {wr : List Addr} {St : Nat → Heap → Prop}
/-- list(zip) -/
theorem pl_call {Q : Value → Shared → Prop} (W : PairIter prog w A.in1.in1 I s.heap.objs.size n Pr wr St) (hn : n ≤ sizeLine) (hT : s.TypeIs (.ref I) "zip") (hst : St 0 s.heap) (hI : I < s.heap.objs.size)
    (self : ∀ (A' : Around) (s' : Shared) (Q : Value → Shared → Prop) (E : Value → Shared → Prop), (∀ o, s.heap.get? I = some o → s'.heap.get? I = some o) → Q (.ref I) s' → wpAny (model prog w) A' (pyIter (.ref I)) Q E s')
    (hQ : ∀ h' tk acc c as, (∀ b o, b ∉ wr → s.heap.get? b = some o → h'.get? b = some o) → h'.get? s.heap.objs.size = some { cls := .type "list", dict := none, data := .seq acc c, slots := #[] } → as.length = n → Made2 Pr s.heap.objs.size h' as →
      acc.toList = as.map Value.ref → Q (.ref s.heap.objs.size) { s with heap := h', toks := tk }) :
    wpAny (model prog w) A (call (.type "list") [.ref I]) Q E s := by
  refine callType_codes (Q₁ := fun obj s₁ => obj = .ref s.heap.objs.size ∧ s₁ = { s with heap := s.heap.push { cls := .type "list", data := .seq #[] } }) PySem.F.called_list (PySem.F.typeCall_list_1 _) PySem.F.entry_list_init
    (code_list_new _ ⟨rfl, rfl⟩) fun obj s₁ h₁ => ?_
  obtain ⟨rfl, rfl⟩ := h₁
  have hS : (s.heap.push { cls := .type "list", data := .seq #[] }).get? s.heap.objs.size = some { cls := .type "list", data := .seq #[] } := Heap.get?_push_size _ rfl
  have hIS : I ≠ s.heap.objs.size := Nat.ne_of_lt hI
  refine ⟨⟨_, hS, rfl⟩, PySem.F.args_list_init_2 _ _, ?_⟩
  show wpAny _ _ (do let old ← Builtin.List.listItems (.ref s.heap.objs.size); Builtin.List.listUpdate (.ref s.heap.objs.size) (fun _ => #[]); letGo old.toList.reverse; Builtin.List.listExtendWith (.ref s.heap.objs.size) (.ref I) .none) _ _ _
  refine wpAny_bind ?_
  unfold Builtin.List.listItems
  refine wpAny_bind (wpAny_seqItems hS rfl (wpAny_pure ?_))
  show wpAny _ _ (updateSeq s.heap.objs.size (fun _ => #[]) >>= fun _ => letGo (#[] : Array Value).toList.reverse >>= fun _ => Builtin.List.listExtendWith (.ref s.heap.objs.size) (.ref I) .none) _ _ _
  refine wpAny_bind (wpAny_updateSeq hS rfl ?_)
  have hS₂ := Heap.get?_update_self (Obj.mapSeq (fun _ => (#[] : Array Value))) hS rfl
  have oth : ∀ b o, b ≠ s.heap.objs.size → s.heap.get? b = some o → ((s.heap.push { cls := .type "list", data := .seq #[] }).update s.heap.objs.size (Obj.mapSeq (fun _ => (#[] : Array Value)))).get? b = some o :=
    fun b o hb e => (Heap.get?_update_other _ _ (Ne.symm hb)).trans (Heap.get?_push_of_some _ e)
  refine wpAny_bind (wpAny_letGo ?_)
  refine pl_extend (A := A.in1) W hn (let ⟨o, ho, hc⟩ := hT; ⟨o, oth I o hIS ho, hc⟩) hIS (W.keep _ _ _ hst oth) (fun A' s' Q E e h => self A' s' Q E (fun o ho => by rw [e]; exact oth I o hIS ho) h) .none _ hS₂ (fun h' tk acc c as hk hS' hl hG hacc => ?_)
  exact ⟨rfl, hQ h' tk acc c as (fun b o hb e => hk b o (Nat.ne_of_lt (Heap.lt_size e)) hb (oth b o (Nat.ne_of_lt (Heap.lt_size e)) e)) hS' hl hG hacc⟩
end
section
variable {X : Cx} {pins : List (Addr × Obj)} {σ : L2.St} {H : Hp} {s : Shared}
/-- several new objects, tracked at once -/
theorem laidAll {as : List Addr} {H' : Hp} {h' : Heap} {t' : Nat} (I : Inv X pins σ H s) (k : ∀ b u, s.heap.get? b = some u → h'.get? b = some u) (hf : ∀ a ∈ as, s.heap.objs.size ≤ a) (off : ∀ b, b ∉ as → H' b = H b)
    (new : ∀ a ∈ as, ∀ o, H' a = some o → ObjOk X.prog X.w H' h' a o) : Inv X pins σ H' { s with heap := h', toks := t' } := by
  have hfr : ∀ a ∈ as, H a = none := fun a ha => I.hok.fresh (hf a ha)
  have kp : ∀ b o, H b = some o → H' b = some o := fun b o e => by
    rw [off b fun hb => by rw [hfr b hb] at e; cases e]; exact e
  have nas : ∀ b o, s.heap.get? b = some o → b ∉ as := fun b o e hb => absurd (Nat.lt_of_lt_of_le (Heap.lt_size e) (hf b hb)) (Nat.lt_irrefl _)
  refine I.un ⟨fun b o q _ _ _ => k b o q, fun b o q _ _ _ => ⟨o.slots, k b o q⟩, fun b o q n _ => by rw [off b (nas b o q)]; exact n, fun b o q _ => ⟨o, k b o q⟩, fun b xs q => kp b _ q, fun b o u q => kp b _ q, fun b ps q => ⟨#[], by rw [kp b _ q]; simp⟩⟩ fun b o e => ?_
  by_cases hb : b ∈ as
  · exact new b hb o e
  · rw [off b hb] at e
    exact (I.hok b o e).stay (fun c v _ q => k c v q) (fun c q => kp c _ q) fun c xs q => kp c _ q
/-- list(zip(a, b)): a new list of new pairs -/
def tListZ (K : PySem.W.Frag) (ta : TA) : TE := fun σ H Q => ta σ H fun vs H1 => ∃ s1 s2 : Src, ∃ xs ys, vs = [s1.v, s2.v] ∧ s1.has K H1 xs ∧ s2.has K H1 ys ∧ min xs.length ys.length ≤ sizeLine ∧
  ∀ (l : Addr) (as : List Addr) (H' : Hp), H1 l = none → (∀ a ∈ as, H1 a = none) → Same H1 H' → H' l = some (.lst (as.map V.ref)) → as.length = min xs.length ys.length →
    (∀ (j : Nat) a, as[j]? = some a → ∃ x y, xs[j]? = some x ∧ ys[j]? = some y ∧ H' a = some (.tup [x, y])) → Q (.ref l) H'
theorem pe_listZ {e e2 : Expr} {ta : TA} {p p2 pos pos2 : Pos} (hc : X.calm = true) (hg : Gl X "list") (hm : X.mg "list" = none) (hg2 : Gl X "zip") (hm2 : X.mg "zip" = none) (ha : PA X [e, e2] ta)
    (hs : starEach [.Call (.Name "zip" p2) [e, e2] [] pos2] X.env = (false, eval (.Call (.Name "zip" p2) [e, e2] [] pos2) X.env) :: starEach [] X.env := by rfl)
    (hs2 : starEach [e, e2] X.env = (false, eval e X.env) :: starEach [e2] X.env := by rfl) (hpl : (backTo pos2 (starEach [e2] X.env)).any (·.1) = false := by rfl) :
    PE X (.Call (.Name "list" p) [.Call (.Name "zip" p2) [e, e2] [] pos2] [] pos) (tListZ X.K ta) := by
  refine ⟨fun pins s σ H Q I h => ?_⟩
  refine wpAny_Call_Name_kw (ld_blt I hg hm (show bootBuiltins "list" = some (.type "list") by decide +kernel) ?_)
  refine PyProof.Rows.callWith_type1 ?_ hs rfl
  rw [hs]
  show wpAny _ _ (spliced ((false, eval (.Call (.Name "zip" p2) [e, e2] [] pos2) X.env) :: backTo pos (starEach [] X.env))) _ _ s
  refine Calls.spliced_cons ?_
  refine Call_ (ld_blt I hg2 hm2 PyProof.Rows.boot_zip (PyProof.Rows.callWith_type1 (thn (ha.run pos2 pins s σ H _ I h) fun us s1 ⟨vs, H1, I1, r1, q1⟩ => ?_) hs2 hpl))
  obtain ⟨c1, c2, xs, ys, rfl, g1, g2, hn, q⟩ := q1
  cases r1 with
  | cons r rr =>
    cases rr with
    | cons r' rr =>
      cases rr
      obtain ⟨t1, e1⟩ := c1.is_of r
      obtain ⟨t2, e2⟩ := c2.is_of r'
      obtain ⟨it1, o1, r1, l1, _⟩ := Src.given I1 c1 g1
      obtain ⟨it2, o2, r2, l2, _⟩ := Src.given I1 c2 g2
      refine zip_begins2 (c1.begins t1 it1 e1) (c2.begins t2 it2 e2) o1 o2 fun h' hz hTI hTO h1 h2 hsz hk => ?_
      refine Calls.spliced_nil ?_
      have I2 : Inv X pins σ H1 { s1 with heap := h' } := I1.kept (t' := s1.toks) hk
      have D1 := Src.draws (P := X.prog) (w := X.w) (A := X.A.in1.in1.in1) (I1.ok.hd hc) c1 t1 s1.heap.objs.size it1 xs r1 (fun b hb => Nat.ne_of_lt (l1 b hb))
      have D2 := Src.draws (P := X.prog) (w := X.w) (A := X.A.in1.in1.in1) (I1.ok.hd hc) c2 t2 (s1.heap.objs.size + 1) it2 ys r2 (fun b hb => Nat.ne_of_lt (Nat.lt_succ_of_lt (l2 b hb)))
      have ok1 : c1.ok it1 h' := (c1.begins t1 it1 e1).keeps _ _ o1 hk
      have ok2 : c2.ok it2 h' := (c2.begins t2 it2 e2).keeps _ _ o2 hk
      have W := zip_pairIter (prog := X.prog) (w := X.w) (A := X.A.in1.in1) (S := h'.objs.size) (z := s1.heap.objs.size + 4) (TI := s1.heap.objs.size + 2) (TO := s1.heap.objs.size + 3) (fun b hb => by
        have hle : b < s1.heap.objs.size + 5 := by
          rcases hb with q | q | q | q | q
          · rw [q]; exact Nat.lt_succ_self _
          · rw [q]; exact Nat.add_lt_add_left (by decide) _
          · rw [q]; exact Nat.add_lt_add_left (by decide) _
          · rcases List.mem_cons.mp q with q | q
            · rw [q]; exact Nat.lt_add_of_pos_right (by decide)
            · exact Nat.lt_of_lt_of_le (l1 b q) (Nat.le_add_right _ _)
          · rcases List.mem_cons.mp q with q | q
            · rw [q]; exact Nat.add_lt_add_left (by decide) _
            · exact Nat.lt_of_lt_of_le (l2 b q) (Nat.le_add_right _ _)
        rw [hsz]; exact hle) (zip_sep2 l1 l2) D1 D2
      refine pl_call (s := { s1 with heap := h' }) W hn ⟨_, hz, rfl⟩ ⟨.inl ⟨hz, _, _, hTO⟩, hTI, ⟨c1.at_obj t1 h1, ok1⟩, ⟨c2.at_obj t2 h2, ok2⟩⟩ (Heap.lt_size hz) (fun A' s' Q E kk hq => wpAny_pyIter_zip (kk _ hz) hq) fun h'' tk acc c as hk2 hS hl hG hacc => ?_
      have hk3 : ∀ b o, s1.heap.get? b = some o → h''.get? b = some o := fun b o eb => hk2 b o (fun hb => by
        have lt := Heap.lt_size eb
        have e' : b = s1.heap.objs.size + 4 ∨ b = s1.heap.objs.size + 3 ∨ b = s1.heap.objs.size ∨ b = s1.heap.objs.size + 1 := by simpa using hb
        rcases e' with q | q | q | q <;> (rw [q] at lt; exact absurd lt (by first | exact Nat.lt_irrefl _ | exact Nat.not_lt.mpr (Nat.le_add_right _ _)))) (hk b o eb)
      have hS0 : s1.heap.objs.size ≤ h'.objs.size := by rw [hsz]; exact Nat.le_add_right _ _
      -- each tuple by its place
      have tv : ∀ (j : Nat) a, as[j]? = some a → ∃ x y, xs[j]? = some x ∧ ys[j]? = some y ∧ ∃ u u', RelV x u ∧ RelV y u' ∧ IsTupOf2 h'' a u u' := fun j a ja => by
        obtain ⟨u, u', ⟨⟨x, hx, rx⟩, ⟨y, hy, ry⟩⟩, ht⟩ := hG.pairs j a ja
        exact ⟨x, y, hx, hy, u, u', rx, ry, ht⟩
      have ndup : ∀ (i j : Nat) a, as[i]? = some a → as[j]? = some a → i = j := fun i j a hi hj => by
        rcases Nat.lt_trichotomy i j with lt | eq | gt
        · have := List.pairwise_iff_getElem.mp hG.rise i j (List.getElem?_eq_some_iff.mp hi).1 (List.getElem?_eq_some_iff.mp hj).1 lt
          rw [(List.getElem?_eq_some_iff.mp hi).2, (List.getElem?_eq_some_iff.mp hj).2] at this
          exact absurd this (Nat.lt_irrefl _)
        · exact eq
        · have := List.pairwise_iff_getElem.mp hG.rise j i (List.getElem?_eq_some_iff.mp hj).1 (List.getElem?_eq_some_iff.mp hi).1 gt
          rw [(List.getElem?_eq_some_iff.mp hi).2, (List.getElem?_eq_some_iff.mp hj).2] at this
          exact absurd this (Nat.lt_irrefl _)
      let f : Addr → Option HO := fun a => match as.idxOf? a with
        | some j => (match xs[j]?, ys[j]? with
          | some x, some y => some (.tup [x, y])
          | _, _ => none)
        | none => none
      let H' : Hp := fun b => if b = h'.objs.size then some (.lst (as.map V.ref)) else if b ∈ as then f b else H1 b
      have nS : ∀ a ∈ as, a ≠ h'.objs.size := fun a ha => Nat.ne_of_gt (hG.above a ha)
      have atH : ∀ (j : Nat) a x y, as[j]? = some a → xs[j]? = some x → ys[j]? = some y → H' a = some (.tup [x, y]) := fun j a x y ja hx hy => by
        have hm := List.mem_of_getElem? ja
        show (if a = h'.objs.size then some (HO.lst (as.map V.ref)) else if a ∈ as then f a else H1 a) = _
        rw [if_neg (nS a hm), if_pos hm]
        show (match as.idxOf? a with
          | some j => (match xs[j]?, ys[j]? with
            | some x, some y => some (HO.tup [x, y])
            | _, _ => none)
          | none => none) = _
        cases hi : as.idxOf? a with
        | none =>
          have := List.idxOf?_eq_none_iff.mp hi
          exact absurd hm this
        | some i =>
          have hi2 : as[i]? = some a := by
            obtain ⟨hlt, he, _⟩ := List.findIdx?_eq_some_iff_getElem.mp (show as.findIdx? (· == a) = some i from hi)
            rw [List.getElem?_eq_getElem hlt]
            exact congrArg some (beq_iff_eq.mp he)
          have : i = j := ndup i j a hi2 ja
          subst this
          show (match xs[i]?, ys[i]? with
            | some x, some y => some (HO.tup [x, y])
            | _, _ => none) = _
          rw [hx, hy]
      have J : Inv X pins σ H' { s1 with heap := h'', toks := tk } := by
        refine laidAll (as := h'.objs.size :: as) I1 hk3 (fun a ha => ?_) (fun b hb => ?_) fun a ha o e => ?_
        · rcases List.mem_cons.mp ha with q | q
          · rw [q]; exact hS0
          · exact Nat.le_trans hS0 (Nat.le_of_lt (hG.above a q))
        · show (if b = h'.objs.size then some (HO.lst (as.map V.ref)) else if b ∈ as then f b else H1 b) = _
          rw [if_neg (fun q => hb (by rw [q]; exact List.mem_cons_self)), if_neg (fun q => hb (List.mem_cons_of_mem _ q))]
        · by_cases hS' : a = h'.objs.size
          · subst hS'
            have eo : H' h'.objs.size = some (.lst (as.map V.ref)) := if_pos rfl
            rw [eo] at e
            cases e
            refine ⟨by rw [List.length_map, hl]; exact hn, acc.toList, c, ?_, by simpa using hS⟩
            rw [hacc]
            refine paired_of_get (by simp) fun j v u h1 h2 => ?_
            rw [List.getElem?_map] at h1 h2
            cases ej : as[j]? with
            | none => rw [ej] at h1; cases h1
            | some b =>
              rw [ej] at h1 h2
              cases h1; cases h2
              rfl
          · have hm : a ∈ as := by rcases List.mem_cons.mp ha with q | q; exact absurd q hS'; exact q
            obtain ⟨j, ja⟩ := List.mem_iff_getElem?.mp hm
            obtain ⟨x, y, hx, hy, u, u', rx, ry, ht⟩ := tv j a ja
            rw [atH j a x y ja hx hy] at e
            cases e
            exact ⟨by show 2 ≤ sizeLine; decide, [u, u'], .cons rx (.cons ry .nil), ⟨_, ht, rfl, _, rfl⟩⟩
      have fS : H1 h'.objs.size = none := I1.hok.fresh hS0
      have fa : ∀ a ∈ as, H1 a = none := fun a ha => I1.hok.fresh (Nat.le_trans hS0 (Nat.le_of_lt (hG.above a ha)))
      refine ⟨.ref _, H', J, rfl, q _ as H' fS fa (fun b o e => ?_) (if_pos rfl) hl fun j a ja => ?_⟩
      · show (if b = h'.objs.size then some (HO.lst (as.map V.ref)) else if b ∈ as then f b else H1 b) = _
        rw [if_neg (ne_of_none e fS), if_neg (fun hm => by rw [fa b hm] at e; cases e)]
        exact e
      · obtain ⟨x, y, hx, hy, _⟩ := tv j a ja
        exact ⟨x, y, hx, hy, atH j a x y ja hx hy⟩
end
end AR
namespace AR
open PySem PySem.Spec PyProof.Rows L2
section
variable {K : PySem.W.Frag} {σ : L2.St} {H H' : Hp} {Q : VK} {D : Ends} {i : Nat} {v x y : V} {ta tb te : TE} {t u : TS} {c : TT} {r : R2} {a b p : Addr}
theorem i_var {v : V} (h : σ[i]? = some (some v)) (k : Q v H) : tVar i σ H Q := ⟨v, h, k⟩
theorem i_c (k : Q v H) : tC v σ H Q := k
theorem i_op (k : ta σ H fun x H1 => tb σ H1 fun y H2 => r x y H2 Q) : tOp r ta tb σ H Q := k
theorem i_un {r : V → Hp → VK → Prop} (k : ta σ H fun x H1 => r x H1 Q) : tUn r ta σ H Q := k
theorem i_I0 {g : Int → Int → V} {i j : Int} (k : Q (g i j) H) : rI0 g (.int i) (.int j) H Q := ⟨i, j, rfl, rfl, k⟩
theorem i_I {C : Int → Int → Prop} {g : Int → Int → V} {i j : Int} (c : C i j) (k : Q (g i j) H) : rI C g (.int i) (.int j) H Q := ⟨i, j, rfl, rfl, c, k⟩
theorem i_U {g : Int → V} {i : Int} (k : Q (g i) H) : rU g (.int i) H Q := ⟨i, rfl, k⟩
theorem i_eq (s : scal x y = true) (k : Q (.bl (decide (x = y))) H) : rEq x y H Q := ⟨s, k⟩
theorem i_ne (s : scal x y = true) (k : Q (.bl (!decide (x = y))) H) : rNe x y H Q := ⟨s, k⟩
theorem i_ixL {xs : List V} {i : Int} {v : V} (h : SqL K H p xs) (e : atI xs i = some v) (k : Q v H) : rIxL K (.ref p) (.int i) H Q := ⟨p, xs, i, v, rfl, rfl, h, e, k⟩
theorem i_ixT {xs : List V} {i : Int} {v : V} (h : SqT K H p xs) (e : atI xs i = some v) (k : Q v H) : rIxT K (.ref p) (.int i) H Q := ⟨p, xs, i, v, rfl, rfl, h, e, k⟩
theorem i_nil {Q : List V → Hp → Prop} (k : Q [] H) : tNil σ H Q := k
theorem i_cons {tr : TA} {Q : List V → Hp → Prop} (k : ta σ H fun x H1 => tr σ H1 fun xs H2 => Q (x :: xs) H2) : tCons ta tr σ H Q := k
theorem i_cb {r : List V → Hp → VK → Prop} {t : TA} (k : t σ H fun vs H1 => r vs H1 Q) : tCB r t σ H Q := k
theorem i_call {sp : Sp} {dvs : List V} {E : XK} {t : TA} (k : t σ H fun vs H1 => sp (vs ++ dvs) H1 Q E) : tCall sp dvs E t σ H Q := k
theorem i_seq (k : t { D with nx := u D } σ H) : tSeq t u D σ H := k
theorem i_asg {g : TG} (k : te σ H fun x H1 => g x σ H1 D.nx) : tAsg te g D σ H := k
theorem i_name {Q : L2.St → Hp → Prop} (k : Q (σ.set i (some v)) H) : gName i v σ H Q := k
theorem i_sub {to ti : TE} {ts : TSet} {Q : L2.St → Hp → Prop} (k : to σ H fun o H1 => ti σ H1 fun i H2 => ts o i v H2 fun H3 => Q σ H3) : gSub to ti ts v σ H Q := k
theorem i_drop (k : te σ H fun _ H1 => D.nx σ H1) : tDrop te D σ H := k
theorem i_ret (k : te σ H D.rt) : tRet te D σ H := k
theorem i_retN (k : D.rt .non H) : tRetN D σ H := k
theorem i_next (k : D.nx σ H) : tNext D σ H := k
theorem i_ifS (k : c σ H fun b H1 => if b = true then t D σ H1 else u D σ H1) : tIfS c t u D σ H := k
theorem i_test {Q : Bool → Hp → Prop} (k : te σ H fun x H1 => ∃ k, x = .bl k ∧ Q k H1) : tTest te σ H Q := k
theorem i_B {Q : Bool → Hp → Prop} (k : te σ H fun x H1 => ∃ k, x = .bl k ∧ Q k H1) : tB te σ H Q := k
theorem i_not {Q : Bool → Hp → Prop} (k : c σ H fun b H1 => Q (!b) H1) : tNot c σ H Q := k
theorem i_if {c : TT} (k : c σ H fun b H1 => if b = true then ta σ H1 Q else tb σ H1 Q) : tIf c ta tb σ H Q := k
/-- a test's bool is at hand -/
theorem i_bl {b : Bool} {P : Bool → Prop} (k : P b) : ∃ k, V.bl b = .bl k ∧ P k := ⟨b, rfl, k⟩
theorem i_dec {p : Prop} [Decidable p] {A B : Prop} (h1 : p → A) (h2 : ¬ p → B) : if decide p = true then A else B := by
  by_cases h : p
  · rw [if_pos (decide_eq_true h)]; exact h1 h
  · rw [if_neg (by simpa using h)]; exact h2 h
theorem i_decN {p : Prop} [Decidable p] {A B : Prop} (h1 : ¬ p → A) (h2 : p → B) : if (!decide p) = true then A else B := by
  by_cases h : p
  · rw [if_neg (by simpa using h)]; exact h2 h
  · rw [if_pos (by simpa using h)]; exact h1 h
/-- a new list, a new tuple: the heap behind it is any that keeps what stood -/
theorem i_lst {t : TA} (k : t σ H fun xs H1 => xs.length ≤ sizeLine ∧ ∀ p H', H1 p = none → Keep H1 H' → H' p = some (.lst xs) → Q (.ref p) H') : (t σ H fun xs H1 => xs.length ≤ sizeLine ∧ ∀ p H', H1 p = none → Keep H1 H' → H' p = some (.lst xs) → Q (.ref p) H') := k
theorem new_of {o : HO} {F : Addr → Hp → Prop} (k : ∀ p H', H p = none → Keep H H' → H' p = some o → F p H') : ∀ p, H p = none → F p (upd H p o) :=
  fun p hp => k p _ hp (Keep.new hp) upd_same
theorem i_setL {xs : List V} {k : Int} {j : Nat} {Q : Hp → Prop} (h : H p = some (.lst xs)) (e : ixN xs.length k = some j) (q : Q (upd H p (.lst (xs.set j v)))) : rSetL (.ref p) (.int k) v H Q := ⟨p, xs, k, j, rfl, rfl, h, e, q⟩
theorem i_setB {xs : List V} {k : Int} {j : Nat} {Q : Hp → Prop} (h : H p = some (.lst xs)) (b : Box (.lst xs)) (b' : Box (.lst (xs.set j v))) (e : ixN xs.length k = some j) (q : ∀ H', Keep H H' → H' p = some (.lst (xs.set j v)) → Q H') : rSetL (.ref p) (.int k) v H Q :=
  ⟨p, xs, k, j, rfl, rfl, h, e, q _ (Keep.box h b b') upd_same⟩
theorem i_int1 {n : Int} (k : Q (.int n) H) : (∃ i, [V.int n] = [V.int i] ∧ Q (.int i) H) ∨ ∃ b, [V.int n] = [V.bl b] ∧ Q (.int (if b = true then 1 else 0)) H := .inl ⟨n, rfl, k⟩
end
/-! ### what is no box -/
theorem nb_tup {xs : List V} : ¬ Box (.tup xs) := fun ⟨_, _, _, e⟩ => nomatch e
theorem nb_ins {C dx : Addr} {fs : List (Str × V)} : ¬ Box (.ins C dx fs) := fun ⟨_, _, _, e⟩ => nomatch e
theorem nb_dK {kvs : List (Key × V)} : ¬ Box (.dK kvs) := fun ⟨_, _, _, e⟩ => nomatch e
theorem nb_dT {kvs : List (List Key × V)} : ¬ Box (.dT kvs) := fun ⟨_, _, _, e⟩ => nomatch e
theorem nb_frz {o : Obj} {u : HO} : ¬ Box (.frz o u) := fun ⟨_, _, _, e⟩ => nomatch e
theorem nb_own {a : Addr} : ¬ Box (.own a) := fun ⟨_, _, _, e⟩ => nomatch e
theorem nb_strs {ys : List Str} : ¬ Box (.lst (ys.map V.str)) := fun ⟨x, y, z, e⟩ => by
  injection e with e
  cases ys with
  | nil => cases e
  | cons s r => rw [List.map_cons] at e; injection e with e1; cases e1
theorem nb_refs {ys : List Addr} : ¬ Box (.lst (ys.map V.ref)) := fun ⟨x, y, z, e⟩ => by
  injection e with e
  cases ys with
  | nil => cases e
  | cons s r => rw [List.map_cons] at e; injection e with e1; cases e1
theorem nb_nil : ¬ Box (.lst []) := fun ⟨_, _, _, e⟩ => by injection e with e; cases e
theorem nb_str1 {s : Str} {r : List V} : ¬ Box (.lst (V.str s :: r)) := fun ⟨_, _, _, e⟩ => by injection e with e; injection e with e1; cases e1
theorem nb_ref1 {s : Addr} {r : List V} : ¬ Box (.lst (V.ref s :: r)) := fun ⟨_, _, _, e⟩ => by injection e with e; injection e with e1; cases e1
section
variable {K : PySem.W.Frag} {H H' : Hp} {a : Addr} {xs : List V}
theorem Keep.rd {u : HO} (k : Keep H H') (n : ¬ Box u) (h : Rd H a u) : Rd H' a u := by
  rcases h with h | ⟨o, h⟩
  · exact .inl (k.st _ _ h n)
  · exact .inr ⟨o, k.st _ _ h nb_frz⟩
theorem Keep.sqT (k : Keep H H') (h : SqT K H a xs) : SqT K H' a xs := by
  rcases h with h | h
  · exact .inl (k.rd nb_tup h)
  · exact .inr h
theorem Keep.sqL (k : Keep H H') (n : ¬ Box (.lst xs)) (h : SqL K H a xs) : SqL K H' a xs := by
  rcases h with h | h
  · exact .inl (k.rd n h)
  · exact .inr h
end
/-- the script: whatever is drawn it is read -/
def Scr (K : PySem.W.Frag) (H : Hp) (a : Addr) (xs : List V) : Prop := ∀ H', Keep H H' → SqL K H' a xs
theorem Scr.keep {K : PySem.W.Frag} {H H' : Hp} {a : Addr} {xs : List V} (h : Scr K H a xs) (k : Keep H H') : Scr K H' a xs := fun H2 k2 => h H2 (k.trans k2)
theorem Scr.sq {K : PySem.W.Frag} {H : Hp} {a : Addr} {xs : List V} (h : Scr K H a xs) : SqL K H a xs := h H (Keep.refl H)
theorem Scr.of {K : PySem.W.Frag} {H : Hp} {a : Addr} {xs : List V} (o : ∀ b, H b = none ∨ ∃ o ys, H b = some (.frz o (.lst ys))) (h : SqL K H a xs) : Scr K H a xs := fun H' k => by
  rcases h with (h | ⟨ob, h⟩) | h
  · rcases o a with e | ⟨o', ys, e⟩
    · rw [e] at h; cases h
    · rw [e] at h; cases h
  · exact .inl (.inr ⟨ob, k.st _ _ h nb_frz⟩)
  · exact .inr h
section
variable {K : PySem.W.Frag} {σ : L2.St} {H H' : Hp} {Q : VK} {D : Ends} {p : Addr}
theorem i_tup {t : TA} (k : t σ H fun xs H1 => xs.length ≤ sizeLine ∧ ∀ p H', H1 p = none → Keep H1 H' → H' p = some (.tup xs) → Q (.ref p) H') (m : ∀ (A B : List V → Hp → Prop), (∀ x h, A x h → B x h) → t σ H A → t σ H B) : tTup t σ H Q :=
  m _ _ (fun xs H1 h => ⟨h.1, fun p hp => h.2 p _ hp (Keep.new hp) upd_same⟩) k
theorem newK {p : Addr} {o : HO} {H1 : Hp} (np : H p = none) (e : upd H p o = H1) : Keep H H1 ∧ H1 p = some o := by rw [← e]; exact ⟨Keep.new np, upd_same⟩
theorem newS {p : Addr} {o : HO} {H1 : Hp} (np : H p = none) (e : upd H p o = H1) : Same H H1 ∧ H1 p = some o := by rw [← e]; exact ⟨fun a u h => by rw [upd_ne (ne_of_none h np)]; exact h, upd_same⟩
/-- the display's own items are there -/
theorem i_lst1 {xs : List V} (hl : xs.length ≤ sizeLine) (k : ∀ p H', H p = none → Keep H H' → H' p = some (.lst xs) → Q (.ref p) H') : xs.length ≤ sizeLine ∧ ∀ p, H p = none → Q (.ref p) (upd H p (.lst xs)) :=
  ⟨hl, fun p hp => k p _ hp (Keep.new hp) upd_same⟩
theorem i_tup1 {xs : List V} {F : Addr → Hp → Prop} (hl : xs.length ≤ sizeLine) (k : ∀ p H', H p = none → Keep H H' → H' p = some (.tup xs) → F p H') : xs.length ≤ sizeLine ∧ ∀ p, H p = none → F p (upd H p (.tup xs)) :=
  ⟨hl, fun p hp => k p _ hp (Keep.new hp) upd_same⟩
theorem i_lst1S {xs : List V} {F : Addr → Hp → Prop} (hl : xs.length ≤ sizeLine) (k : ∀ p H', H p = none → Same H H' → H' p = some (.lst xs) → F p H') : xs.length ≤ sizeLine ∧ ∀ p, H p = none → F p (upd H p (.lst xs)) :=
  ⟨hl, fun p hp => k p _ hp (fun a u e => by rw [upd_ne (ne_of_none e hp)]; exact e) upd_same⟩
theorem i_tup1S {xs : List V} {F : Addr → Hp → Prop} (hl : xs.length ≤ sizeLine) (k : ∀ p H', H p = none → Same H H' → H' p = some (.tup xs) → F p H') : xs.length ≤ sizeLine ∧ ∀ p, H p = none → F p (upd H p (.tup xs)) :=
  ⟨hl, fun p hp => k p _ hp (fun a u e => by rw [upd_ne (ne_of_none e hp)]; exact e) upd_same⟩
/-- a new object of any kind -/
theorem i_new {o : HO} {F : Addr → Hp → Prop} (k : ∀ p H', H p = none → Keep H H' → H' p = some o → F p H') : ∀ p, H p = none → F p (upd H p o) := fun p hp => k p _ hp (Keep.new hp) upd_same
theorem i_newS {o : HO} {F : Addr → Hp → Prop} (k : ∀ p H', H p = none → Same H H' → H' p = some o → F p H') : ∀ p, H p = none → F p (upd H p o) := fun p hp => k p _ hp (fun a u e => by rw [upd_ne (ne_of_none e hp)]; exact e) upd_same
theorem i_Lst {t : TA} (k : t σ H fun xs H1 => xs.length ≤ sizeLine ∧ ∀ p, H1 p = none → Q (.ref p) (upd H1 p (.lst xs))) : tLst t σ H Q := k
theorem i_Tup {t : TA} (k : t σ H fun xs H1 => xs.length ≤ sizeLine ∧ ∀ p, H1 p = none → Q (.ref p) (upd H1 p (.tup xs))) : tTup t σ H Q := k
theorem i_par {i j : Nat} {ta : TA} {D : Ends} (k : ta σ H fun vs H1 => ∃ v w, vs = [v, w] ∧ D.nx ((σ.set i (some v)).set j (some w)) H1) : tPar i j ta D σ H := k
theorem i_and {c d : TT} {Q : Bool → Hp → Prop} (k : c σ H fun b H1 => if b = true then d σ H1 Q else Q false H1) : tAnd c d σ H Q := k
theorem i_or {c d : TT} {Q : Bool → Hp → Prop} (k : c σ H fun b H1 => if b = true then Q true H1 else d σ H1 Q) : tOr c d σ H Q := k
theorem i_andV {ta tb : TE} (k : ta σ H fun x H1 => ∃ c, x = .bl c ∧ if c = true then tb σ H1 Q else Q (.bl false) H1) : tAndV ta tb σ H Q := k
theorem i_orV {ta tb : TE} (k : ta σ H fun x H1 => ∃ c, x = .bl c ∧ if c = true then Q (.bl true) H1 else tb σ H1 Q) : tOrV ta tb σ H Q := k
theorem i_notV {ta : TE} (k : ta σ H fun x H1 => ∃ c, x = .bl c ∧ Q (.bl (!c)) H1) : tNotV ta σ H Q := k
theorem i_m1 {r : V → List V → Hp → VK → Prop} {to te : TE} (k : to σ H fun x H1 => (∃ z, x = .str z) ∧ te σ H1 fun y H2 => r x [y] H2 Q) : (to σ H fun x H1 => (∃ z, x = .str z) ∧ te σ H1 fun y H2 => r x [y] H2 Q) := k
theorem i_M1 {r : V → List V → Hp → VK → Prop} {to te : TE} (k : to σ H fun x H1 => (∃ z, x = .str z) ∧ te σ H1 fun y H2 => r x [y] H2 Q) : tM1 r to te σ H Q := k
theorem i_M0 {r : V → List V → Hp → VK → Prop} {to : TE} (k : to σ H fun x H1 => (∃ z, x = .str z) ∧ r x [] H1 Q) : tM0 r to σ H Q := k
theorem i_isS {z : Str} {B : Prop} (k : B) : (∃ a, V.str z = .str a) ∧ B := ⟨⟨z, rfl⟩, k⟩
theorem i_bm {T : String} {r : V → List V → Hp → VK → Prop} {to : TE} {t : TA} (k : to σ H fun x H1 => tyV K T x H1 ∧ t σ H1 fun xs H2 => r x xs H2 Q) : tBM K T r to t σ H Q := k
theorem i_bm0 {T : String} {r : V → List V → Hp → VK → Prop} {to : TE} (k : to σ H fun x H1 => tyV K T x H1 ∧ r x [] H1 Q) : tBM0 K T r to σ H Q := k
theorem i_fld {ta : TE} {f : Str} {a C dx : Addr} {fs : List (Str × V)} {v : V} (k : ta σ H fun x H1 => ∃ a C dx fs v, x = .ref a ∧ H1 a = some (.ins C dx fs) ∧ Cls K C ∧ NoAttr K C f ∧ fs.lookup f = some v ∧ Q v H1) : tFld K ta f σ H Q := k
theorem i_sl {r : V → Option Int → Option Int → Hp → VK → Prop} {te : TE} {tl th : TO} (k : te σ H fun x H1 => tl σ H1 fun l H2 => th σ H2 fun u H3 => r x l u H3 Q) : tSl r te tl th σ H Q := k
theorem i_part {t : TE} {Q : Option Int → Hp → Prop} (k : t σ H fun x H1 => ∃ i, x = .int i ∧ Q (some i) H1) : tPart t σ H Q := k
theorem i_nopart {Q : Option Int → Hp → Prop} (k : Q none H) : tNoPart σ H Q := k
theorem i_yes {Q : Bool → Hp → Prop} (k : Q true H) : tYes σ H Q := k
theorem i_it {A B : Prop} (h : A) : if true = true then A else B := by rw [if_pos rfl]; exact h
theorem i_if0 {A B : Prop} (h : B) : if false = true then A else B := by rw [if_neg (by decide)]; exact h
theorem i_iRng1 {ta : TA} {R : It → Hp → Prop} (k : ta σ H fun vs H1 => ∃ j : Int, vs = [.int j] ∧ -(2 ^ 62) ≤ j ∧ j < 2 ^ 62 ∧ R (Itr 0 j.toNat) H1) : iRng1 ta σ H R := k
theorem i_iStr {te : TE} {R : It → Hp → Prop} (k : te σ H fun v H1 => ∃ x, v = .str x ∧ R (Its x) H1) : iStr te σ H R := k
theorem i_iList {te : TE} {R : It → Hp → Prop} (k : te σ H fun x H1 => ∃ a, x = .ref a ∧ (∃ xs, SqL K H1 a xs) ∧ R (Itl K a) H1) : iList K te σ H R := k
theorem i_iTup {te : TE} {R : It → Hp → Prop} (k : te σ H fun x H1 => ∃ a, x = .ref a ∧ (∃ xs, SqT K H1 a xs) ∧ R (Itt K a) H1) : iTup K te σ H R := k
theorem i_for {wi : TI} {g : TG} {tb : TS} (k : wi σ H fun J H1 => ∃ W : Nat → Nat → L2.St → Hp → Prop, (∃ m, W 0 m σ H1) ∧ ∀ i m σ H, W i m σ H →
    (J.stop i H ∧ D.nx σ H) ∨ (J.go i H ∧ ∃ N : L2.St → Hp → Prop, (∀ σ' H', N σ' H' → ∃ m', m' < m ∧ W (i + 1) m' σ' H') ∧ ∀ x H', J.yld i H x H' → g x σ H' fun σ2 H2 => tb { D with nx := N, ct := N, bk := D.nx } σ2 H2)) : tFor wi g tb D σ H := k
end
end AR
namespace AR
open PySem PySem.Spec PyProof.Rows L2
theorem same_new {H : Hp} {p : Addr} {o : HO} (h : H p = none) : Same H (upd H p o) := fun a u e => by rw [upd_ne (ne_of_none e h)]; exact e
theorem same_mut {H H' : Hp} {p : Addr} {o : HO} (e : Same H H') (h : H p = none) : Same H (upd H' p o) := fun a u ha => by rw [upd_ne (ne_of_none ha h)]; exact e a u ha
theorem sameSqT {K : PySem.W.Frag} {H H' : Hp} {a : Addr} {xs : List V} (e : Same H H') (h : SqT K H a xs) : SqT K H' a xs := by
  rcases h with (h | ⟨o, h⟩) | h
  · exact .inl (.inl (e _ _ h))
  · exact .inl (.inr ⟨o, e _ _ h⟩)
  · exact .inr h
theorem sameHas {K : PySem.W.Frag} {H H' : Hp} {s : Src} {xs : List V} (e : Same H H') (h : s.has K H xs) : s.has K H' xs := by
  cases s with
  | txt x => exact h
  | lst a => exact e.seq h
  | tup a => exact sameSqT e h
section
variable {J : It} {n : Nat} {G : Hp → Prop} {Y : Nat → Hp → V → Hp → Prop} {g : TG} {tt : TT} {te : TE} {vs : List Nat} {σ : L2.St} {H1 : Hp} {Qd : Addr → Hp → Prop}
/-- what a comprehension asks of the new list -/
def LcAsk (J : It) (g : TG) (tt : TT) (te : TE) (vs : List Nat) (σ : L2.St) (H1 : Hp) (Qd : Addr → Hp → Prop) : Prop :=
  ∀ D, H1 D = none → ∃ W : Nat → Nat → Hp → Prop, (∃ m, W 0 m (upd H1 D (.lst []))) ∧ ∀ i m H, W i m H →
      (J.stop i H ∧ Qd D H) ∨ (J.go i H ∧ ∃ Nx : Hp → Prop, (∀ H', Nx H' → ∃ m', m' < m ∧ W (i + 1) m' H') ∧ ∀ x H', J.yld i H x H' → g x (wipe σ vs) H' fun σ2 H2 => wipe σ2 vs = wipe σ vs ∧ tt σ2 H2 fun b H3 =>
        if b = true then te σ2 H3 fun y H4 => ∃ acc, H4 D = some (.lst acc) ∧ acc.length < sizeLine ∧ Nx (upd H4 D (.lst (acc ++ [y]))) else Nx H3)
theorem i_lc {wi : TI} {H : Hp} {Q : VK} (k : wi σ H fun J H1 => LcAsk J g tt te vs σ H1 fun D H' => Q (.ref D) H') : tLc wi g tt te vs σ H Q := k
/-- a comprehension whose elements are told by their places and that leaves all as it was -/
theorem lcF (w : Walk J n G Y) (kp : Nat → Bool) (out : Nat → V) (hn : n ≤ sizeLine) (hG : ∀ H, Same H1 H → G H)
    (hs : ∀ i x H H' (C : VK) (N : Hp → Prop), i < n → Same H1 H → Y i H x H' → (kp i = true → ∀ H4, Same H H4 → C (out i) H4) → (kp i = false → ∀ H3, Same H H3 → N H3) →
      g x (wipe σ vs) H' fun σ2 H2 => wipe σ2 vs = wipe σ vs ∧ tt σ2 H2 fun b H3 => if b = true then te σ2 H3 C else N H3)
    (hd : ∀ D H', H1 D = none → Same H1 H' → H' D = some (.lst (((List.range n).filter kp).map out)) → Qd D H') : LcAsk J g tt te vs σ H1 Qd := by
  intro D hD
  refine lc_it w (Qd := Qd D) (fun i H => Same H1 H ∧ H D = some (.lst (((List.range i).filter kp).map out))) ⟨same_new hD, upd_same⟩ (fun i H _ p => hG H p.1) (fun i x H H' hi p y => ?_) fun H p => hd D H hD p.1 p.2
  refine hs i x H H' _ _ hi p.1 y (fun hk H4 s4 => ?_) fun hk H3 s3 => ?_
  · refine ⟨_, s4 _ _ p.2, ?_, same_mut (p.1.trans s4) hD, ?_⟩
    · rw [List.length_map]
      have := List.length_filter_le kp (List.range i)
      rw [List.length_range] at this
      omega
    · rw [upd_same, List.range_succ, List.filter_append, List.map_append]
      simp [hk]
  · refine ⟨p.1.trans s3, ?_⟩
    rw [List.range_succ, List.filter_append, List.map_append]
    simp [hk]
    exact s3 _ _ p.2
theorem lcS (w : Walk J n G Y) (out : Nat → V) (hn : n ≤ sizeLine) (hG : ∀ H, Same H1 H → G H)
    (hs : ∀ i x H H' (C : VK) (N : Hp → Prop), i < n → Same H1 H → Y i H x H' → (∀ H4, Same H H4 → C (out i) H4) →
      g x (wipe σ vs) H' fun σ2 H2 => wipe σ2 vs = wipe σ vs ∧ tt σ2 H2 fun b H3 => if b = true then te σ2 H3 C else N H3)
    (hd : ∀ D H', H1 D = none → Same H1 H' → H' D = some (.lst ((List.range n).map out)) → Qd D H') : LcAsk J g tt te vs σ H1 Qd :=
  lcF w (fun _ => true) out hn hG (fun i x H H' C N hi s y k _ => hs i x H H' C N hi s y (k rfl)) fun D H' h1 h2 h3 => hd D H' h1 h2 (by rw [h3, List.filter_eq_self.mpr (fun _ _ => rfl)])
/-- a comprehension whose elements draw from a box -/
theorem lcK (w : Walk J n G Y) (Pe : Nat → V → Prop) (hn : n ≤ sizeLine) (nb : ∀ ys : List V, (∀ (j : Nat) y, ys[j]? = some y → Pe j y) → ¬ Box (.lst ys)) (hG : ∀ H, Keep H1 H → G H)
    (hs : ∀ i x H H' (C : VK) (N : Hp → Prop), i < n → Keep H1 H → Y i H x H' → (∀ y H4, Pe i y → Keep H H4 → C y H4) →
      g x (wipe σ vs) H' fun σ2 H2 => wipe σ2 vs = wipe σ vs ∧ tt σ2 H2 fun b H3 => if b = true then te σ2 H3 C else N H3)
    (hd : ∀ D H' (ys : List V), H1 D = none → Keep H1 H' → H' D = some (.lst ys) → ys.length = n → (∀ (j : Nat) y, ys[j]? = some y → Pe j y) → Qd D H') : LcAsk J g tt te vs σ H1 Qd := by
  intro D hD
  refine lc_it w (Qd := Qd D) (fun i H => Keep H1 H ∧ ∃ ys : List V, H D = some (.lst ys) ∧ ys.length = i ∧ ∀ (j : Nat) y, ys[j]? = some y → Pe j y) ⟨Keep.new hD, [], upd_same, rfl, fun j y h => by simp at h⟩ (fun i H _ p => hG H p.1) (fun i x H H' hi p y => ?_) fun H p => ?_
  · obtain ⟨kp, ys, hys, hl, hp⟩ := p
    refine hs i x H H' _ _ hi kp y fun y' H4 pe k4 => ?_
    refine ⟨ys, k4.st _ _ hys (nb ys hp), by omega, (kp.trans k4).mut hD, ys ++ [y'], upd_same, by rw [List.length_append, hl]; rfl, fun j v hv => ?_⟩
    rcases Nat.lt_trichotomy j ys.length with h1 | h1 | h1
    · rw [List.getElem?_append_left h1] at hv; exact hp j v hv
    · subst h1
      have : y' = v := by simpa using hv
      subst this; rw [hl]; exact pe
    · have hnone : (ys ++ [y'])[j]? = none := List.getElem?_eq_none (by rw [List.length_append, List.length_singleton]; omega)
      rw [hnone] at hv; cases hv
  · obtain ⟨kp, ys, hys, hl, hp⟩ := p
    exact hd D H ys hD kp hys hl hp
end
end AR
namespace AR
open PySem PySem.Spec PyProof.Rows L2
/-- a method of the class at C -/
structure MD (K : PySem.W.Frag) (C : Addr) (m qual : Str) (st : Stmt) (ps : List Str) : Prop where
  ex : ∃ (f : Addr) (fd : FuncData), FunD K m qual (defArgs st) (defBody st) (defScope st) [] [] f fd ∧ Meth K C m f ∧ Binds K fd ps []
/-- an __init__ of the class at C -/
structure ID (K : PySem.W.Frag) (mg : Str → Option Value) (x : Str) (C : Addr) (qual : Str) (st : Stmt) (ps : List Str) : Prop where
  ex : ∃ (f : Addr) (fd : FuncData), FunD K "__init__" qual (defArgs st) (defBody st) (defScope st) [] [] f fd ∧ Mk K C f ∧ mg x = some (.ref C) ∧ Binds K fd ps []
section
variable {P : Program} {w : World} {K : PySem.W.Frag} {mg : Str → Option Value} {base : Heap}
theorem MD.met {C : Addr} {m qual : Str} {st : Stmt} {N ps : List Str} {k : Nat} {sp : Sp} (M : MD K C m qual st ps) (c : Cls K C) (S : FnScope N ps (defScope st)) (len : ∀ vs H Q E, sp vs H Q E → vs.length = ps.length)
    (hbody : ∀ (f : Addr) (cdv : Value) (A : Around) (outer : List Env) (s : Shared) (H : Hp) (vs : List V) (Q : VK) (E : XK), Room k (A.deeper (envOfC qual (defScope st) s.heap.objs.size f cdv)) → sp vs H Q E →
      ∃ t, PSs (cxOf CX0 P w K mg base N qual (defScope st) f cdv A outer s H E).nox (defBody st) t ∧ t { nx := fun _ H' => Q .non H', rt := Q } (start N vs) H) : C8.Met P w K mg base (k + 1) C m sp [] := by
  obtain ⟨f, fd, F, me, b⟩ := M.ex
  refine ⟨f, fd, ps, [], c, me, F.ok S len fun cdv A outer s H vs Q E hr hsp => ?_, b, .nil⟩
  obtain ⟨t, h, q⟩ := hbody f cdv A outer s H vs Q E hr hsp
  exact ⟨t, h.nox, q⟩
theorem ID.mak {x qual : Str} {C : Addr} {st : Stmt} {N ps : List Str} {k : Nat} {sp : Sp} (M : ID K mg x C qual st ps) (S : FnScope N ps (defScope st)) (len : ∀ vs H Q E, sp vs H Q E → vs.length = ps.length)
    (hbody : ∀ (f : Addr) (cdv : Value) (A : Around) (outer : List Env) (s : Shared) (H : Hp) (vs : List V) (Q : VK) (E : XK), Room k (A.deeper (envOfC qual (defScope st) s.heap.objs.size f cdv)) → sp vs H Q E →
      ∃ t, PSs (cxOf CX0 P w K mg base N qual (defScope st) f cdv A outer s H E).nox (defBody st) t ∧ t { nx := fun _ H' => Q .non H', rt := Q } (start N vs) H) : C8.Mak P w K mg base (k + 1) x C sp [] := by
  obtain ⟨f, fd, F, mk, hm, b⟩ := M.ex
  refine ⟨f, fd, ps, [], mk, F.ok S len fun cdv A outer s H vs Q E hr hsp => ?_, hm, b, .nil⟩
  obtain ⟨t, h, q⟩ := hbody f cdv A outer s H vs Q E hr hsp
  exact ⟨t, h.nox, q⟩
end
end AR
namespace AR
open PySem PySem.Spec PyProof.Rows L2
/-! ### the layer's rules with the written part named (so that they stand within a comprehension too) -/
section
variable (K : PySem.W.Frag) {X : Cx}
theorem ix_listK (hK : X.K = K := by rfl) : IxR X (rIxL K) := hK ▸ ix_list
theorem ix_tupK (hK : X.K = K := by rfl) : IxR X (rIxT K) := hK ▸ ix_tup
theorem op_in_seqK (hK : X.K = K := by rfl) : OpR X (compareOp .In) (rIn K false) := hK ▸ op_in_seq
theorem op_notIn_seqK (hK : X.K = K := by rfl) : OpR X (compareOp .NotIn) (rIn K true) := hK ▸ op_notIn_seq
theorem op_eqDK (hu : X.A.units + 64 < cLine) (hK : X.K = K := by rfl) : OpR X (compareOp .Eq) (rEqD K) := hK ▸ op_eqD hu
theorem op_neDK (hu : X.A.units + 64 < cLine) (hK : X.K = K := by rfl) : OpR X (compareOp .NotEq) (rNeD K) := hK ▸ op_neD hu
theorem sl_listK (hK : X.K = K := by rfl) : SlR X (rSlL K) := hK ▸ sl_list
theorem sl_tupAK (hK : X.K = K := by rfl) : SlR X (rSlA K) := hK ▸ sl_tupA
theorem op_catAK (hK : X.K = K := by rfl) : OpR X (binaryOp .Add) (rCatA K) := hK ▸ op_catA
def rLenQ : List V → Hp → VK → Prop := fun xs H Q => ∃ p ys, xs = [.ref p] ∧ (SqL K H p ys ∨ SqT K H p ys) ∧ Q (.int ys.length) H
theorem call_lenK (hK : X.K = K := by rfl) : CallR X (.builtin "len") (rLenQ K) := by subst hK; exact call_len_seq
def rListQ : List V → Hp → VK → Prop := fun xs H Q => ∃ p ys, xs = [.ref p] ∧ (SqL K H p ys ∨ SqT K H p ys) ∧ ∀ l, H l = none → Q (.ref l) (upd H l (.lst ys))
theorem call_listK (hK : X.K = K := by rfl) : CallR X (.type "list") (rListQ K) := by subst hK; exact call_list_of
def rTupQ : List V → Hp → VK → Prop := fun xs H Q => ∃ p ys, xs = [.ref p] ∧ ((SqL K H p ys ∧ ∀ l, H l = none → Q (.ref l) (upd H l (.tup ys))) ∨ (SqT K H p ys ∧ Q (.ref p) H))
theorem call_tupK (hK : X.K = K := by rfl) : CallR X (.type "tuple") (rTupQ K) := by subst hK; exact call_tuple_of
theorem cr_allK (hc : X.calm = true) (hK : X.K = K := by rfl) : CallR X (.builtin "all") (rAll K) := hK ▸ cr_all hc
theorem cr_anyK (hc : X.calm = true) (hK : X.K = K := by rfl) : CallR X (.builtin "any") (rAny K) := hK ▸ cr_any hc
theorem cr_sumK (hc : X.calm = true) (hK : X.K = K := by rfl) : CallR X (.builtin "sum") (rSum K) := hK ▸ cr_sum hc
theorem call_isK (hK : X.K = K := by rfl) : CallR X (.builtin "isinstance") (rIsi K) := hK ▸ call_isi
theorem call_isTK (hK : X.K = K := by rfl) : CallR X (.builtin "isinstance") (rIsiT K) := hK ▸ call_isiT
def rDictQ : List V → Hp → VK → Prop := fun xs H Q => ∃ (a : Addr) (ps : List Addr) (kvs : List (Key × V)), xs = [.ref a] ∧ SqL K H a (ps.map V.ref) ∧ Paired (fun p kv => SqT K H p [kV kv.1, kv.2]) ps kvs ∧ ∀ p, H p = none → Q (.ref p) (upd H p (.dK (mergeK [] kvs)))
theorem call_dictK (hc : X.calm = true) (hK : X.K = K := by rfl) : CallR X (.type "dict") (rDictQ K) := by subst hK; exact call_dictP hc
def rLenT : List V → Hp → VK → Prop := fun xs H Q => ∃ z, xs = [.str z] ∧ z.length ≤ sizeLine ∧ Q (.int z.length) H
theorem call_lenT : CallR X (.builtin "len") rLenT := call_len_str
def rListT : List V → Hp → VK → Prop := fun xs H Q => ∃ x, xs = [.str x] ∧ x.length ≤ sizeLine ∧ ∀ l, H l = none → Q (.ref l) (upd H l (.lst (chV x)))
theorem call_listT (hc : X.calm = true) : CallR X (.type "list") rListT := call_list_txt hc
variable {e o : Expr} {es : List Expr} {ta to te : TE} {t : TA} {f name : Str} {pos apos cpos : Pos} {T id : String} {r : V → List V → Hp → VK → Prop}
theorem pe_fldK (he : PE X e ta) (hb : attributeBase e f X.env (eval e X.env) = eval e X.env) (hK : X.K = K := by rfl) : PE X (.Attribute e f pos) (tFld K ta f) := hK ▸ pe_fld he hb
theorem pi_listK {tg : Expr} (hl : PE X e ta) (hK : X.K = K := by rfl) : PI X tg e (iList K ta) := hK ▸ pi_list hl
theorem pi_tupK {tg : Expr} (hl : PE X e ta) (hK : X.K = K := by rfl) : PI X tg e (iTup K ta) := hK ▸ pi_tup hl
theorem pi_ZK {e2 : Expr} {p tpos : Pos} {elts : List Expr} {kk : Nat} (hg : Gl X "zip") (hm : X.mg "zip" = none) (ha : PA X [e, e2] t) (hK : X.K = K := by rfl)
    (hs : starEach [e, e2] X.env = (false, eval e X.env) :: starEach [e2] X.env := by rfl) (hpl : (backTo pos (starEach [e2] X.env)).any (·.1) = false := by rfl) :
    PI X (.Tuple elts kk tpos) (.Call (.Name "zip" p) [e, e2] [] pos) (iZ K t) := hK ▸ pi_Z hg hm ha hs hpl
theorem pe_listZK {e2 : Expr} {p p2 pos2 : Pos} (hc : X.calm = true) (hg : Gl X "list") (hm : X.mg "list" = none) (hg2 : Gl X "zip") (hm2 : X.mg "zip" = none) (ha : PA X [e, e2] t) (hK : X.K = K := by rfl)
    (hs : starEach [.Call (.Name "zip" p2) [e, e2] [] pos2] X.env = (false, eval (.Call (.Name "zip" p2) [e, e2] [] pos2) X.env) :: starEach [] X.env := by rfl)
    (hs2 : starEach [e, e2] X.env = (false, eval e X.env) :: starEach [e2] X.env := by rfl) (hpl : (backTo pos2 (starEach [e2] X.env)).any (·.1) = false := by rfl) :
    PE X (.Call (.Name "list" p) [.Call (.Name "zip" p2) [e, e2] [] pos2] [] pos) (tListZ K t) := hK ▸ pe_listZ hc hg hm hg2 hm2 ha hs hs2 hpl
theorem pg_tupK {es : List Expr} {k : Nat} {t : TGs} {n : Nat} (hc : X.calm = true) (h : PGs X es t) (hn : es.length = n := by rfl) (hK : X.K = K := by rfl)
    (hx : PG X (.Tuple es k pos) (gTup X.K n t)) : PG X (.Tuple es k pos) (gTup K n t) := hK ▸ hx
theorem pe_bmK (pa : PlainAttrs T) (slot : Slot T name id) (hty : typeOf (.builtin id) = pure (.type "method_descriptor")) (hm : MtR X id r) (ho : PE X o to) (ha : PA X (e :: es) t) (hK : X.K = K := by rfl)
    (hx : PE X (.Call (.Attribute o name apos) (e :: es) [] cpos) (tBM X.K T r to t) := by exact pe_bm (by assumption) (by assumption) (by assumption) (by assumption) (by assumption) (by assumption)) : PE X (.Call (.Attribute o name apos) (e :: es) [] cpos) (tBM K T r to t) := hK ▸ hx
def rJoin : V → List V → Hp → VK → Prop := fun x xs H Q => ∃ a p, ∃ ys : List Str, x = .str a ∧ xs = [.ref p] ∧ (SqL K H p (ys.map V.str) ∨ SqT K H p (ys.map V.str)) ∧ (ys.map (·.length)).sum + ys.length * a.length ≤ 16777216 ∧ Q (.str (Txt.join a ys)) H
theorem pe_joinK (ho : PE X o to) (he : PE X e te) (hK : X.K = K := by rfl) (hs : starEach [e] X.env = [(false, eval e X.env)] := by rfl) (hbase : attributeBase o "join" X.env (eval o X.env) = eval o X.env := by rfl) (hline : (apos.endLine == pos.line) = true := by rfl) :
    PE X (.Call (.Attribute o "join" apos) [e] [] pos) (tM1 (rJoin K) to te) := by subst hK; exact pe_join ho he hs hbase hline
end
theorem same_at {H H' : Hp} {a : Addr} {o : HO} (e : Same H H') (h : H a = some o) : H' a = some o := e a o h
/-! ### readings, entered -/
section
variable {K : PySem.W.Frag} {H H' : Hp} {Q : VK} {p : Addr} {ys : List V}
theorem i_lenL (h : SqL K H p ys) (k : Q (.int ys.length) H) : rLenQ K [.ref p] H Q := ⟨p, ys, rfl, .inl h, k⟩
theorem i_lenU (h : SqT K H p ys) (k : Q (.int ys.length) H) : rLenQ K [.ref p] H Q := ⟨p, ys, rfl, .inr h, k⟩
theorem i_lenT {z : Str} (h : z.length ≤ sizeLine) (k : Q (.int z.length) H) : rLenT [.str z] H Q := ⟨z, rfl, h, k⟩
theorem i_listT {x : Str} (h : x.length ≤ sizeLine) (k : ∀ l H', H l = none → Same H H' → H' l = some (.lst (chV x)) → Q (.ref l) H') : rListT [.str x] H Q := ⟨x, rfl, h, fun l hl => k l _ hl (same_new hl) upd_same⟩
theorem i_listL (h : SqL K H p ys) (k : ∀ l H', H l = none → Same H H' → H' l = some (.lst ys) → Q (.ref l) H') : rListQ K [.ref p] H Q := ⟨p, ys, rfl, .inl h, fun l hl => k l _ hl (same_new hl) upd_same⟩
theorem i_listU (h : SqT K H p ys) (k : ∀ l H', H l = none → Same H H' → H' l = some (.lst ys) → Q (.ref l) H') : rListQ K [.ref p] H Q := ⟨p, ys, rfl, .inr h, fun l hl => k l _ hl (same_new hl) upd_same⟩
theorem i_tupL (h : SqL K H p ys) (k : ∀ l H', H l = none → Same H H' → H' l = some (.tup ys) → Q (.ref l) H') : rTupQ K [.ref p] H Q := ⟨p, ys, rfl, .inl ⟨h, fun l hl => k l _ hl (same_new hl) upd_same⟩⟩
theorem i_tupU (h : SqT K H p ys) (k : Q (.ref p) H) : rTupQ K [.ref p] H Q := ⟨p, ys, rfl, .inr ⟨h, k⟩⟩
theorem i_joinL {a : Str} {zs : List Str} (h : SqL K H p (zs.map V.str)) (hs : (zs.map (·.length)).sum + zs.length * a.length ≤ 16777216) (k : Q (.str (Txt.join a zs)) H) : rJoin K (.str a) [.ref p] H Q := ⟨a, p, zs, rfl, rfl, .inl h, hs, k⟩
theorem i_joinU {a : Str} {zs : List Str} (h : SqT K H p (zs.map V.str)) (hs : (zs.map (·.length)).sum + zs.length * a.length ≤ 16777216) (k : Q (.str (Txt.join a zs)) H) : rJoin K (.str a) [.ref p] H Q := ⟨a, p, zs, rfl, rfl, .inr h, hs, k⟩
theorem i_app {xs : List V} {y : V} (h : H p = some (.lst xs)) (hl : xs.length < sizeLine) (k : Q .non (upd H p (.lst (xs ++ [y])))) : rAppend (.ref p) [y] H Q := ⟨p, xs, y, rfl, rfl, h, hl, k⟩
theorem i_tyL {xs : List V} {B : Prop} (h : SqL K H p xs) (k : B) : tyV K "list" (.ref p) H ∧ B := ⟨.inl ⟨rfl, xs, h⟩, k⟩
theorem i_fldI {ta : TE} {σ : L2.St} {f : Str} (k : ta σ H fun x H1 => ∃ a C dx fs v, x = .ref a ∧ H1 a = some (.ins C dx fs) ∧ Cls K C ∧ NoAttr K C f ∧ fs.lookup f = some v ∧ Q v H1) : tFld K ta f σ H Q := k
end
end AR
namespace AR
open PySem PySem.Spec PyProof.Rows L2
section
variable (K : PySem.W.Frag) {X : Cx} {pos : Pos}
theorem pg_tK {es : List Expr} {k : Nat} {t : TGs} {n : Nat} (hc : X.calm = true) (h : PGs X es t) (hK : X.K = K := by rfl)
    (hn : (assignEach es X.env).length = n := by rfl) (hst : (assignEach es X.env).findIdx? (·.1) = none := by rfl) : PG X (.Tuple es k pos) (gTup K n t) := hK ▸ pg_tup hc h hn hst
theorem pg_uK {es : List Expr} {k : Nat} {t : TGs} {n : Nat} (hc : X.calm = true) (h : PGs X es t) (hK : X.K = K := by rfl)
    (hn : (assignEach es X.env).length = n := by rfl) (hst : (assignEach es X.env).findIdx? (·.1) = none := by rfl) : PG X (.Tuple es k pos) (gUnl K n t) := hK ▸ pg_unl hc h hn hst
end
section
variable {K : PySem.W.Frag} {σ : L2.St} {H H' : Hp} {Q : VK} {D : Ends} {p : Addr} {z : Str}
theorem i_chain {r r' : R2} {ta tb tc : TE} (k : ta σ H fun x H1 => tb σ H1 fun y H2 => r x y H2 fun z H3 => ∃ k, z = .bl k ∧ (if k = true then tc σ H3 fun w' H4 => r' y w' H4 Q else Q (.bl false) H3)) : tChain r r' ta tb tc σ H Q := k
theorem i_nt {A B : Prop} (h : B) : if (!true) = true then A else B := by rw [if_neg (by decide)]; exact h
theorem i_nf {A B : Prop} (h : A) : if (!false) = true then A else B := by rw [if_pos (by decide)]; exact h
theorem i_isiS (k : Q (.bl true) H) : rIsi K [.str z, .ty "str"] H Q := ⟨_, _, _, _, true, rfl, .ty _, .base (.str _), kit_ty (by decide +kernel), k⟩
/-- a new pair as a target of two names -/
theorem i_pair {n : Nat} {t : TGs} {xs : List V} {Q : L2.St → Hp → Prop} (h : SqT K H p xs) (hl : xs.length = n) (k : t xs σ H Q) : gTup K n t (.ref p) σ H Q := ⟨p, xs, rfl, h, hl, k⟩
theorem i_gcons {t : TG} {u : TGs} {v : V} {r : List V} {Q : L2.St → Hp → Prop} (k : t v σ H fun σ' H' => u r σ' H' Q) : gCons t u (v :: r) σ H Q := ⟨v, r, rfl, k⟩
theorem i_gnil {Q : L2.St → Hp → Prop} (k : Q σ H) : gNil [] σ H Q := ⟨rfl, k⟩
theorem i_iZ {ta : TA} {R : It → Hp → Prop} (k : ta σ H fun vs H1 => ∃ s1 s2 : Src, ∃ xs ys, vs = [s1.v, s2.v] ∧ s1.has K H1 xs ∧ s2.has K H1 ys ∧ R (ItZ K s1 s2 xs ys) H1) : iZ K ta σ H R := k
theorem i_slS {lo hi : Option Int} (h : z.length ≤ sizeLine) (k : Q (.str (cutS z lo hi)) H) : rSlS (.str z) lo hi H Q := ⟨z, rfl, h, k⟩
theorem i_all {bs : List Bool} (h : SqL K H p (bs.map V.bl)) (k : Q (.bl (bs.all id)) H) : rAll K [.ref p] H Q := ⟨p, bs, rfl, h, k⟩
theorem i_lts {a b : Str} (k : Q (.bl (decide (a.cps.toList < b.cps.toList))) H) : ∃ i j, V.str a = .str i ∧ V.str b = .str j ∧ Q (.bl (decide (i.cps.toList < j.cps.toList))) H := ⟨a, b, rfl, rfl, k⟩
theorem i_ins {c : Nat} (k : Q (.bl (decide (c ∈ z.cps.toList))) H) : ∃ (c' : Nat) (z' : Str), V.str ⟨#[c]⟩ = .str ⟨#[c']⟩ ∧ V.str z = .str z' ∧ Q (.bl (decide (c' ∈ z'.cps.toList))) H := ⟨c, z, rfl, rfl, k⟩
theorem i_revS {te ts : TE} (k : te σ H fun x H1 => ts σ H1 fun i H2 => ∃ z, x = .str z ∧ i = .int (-1) ∧ z.length ≤ sizeLine ∧ Q (.str (revS z)) H2) : tRevS te ts σ H Q := k
theorem i_meth {C : Addr} {m : Str} {sp : Sp} {dvs : List V} {E : XK} {ta : TE} {t : TA} (k : ta σ H fun x H1 => ∃ a dx fs, x = .ref a ∧ H1 a = some (.ins C dx fs) ∧ fs.lookup m = none ∧ t σ H1 fun vs H2 => sp (x :: vs ++ dvs) H2 Q E) : (ta σ H fun x H1 => ∃ a dx fs, x = .ref a ∧ H1 a = some (.ins C dx fs) ∧ fs.lookup m = none ∧ t σ H1 fun vs H2 => sp (x :: vs ++ dvs) H2 Q E) := k
theorem i_dget {td ty : TE} (k : td σ H fun x H1 => ty σ H1 fun y H2 => ∃ a v, x = .ref a ∧ DGet H2 a y (some v) ∧ Q v H2) : tDGet td ty σ H Q := k
theorem i_sFld {ta tv : TE} {f : Str} (k : tv σ H fun y H1 => ta σ H1 fun x H2 => ∃ a C dx fs, x = .ref a ∧ H2 a = some (.ins C dx fs) ∧ Cls K C ∧ NoAttr K C f ∧ fs.length < 1000 ∧ D.nx σ (upd H2 a (.ins C dx (putF f y fs)))) : sFld K ta tv f D σ H := k
end
end AR
namespace AR
open PySem PySem.Spec PyProof.Rows L2
section
variable {K : PySem.W.Frag} {σ : L2.St} {H H' : Hp} {Q : VK} {D : Ends} {p : Addr} {z : Str}
theorem i_Meth {C : Addr} {m : Str} {sp : Sp} {dvs : List V} {E : XK} {ta : TE} {t : TA} (k : ta σ H fun x H1 => ∃ a dx fs, x = .ref a ∧ H1 a = some (.ins C dx fs) ∧ fs.lookup m = none ∧ t σ H1 fun vs H2 => sp (x :: (vs ++ dvs)) H2 Q E) : tMeth C m sp dvs E ta t σ H Q := k
/-- a new instance: what stood stays -/
theorem i_Make {C : Addr} {sp : Sp} {dvs : List V} {E : XK} {t : TA} (k : t σ H fun vs H1 => ∀ x dx, H1 x = none → H1 dx = none → dx ≠ x → sp (.ref x :: (vs ++ dvs)) (upd (upd H1 dx (.own x)) x (.ins C dx [])) (fun v H2 => v = .non ∧ Q (.ref x) H2) E) : tMake C sp dvs E t σ H Q := k
theorem newI {x dx C : Addr} {H1 : Hp} {fs : List (Str × V)} (nx : H x = none) (nd : H dx = none) (ne : dx ≠ x) (e : upd (upd H dx (.own x)) x (.ins C dx fs) = H1) : Same H H1 ∧ H1 x = some (.ins C dx fs) := by
  rw [← e]
  exact ⟨fun a u h => by rw [upd_ne (ne_of_none h nx), upd_ne (ne_of_none h nd)]; exact h, upd_same⟩
theorem i_listZ {ta : TA} (k : ta σ H fun vs H1 => ∃ s1 s2 : Src, ∃ xs ys, vs = [s1.v, s2.v] ∧ s1.has K H1 xs ∧ s2.has K H1 ys ∧ min xs.length ys.length ≤ sizeLine ∧
  ∀ (l : Addr) (as : List Addr) (H' : Hp), H1 l = none → (∀ a ∈ as, H1 a = none) → Same H1 H' → H' l = some (.lst (as.map V.ref)) → as.length = min xs.length ys.length →
    (∀ (j : Nat) a, as[j]? = some a → ∃ x y, xs[j]? = some x ∧ ys[j]? = some y ∧ H' a = some (.tup [x, y])) → Q (.ref l) H') : tListZ K ta σ H Q := k
theorem i_inst (k : Q (.bl true) H) {a C dx : Addr} {fs : List (Str × V)} (h : H a = some (.ins C dx fs)) (ic : C8.InsC K C) : rIsi K [.ref a, .ref C] H Q :=
  ⟨_, _, _, _, true, rfl, .own _, .base (.ins h ic.cl ic.ha ic.hn ic.htk ic.hm), ic.me, k⟩
/-! ### texts in a row, as data -/
theorem dpAll_strs : ∀ ys : List Str, DpAll K H (ys.map V.str) (ys.map PyData.str)
  | [] => .nil
  | y :: r => .cons (.str y) (dpAll_strs r)
theorem lay_strs : ∀ ys : List Str, (∀ y ∈ ys, PyData.strOk y = true) → PyData.canLayAll0 (ys.map PyData.str) = true
  | [], _ => by simp [PyData.canLayAll0]
  | y :: r, h => by
    have h1 : PyData.canLay0 (PyData.str y) = true := by simpa [PyData.canLay0] using h y (by simp)
    simp only [List.map_cons, PyData.canLayAll0, h1, lay_strs r fun x hx => h x (List.mem_cons_of_mem _ hx), Bool.and_self]
theorem depth_strs : ∀ ys : List Str, PyData.depthAll (ys.map PyData.str) = 0
  | [] => by simp [PyData.depthAll]
  | y :: r => by simp [PyData.depthAll, PyData.depth, depth_strs r]
theorem eqv_strs : ∀ xs ys : List Str, PyData.eqvAll (xs.map PyData.str) (ys.map PyData.str) = decide (xs = ys)
  | [], [] => by simp [PyData.eqvAll]
  | [], y :: r => by simp [PyData.eqvAll]
  | x :: r, [] => by simp [PyData.eqvAll]
  | x :: r, y :: q => by
    show (PyData.eqv (.str x) (.str y) && PyData.eqvAll (r.map PyData.str) (q.map PyData.str)) = _
    rw [eqv_strs r q]
    have : PyData.eqv (.str x) (.str y) = decide (x = y) := by
      simp only [PyData.eqv]
      by_cases h : x = y <;> simp [h]
    rw [this]
    by_cases h1 : x = y <;> by_cases h2 : r = q <;> simp [h1, h2]
theorem shaped_tup (ys : List Str) (ok : ∀ y ∈ ys, PyData.strOk y = true) : SeqAt.shaped (.tuple (ys.map PyData.str)) = true := by
  unfold SeqAt.shaped
  have h1 : PyData.canLay0 (.tuple (ys.map PyData.str)) = true := by
    simpa [PyData.canLay0] using lay_strs ys ok
  have h2 : PyData.depth (.tuple (ys.map PyData.str)) = 1 := by simp [PyData.depth, depth_strs ys]
  rw [h1, h2]; rfl
theorem shaped_lst (ys : List Str) (ok : ∀ y ∈ ys, PyData.strOk y = true) : SeqAt.shaped (.list (ys.map PyData.str)) = true := by
  unfold SeqAt.shaped
  have h1 : PyData.canLay0 (.list (ys.map PyData.str)) = true := by
    simpa [PyData.canLay0] using lay_strs ys ok
  have h2 : PyData.depth (.list (ys.map PyData.str)) = 1 := by simp [PyData.depth, depth_strs ys]
  rw [h1, h2]; rfl
theorem i_eqTT {a b : Addr} {xs ys : List Str} (h1 : SqT K H a (xs.map V.str)) (h2 : SqT K H b (ys.map V.str)) (o1 : ∀ y ∈ xs, PyData.strOk y = true) (o2 : ∀ y ∈ ys, PyData.strOk y = true) (k : Q (.bl (decide (xs = ys))) H) : rEqD K (.ref a) (.ref b) H Q :=
  ⟨_, _, .tup h1 (dpAll_strs xs), .tup h2 (dpAll_strs ys), shaped_tup xs o1, shaped_tup ys o2, by rw [show PyData.eqv (.tuple (xs.map PyData.str)) (.tuple (ys.map PyData.str)) = decide (xs = ys) by rw [← eqv_strs]; simp [PyData.eqv]]; exact k⟩
theorem i_neLL {a b : Addr} {xs ys : List Str} (h1 : SqL K H a (xs.map V.str)) (h2 : SqL K H b (ys.map V.str)) (o1 : ∀ y ∈ xs, PyData.strOk y = true) (o2 : ∀ y ∈ ys, PyData.strOk y = true) (k : Q (.bl (!decide (xs = ys))) H) : rNeD K (.ref a) (.ref b) H Q :=
  ⟨_, _, .lst h1 (dpAll_strs xs), .lst h2 (dpAll_strs ys), shaped_lst xs o1, shaped_lst ys o2, by rw [show PyData.eqv (.list (xs.map PyData.str)) (.list (ys.map PyData.str)) = decide (xs = ys) by rw [← eqv_strs]; simp [PyData.eqv]]; exact k⟩
theorem i_eqLL {a b : Addr} {xs ys : List Str} (h1 : SqL K H a (xs.map V.str)) (h2 : SqL K H b (ys.map V.str)) (o1 : ∀ y ∈ xs, PyData.strOk y = true) (o2 : ∀ y ∈ ys, PyData.strOk y = true) (k : Q (.bl (decide (xs = ys))) H) : rEqD K (.ref a) (.ref b) H Q :=
  ⟨_, _, .lst h1 (dpAll_strs xs), .lst h2 (dpAll_strs ys), shaped_lst xs o1, shaped_lst ys o2, by rw [show PyData.eqv (.list (xs.map PyData.str)) (.list (ys.map PyData.str)) = decide (xs = ys) by rw [← eqv_strs]; simp [PyData.eqv]]; exact k⟩
end
end AR
namespace AR
open PySem PySem.Spec PyProof.Rows L2
theorem i_unl {K : PySem.W.Frag} {σ : L2.St} {H : Hp} {p : Addr} {n : Nat} {t : TGs} {xs : List V} {Q : L2.St → Hp → Prop} (h : SqL K H p xs) (hl : xs.length = n) (k : t xs σ H Q) : gUnl K n t (.ref p) σ H Q := ⟨p, xs, rfl, h, hl, k⟩
end AR
namespace AR
open PySem PySem.Spec PyProof.Rows L2
/-! ### enumerate over a text, a list -/
def ItE (K : PySem.W.Frag) (s1 : Src) (xs : List V) : It :=
  ⟨fun i H => s1.has K H xs ∧ i < xs.length, fun i H v H' => ∃ T x, v = .ref T ∧ H T = none ∧ H' = upd H T (.tup [.int (i : Nat), x]) ∧ xs[i]? = some x, fun i H => s1.has K H xs ∧ i = xs.length⟩
def YEnum (xs : List V) : Nat → Hp → V → Hp → Prop := fun i H v H' => ∃ T x, v = .ref T ∧ H T = none ∧ H' = upd H T (.tup [.int (i : Nat), x]) ∧ xs[i]? = some x
theorem walk_E {K : PySem.W.Frag} {s1 : Src} {xs : List V} : Walk (ItE K s1 xs) xs.length (fun H => s1.has K H xs) (YEnum xs) :=
  ⟨fun i H hi q => ⟨q, hi⟩, fun H q => ⟨q, rfl⟩, fun i H v H' _ _ y => y⟩
theorem turn_E {P : Program} {w : World} {K : PySem.W.Frag} {elts : List Expr} {kk : Nat} {tpos : Pos} {e it : Addr} {s1 : Src} {t1 : Tok} {xs : List V} (ne : e ≠ it) (nf : e ∉ it :: s1.fp) (n1 : ∀ b ∈ s1.fp, b ≠ it) :
    Turn P w K (.Tuple elts kk tpos) (ItE K s1 xs) [e, it] e (fun i h => (∃ old, IsEnum h e it (0 + ((i : Nat) : Int)) old) ∧ s1.at t1 it i h) where
  mem := by simp
  obj := fun i h st c hc => by
    obtain ⟨⟨old, he⟩, h1⟩ := st
    have e' : c = e ∨ c = it := by simpa using hc
    rcases e' with q | q
    · rw [q]; exact ⟨_, he, fun v q => nomatch q⟩
    · rw [q]; exact s1.at_live h1
  keep := fun i h h' st k => by
    obtain ⟨⟨old, he⟩, h1⟩ := st
    exact ⟨⟨old, k e (by simp) _ he⟩, s1.at_keep h1 fun o q => k it (by simp) o q⟩
  item := by
    intro X hP hw hK hc i pins s σ H E I hf st hg
    subst hP hw hK
    obtain ⟨⟨old, he⟩, h1⟩ := st
    obtain ⟨g1, hi⟩ := hg
    obtain ⟨it1, o1, r1, _, _⟩ := Src.given I s1 g1
    have D1 := Src.draws (P := X.prog) (w := X.w) (A := X.A.in1) (I.ok.hd hc) s1 t1 it it1 xs r1 n1
    have G := GoesN.enumFrom (elts := elts) (x1 := kk) (pos := tpos) 0 D1 e ne nf (by simp)
    refine G.goes i s (fun u s2' => ∃ x H', Inv X pins σ H' s2' ∧ RelV x u ∧ (ItE X.K s1 xs).yld i H x H' ∧ ((∃ old, IsEnum s2'.heap e it (0 + ((i + 1 : Nat) : Int)) old) ∧ s1.at t1 it (i + 1) s2'.heap) ∧ ∀ b ∈ [e, it], H' b = none) E hi ⟨⟨old, he⟩, ⟨h1, o1⟩⟩ ?_
    rintro v h' tk ⟨T, t, u, rfl, hT, ⟨x, hx, rx⟩, isT⟩ ⟨en, ⟨a1, _⟩⟩ kept _
    have new : ObjOk X.prog X.w (upd H T (.tup [.int (i : Nat), x])) h' T (.tup [.int (i : Nat), x]) := ⟨by show 2 ≤ sizeLine; decide, [.int (0 + (i : Int)) t, u], .cons ⟨t, by rw [Int.zero_add]⟩ (.cons rx .nil), isT⟩
    have I1 : Inv X pins σ (upd H T (.tup [.int (i : Nat), x])) { s with heap := h', toks := tk } := I.turnedNew (t' := tk) (ch := [e, it]) (fun c o hb q => kept c o hb q) hf hT new
    refine ⟨.ref T, _, I1, rfl, ⟨T, x, rfl, I.hok.fresh hT, rfl, hx⟩, ⟨en, a1⟩, fun c hcm => ?_⟩
    have hlt : c ≠ T := by
      intro e2
      have e' : c = e ∨ c = it := by simpa using hcm
      have hl : c < s.heap.objs.size := by
        rcases e' with q | q
        · rw [q]; exact Heap.lt_size he
        · rw [q]; obtain ⟨_, e1, _⟩ := s1.at_live h1; exact Heap.lt_size e1
      rw [e2] at hl
      exact absurd (Nat.lt_of_lt_of_le hl hT) (Nat.lt_irrefl _)
    rw [upd_ne hlt]
    exact (hf c hcm).1
  done := by
    intro X hP hw hK hc i pins s σ H E I hf st hg
    subst hP hw hK
    obtain ⟨⟨old, he⟩, h1⟩ := st
    obtain ⟨g1, hi⟩ := hg
    obtain ⟨it1, o1, r1, _, _⟩ := Src.given I s1 g1
    have D1 := Src.draws (P := X.prog) (w := X.w) (A := X.A.in1) (I.ok.hd hc) s1 t1 it it1 xs r1 n1
    have G := GoesN.enumFrom (elts := elts) (x1 := kk) (pos := tpos) 0 D1 e ne nf (by simp)
    refine G.stops s (fun s' => Inv X pins σ H s') E (by rw [← hi]; exact ⟨⟨old, he⟩, ⟨h1, o1⟩⟩) fun h' tk kept _ => I.turnedL (t' := tk) (ch := [e, it]) (fun c o hb q => kept c o hb q) hf
  self := fun A i s Q E st h => let ⟨⟨_, he⟩, _⟩ := st; wpAny_pyIter_enum he h
def iEnumT (K : PySem.W.Frag) (ta : TA) : TI := fun σ H R => ta σ H fun vs H1 => ∃ z : Str, vs = [.str z] ∧ R (ItE K (.txt z) (chV z)) H1
theorem pi_enumT {X : Cx} (K : PySem.W.Frag) {e : Expr} {ta : TA} {p pos tpos : Pos} {elts : List Expr} {kk : Nat} (hg : Gl X "enumerate") (hm : X.mg "enumerate" = none) (ha : PA X [e] ta) (hK : X.K = K := by rfl) (hs : starEach [e] X.env = [(false, eval e X.env)] := by rfl) :
    PI X (.Tuple elts kk tpos) (.Call (.Name "enumerate" p) [e] [] pos) (iEnumT K ta) := by
  subst hK
  refine ⟨fun pins s σ H R I h => ?_⟩
  refine Call_ (ld_blt I hg hm boot_enumerate (PyProof.Rows.callWith_type1 (thn (ha.run pos pins s σ H _ I h) fun us s1 ⟨vs, H1, I1, r1, q1⟩ => ?_) hs rfl))
  obtain ⟨z, rfl, q⟩ := q1
  cases r1 with
  | cons r rr =>
    cases rr
    obtain ⟨t, rfl⟩ := r
    refine call_enumerate_str fun h' he hit hsz hk => wpAny_pyIter_enum he ?_
    have I2 : Inv X pins σ H1 { s1 with heap := h' } := I1.kept (t' := s1.toks) hk
    refine ⟨s1.heap.objs.size + 1, [s1.heap.objs.size + 1, s1.heap.objs.size], _, _, H1, rfl, I2, turn_E (t1 := t) (s1 := .txt z) (e := s1.heap.objs.size + 1) (it := s1.heap.objs.size) (Nat.succ_ne_self _) (fun hm => Nat.succ_ne_self _ (List.mem_singleton.mp hm)) (fun b hb => nomatch hb), ⟨⟨.none, he⟩, hit⟩, fun b hb => ?_, q⟩
    have e' : b = s1.heap.objs.size + 1 ∨ b = s1.heap.objs.size := by simpa using hb
    have hle : s1.heap.objs.size ≤ b := by
      rcases e' with z | z
      · rw [z]; exact Nat.le_add_right _ _
      · rw [z]; exact Nat.le_refl _
    exact I1.fpOk hle (I1.hok.fresh hle)
theorem i_enumT {K : PySem.W.Frag} {σ : L2.St} {H : Hp} {ta : TA} {R : It → Hp → Prop} (k : ta σ H fun vs H1 => ∃ z : Str, vs = [.str z] ∧ R (ItE K (.txt z) (chV z)) H1) : iEnumT K ta σ H R := k
end AR
namespace AR
open PySem PySem.Spec PyProof.Rows L2
open PySem.AutoSeq1 (wpAny_loadPart')
/-! enumerate over a tuple -/
theorem meets_enumerate_newT (l : Addr) (items : Array Value) (n : Nat) (dct : Option Addr) (sl : Array (Option Value)) :
    Meets (Builtin.«enumerate.__new__» ⟨[.type "enumerate", .ref l], []⟩) (fun _ R s => s.heap.get? l = some { cls := .type "tuple", dict := dct, data := .seq items n, slots := sl } ∧
      R (.ok (.ret (.ref (s.heap.push { cls := .type "tuple_iterator", data := .fields #[.ref l, .int 0 0] }).objs.size)))
        { s with heap := (s.heap.push { cls := .type "tuple_iterator", data := .fields #[.ref l, .int 0 0] }).push { cls := .type "enumerate", data := .fields #[.none, .bool false, .ref s.heap.objs.size, rawInt 0, .none, .none] } }) :=
  .of_wp fun prog w A R s h => by
    obtain ⟨hp, g, d, tk, os⟩ := s; obtain ⟨hl, h⟩ := h
    have hsub := sub_enumerate
    have hL : Heap.IsTuple (Shared.heap ⟨hp, g, d, tk, os⟩) l items := ⟨_, hl, rfl, n, rfl⟩
    wp_walk using wpAny_loadPart' hl
    refine wpAny_stack_any fun st => wpAny_pure ?_
    split
    · rename_i c _ _ _ _ _
      cases (c == Value.type "enumerate")
      · wp_walk using wpAny_loadPart' hl, wpAny_pyIter_tuple hL
        exact ⟨_, rfl, h⟩
      · wp_walk using wpAny_loadPart' hl, wpAny_pyIter_tuple hL
        exact ⟨_, rfl, h⟩
    · wp_walk using wpAny_loadPart' hl, wpAny_pyIter_tuple hL
      exact ⟨_, rfl, h⟩
section
variable {prog : Program} {w : World} {A : Around} {E : Value → Shared → Prop} {s : Shared}
theorem call_enumerate_tup {l : Addr} {items : Array Value} {Q : Value → Shared → Prop} (hL : s.heap.IsTuple l items)
    (h : ∀ h', IsEnum h' (s.heap.objs.size + 1) s.heap.objs.size 0 .none → h'.IsTupleIter s.heap.objs.size l 0 → h'.objs.size = s.heap.objs.size + 2 →
      (∀ b o, s.heap.get? b = some o → h'.get? b = some o) → Q (.ref (s.heap.objs.size + 1)) { s with heap := h' }) :
    wpAny (model prog w) A (call (.type "enumerate") [.ref l]) Q E s := by
  obtain ⟨⟨c, dct, dt, sl⟩, hl, hc, n, hd⟩ := hL
  replace hc : c = .type "tuple" := hc
  replace hd : dt = .seq items n := hd
  subst hc hd
  refine callType_new F.called_enumerate (by decide) (F.typeCall_enumerate_1 _) (F.newCall_enumerate_1 _) (fun obj => F.args_object_init_2 obj _) F.entry_enumerate_new
    (meets_enumerate_newT l items n dct sl) ⟨hl, ?_⟩
  have hz : (s.heap.push { cls := .type "tuple_iterator", data := .fields #[.ref l, .int 0 0] }).objs.size = s.heap.objs.size + 1 := Heap.size_push ..
  show _ ∧ _
  rw [hz]
  have he : IsEnum ((s.heap.push { cls := .type "tuple_iterator", data := .fields #[.ref l, .int 0 0] }).push
      { cls := .type "enumerate", data := .fields #[.none, .bool false, .ref s.heap.objs.size, rawInt 0, .none, .none] }) (s.heap.objs.size + 1) s.heap.objs.size 0 .none := by
    have := Heap.get?_push_size (s.heap.push { cls := .type "tuple_iterator", data := .fields #[.ref l, .int 0 0] })
      (o := { cls := .type "enumerate", data := .fields #[.none, .bool false, .ref s.heap.objs.size, rawInt 0, .none, .none] }) rfl
    rw [hz] at this; exact this
  refine ⟨⟨_, he, rfl⟩, h _ he ⟨_, Heap.get?_push_of_some _ (Heap.get?_push_size _ rfl), rfl, rfl⟩ (by rw [Heap.size_push, hz]) fun b o x => Heap.get?_push_of_some _ (Heap.get?_push_of_some _ x)⟩
end
def iEnumU (K : PySem.W.Frag) (ta : TA) : TI := fun σ H R => ta σ H fun vs H1 => ∃ (a : Addr) (xs : List V), vs = [.ref a] ∧ SqT K H1 a xs ∧ R (ItE K (.tup a) xs) H1
theorem pi_enumU {X : Cx} (K : PySem.W.Frag) {e : Expr} {ta : TA} {p pos tpos : Pos} {elts : List Expr} {kk : Nat} (hg : Gl X "enumerate") (hm : X.mg "enumerate" = none) (ha : PA X [e] ta) (hK : X.K = K := by rfl) (hs : starEach [e] X.env = [(false, eval e X.env)] := by rfl) :
    PI X (.Tuple elts kk tpos) (.Call (.Name "enumerate" p) [e] [] pos) (iEnumU K ta) := by
  subst hK
  refine ⟨fun pins s σ H R I h => ?_⟩
  refine Call_ (ld_blt I hg hm boot_enumerate (PyProof.Rows.callWith_type1 (thn (ha.run pos pins s σ H _ I h) fun us s1 ⟨vs, H1, I1, r1, q1⟩ => ?_) hs rfl))
  obtain ⟨a, xs, rfl, hx, q⟩ := q1
  cases r1 with
  | cons r rr =>
    cases rr
    cases (show _ = Value.ref a from r)
    obtain ⟨its, rl, ht, hz⟩ := I1.tuple hx
    refine call_enumerate_tup ht fun h' he hit hsz hk => wpAny_pyIter_enum he ?_
    have I2 : Inv X pins σ H1 { s1 with heap := h' } := I1.kept (t' := s1.toks) hk
    have la : a < s1.heap.objs.size := by obtain ⟨o, e, _⟩ := ht; exact Heap.lt_size e
    refine ⟨s1.heap.objs.size + 1, [s1.heap.objs.size + 1, s1.heap.objs.size], _, _, H1, rfl, I2, turn_E (t1 := 0) (s1 := .tup a) (e := s1.heap.objs.size + 1) (it := s1.heap.objs.size) (Nat.succ_ne_self _) (fun hm => ?_) (fun b hb => ?_), ⟨⟨.none, he⟩, hit⟩, fun b hb => ?_, q⟩
    · have hm' : s1.heap.objs.size + 1 = s1.heap.objs.size ∨ s1.heap.objs.size + 1 = a := by simpa [Src.fp] using hm
      rcases hm' with z | z
      · exact Nat.succ_ne_self _ z
      · rw [← z] at la; exact absurd la (by show ¬ s1.heap.objs.size + 1 < s1.heap.objs.size; exact Nat.not_lt.mpr (Nat.le_succ _))
    · have : b = a := by simpa [Src.fp] using hb
      rw [this]; exact Nat.ne_of_lt la
    · have e' : b = s1.heap.objs.size + 1 ∨ b = s1.heap.objs.size := by simpa using hb
      have hle : s1.heap.objs.size ≤ b := by
        rcases e' with z | z
        · rw [z]; exact Nat.le_add_right _ _
        · rw [z]; exact Nat.le_refl _
      exact I1.fpOk hle (I1.hok.fresh hle)
end AR
namespace AR
open PySem PySem.Spec PyProof.Rows L2
theorem nb_ref_all {ys : List V} (h : ∀ (j : Nat) y, ys[j]? = some y → ∃ l, y = V.ref l) : ¬ Box (.lst ys) := fun ⟨a, b, c, e⟩ => by
  injection e with e
  subst e
  obtain ⟨l, hl⟩ := h 0 _ rfl
  cases hl
section
variable {J : It} {n : Nat} {G : Hp → Prop} {Y : Nat → Hp → V → Hp → Prop} {g : TG} {tt : TT} {te : TE} {vs : List Nat} {σ : L2.St} {H1 : Hp} {Qd : Addr → Hp → Prop}
/-- a comprehension whose elements are new objects that draw from a box: Pe tells of each, in the heap -/
theorem lcH (w : Walk J n G Y) (Pe : Addr → Nat → Hp → V → Prop) (hn : n ≤ sizeLine) (hk : ∀ D i H H' y, Keep H H' → Pe D i H y → Pe D i H' y) (hm : ∀ D i H o y, Pe D i H y → Pe D i (upd H D o) y) (rf : ∀ D i H y, Pe D i H y → ∃ l, y = V.ref l)
    (hG : ∀ H, Keep H1 H → G H)
    (hs : ∀ D acc i x H H' (C : VK) (N : Hp → Prop), i < n → Keep H1 H → H1 D = none → H D = some (.lst acc) → Y i H x H' → (∀ y H4, Pe D i H4 y → Keep H H4 → C y H4) →
      g x (wipe σ vs) H' fun σ2 H2 => wipe σ2 vs = wipe σ vs ∧ tt σ2 H2 fun b H3 => if b = true then te σ2 H3 C else N H3)
    (hd : ∀ D H' (ys : List V), H1 D = none → Keep H1 H' → H' D = some (.lst ys) → ys.length = n → (∀ (j : Nat) y, ys[j]? = some y → Pe D j H' y) → Qd D H') : LcAsk J g tt te vs σ H1 Qd := by
  intro D hD
  refine lc_it w (Qd := Qd D) (fun i H => Keep H1 H ∧ ∃ ys : List V, H D = some (.lst ys) ∧ ys.length = i ∧ ∀ (j : Nat) y, ys[j]? = some y → Pe D j H y) ⟨Keep.new hD, [], upd_same, rfl, fun j y h => by simp at h⟩ (fun i H _ p => hG H p.1) (fun i x H H' hi p y => ?_) fun H p => ?_
  · obtain ⟨kp, ys, hys, hl, hp⟩ := p
    refine hs D ys i x H H' _ _ hi kp hD hys y fun y' H4 pe k4 => ?_
    refine ⟨ys, k4.st _ _ hys (nb_ref_all fun j y h => rf _ _ _ _ (hp j y h)), by omega, (kp.trans k4).mut hD, ys ++ [y'], upd_same, by rw [List.length_append, hl]; rfl, fun j v hv => ?_⟩
    rcases Nat.lt_trichotomy j ys.length with h1 | h1 | h1
    · rw [List.getElem?_append_left h1] at hv; exact hm _ _ _ _ _ (hk _ _ _ _ _ k4 (hp j v hv))
    · subst h1
      have : y' = v := by simpa using hv
      subst this; rw [hl]; exact hm _ _ _ _ _ pe
    · have hnone : (ys ++ [y'])[j]? = none := List.getElem?_eq_none (by rw [List.length_append, List.length_singleton]; omega)
      rw [hnone] at hv; cases hv
  · obtain ⟨kp, ys, hys, hl, hp⟩ := p
    exact hd D H ys hD kp hys hl hp
end
theorem len3 {ys : List V} (h : ys.length = 3) : ∃ a b c, ys = [a, b, c] := by
  match ys, h with
  | [a, b, c], _ => exact ⟨a, b, c, rfl⟩
theorem len2 {ys : List V} (h : ys.length = 2) : ∃ a b, ys = [a, b] := by
  match ys, h with
  | [a, b], _ => exact ⟨a, b, rfl⟩
end AR
/-! a dict comprehension of two clauses whose keys are tuples -/
namespace AR
open PySem PySem.Spec PyProof.Rows L2
section turns
variable {pr : Program} {wo : World} {ar : Around} {R : Result → Shared → Prop} {st : Shared} {ek ev u0 j0 u1 j1 : Expr} {cs0 cs1 : List Expr} {sc : Scope} {po : Pos} {itr : Value} {dd : Addr} {en : Env}
abbrev dcx (ek ev u0 j0 u1 j1 : Expr) (cs0 cs1 : List Expr) (sc : Scope) (po : Pos) : Expr := .DictComp ek ev [⟨u0, j0, cs0, 0⟩, ⟨u1, j1, cs1, 0⟩] sc po
/-- one turn of the outer clause, of the inner one -/
theorem turn0 : compTurn (dcx ek ev u0 j0 u1 j1 cs0 cs1 sc po) 0 itr (.ref dd) en = (do
      standAt j0.pos
      match ← pyNext itr with
      | none => pure (.done .next)
      | some q =>
        letOwnedTupleGo u0 itr q
        assign u0 en q
        let mut good := true
        for c in cs0 do
          if good then good ← isTrue c en (eval c en)
        if good then
          let q1 ← eval j1 en
          standAt j1.pos
          let q1 ← foldedSetIterable j1 en q1
          let _ ← runOwn (.compStart (dcx ek ev u0 j0 u1 j1 cs0 cs1 sc po) 1 (← holding [q1] (pyIter q1)) (.ref dd) en) en
        again (.compLoop (dcx ek ev u0 j0 u1 j1 cs0 cs1 sc po) 0 itr (.ref dd) en)) := by rfl
theorem turn1 : compTurn (dcx ek ev u0 j0 u1 j1 cs0 cs1 sc po) 1 itr (.ref dd) en = (do
      standAt j1.pos
      match ← pyNext itr with
      | none => pure (.done .next)
      | some q =>
        letOwnedTupleGo u1 itr q
        assign u1 en q
        let mut good := true
        for c in cs1 do
          if good then good ← isTrue c en (eval c en)
        if good then
          (do
            let kq ← eval ek en
            let vq ← holding [kq] (eval ev en)
            standAt { ek.pos with endLine := ev.pos.endLine, endCol := ev.pos.endCol }
            holding [kq, vq] (dictSet dd kq vq))
        again (.compLoop (dcx ek ev u0 j0 u1 j1 cs0 cs1 sc po) 1 itr (.ref dd) en)) := by rfl
/-- what an error in a turn leads to -/
abbrev oops (pr : Program) (wo : World) (ar : Around) (en : Env) (R : Result → Shared → Prop) : Value → Shared → Prop := notedBy (model pr wo) ar en fun x z => R (.error x) z
theorem loop0 (hf : ∀ x, foldedSetIterable j1 en x = pure x) (Z : Nat → Shared → Prop)
    (go : ∀ n t, Z n t → wpAny (model pr wo) ar (pyNext itr) (fun r t1 => match r with
      | none => R (.ok .next) t1
      | some q => wpAny (model pr wo) ar (letOwnedTupleGo u0 itr q) (fun _ t2 => wpAny (model pr wo) ar (assign u0 en q) (fun _ t3 =>
          wpAny (model pr wo) ar (forIn cs0 true fun c r => if r = true then do let g ← isTrue c en (eval c en); pure (ForInStep.yield g) else pure (ForInStep.yield r)) (fun g t4 =>
            if g = true then wpAny (model pr wo) ar (eval j1 en) (fun x t5 => wpAny (model pr wo) ar (pyIter x) (fun i1 t6 =>
              codeAny (model pr wo) ar (.compStart (dcx ek ev u0 j0 u1 j1 cs0 cs1 sc po) 1 i1 (.ref dd) en) (fun r z => match r with
                | .ok _ => ∃ m, m < n ∧ Z m z
                | .error _ => False) t6) (oops pr wo ar en R) t5) (oops pr wo ar en R) t4
            else ∃ m, m < n ∧ Z m t4) (oops pr wo ar en R) t3) (oops pr wo ar en R) t2) (oops pr wo ar en R) t1) (oops pr wo ar en R) t)
    (n : Nat) (hz : Z n st) : codeAny (model pr wo) ar (.compLoop (dcx ek ev u0 j0 u1 j1 cs0 cs1 sc po) 0 itr (.ref dd) en) R st := by
  refine codeAny_loop rfl Z (fun n t ht => ?_) n hz
  show wpAny _ ar ((compTurn (dcx ek ev u0 j0 u1 j1 cs0 cs1 sc po) 0 itr (.ref dd) en).onRaise (fun x => do noteFrame x en; theTreesLotGoes x)) _ _ t
  refine wpAny_noted ?_
  rw [turn0]
  refine wpAny_bind (wpAny_standAt (wpAny_bind (thn (go n t ht) fun r t1 h1 => ?_)))
  cases r with
  | none => exact wpAny_pure h1
  | some q =>
    refine wpAny_bind (thn h1 fun _ t2 h2 => wpAny_bind (thn h2 fun _ t3 h3 => wpAny_bind (thn h3 fun g t4 h4 => ?_)))
    cases g with
    | false => exact wpAny_pure ⟨rfl, h4⟩
    | true =>
      refine wpAny_bind (thn h4 fun x t5 h5 => wpAny_bind (wpAny_standAt (wpAny_bind (wpAny_of_eq (hf x) (wpAny_bind (wpAny_holding (thn h5 fun i1 t6 h6 => ?_)))))))
      refine wpAny_bind (wpAny_runOwn ?_)
      rw [Around.mark_none]
      refine codeAny_mono h6 fun r z hr => ?_
      cases r with
      | error e => exact hr.elim
      | ok f => first | exact wpAny_pure ⟨rfl, hr⟩ | exact wpAny_bind (wpAny_pure (wpAny_pure ⟨rfl, hr⟩))
theorem loop1 (Z : Nat → Shared → Prop)
    (go : ∀ n t, Z n t → wpAny (model pr wo) ar (pyNext itr) (fun r t1 => match r with
      | none => R (.ok .next) t1
      | some q => wpAny (model pr wo) ar (letOwnedTupleGo u1 itr q) (fun _ t2 => wpAny (model pr wo) ar (assign u1 en q) (fun _ t3 =>
          wpAny (model pr wo) ar (forIn cs1 true fun c r => if r = true then do let g ← isTrue c en (eval c en); pure (ForInStep.yield g) else pure (ForInStep.yield r)) (fun g t4 =>
            if g = true then wpAny (model pr wo) ar (eval ek en) (fun kq t5 => wpAny (model pr wo) ar (eval ev en) (fun vq t6 =>
              wpAny (model pr wo) ar (dictSet dd kq vq) (fun _ t7 => ∃ m, m < n ∧ Z m t7) (oops pr wo ar en R) t6) (oops pr wo ar en R) t5) (oops pr wo ar en R) t4
            else ∃ m, m < n ∧ Z m t4) (oops pr wo ar en R) t3) (oops pr wo ar en R) t2) (oops pr wo ar en R) t1) (oops pr wo ar en R) t)
    (n : Nat) (hz : Z n st) : codeAny (model pr wo) ar (.compLoop (dcx ek ev u0 j0 u1 j1 cs0 cs1 sc po) 1 itr (.ref dd) en) R st := by
  refine codeAny_loop rfl Z (fun n t ht => ?_) n hz
  show wpAny _ ar ((compTurn (dcx ek ev u0 j0 u1 j1 cs0 cs1 sc po) 1 itr (.ref dd) en).onRaise (fun x => do noteFrame x en; theTreesLotGoes x)) _ _ t
  refine wpAny_noted ?_
  rw [turn1]
  refine wpAny_bind (wpAny_standAt (wpAny_bind (thn (go n t ht) fun r t1 h1 => ?_)))
  cases r with
  | none => exact wpAny_pure h1
  | some q =>
    refine wpAny_bind (thn h1 fun _ t2 h2 => wpAny_bind (thn h2 fun _ t3 h3 => wpAny_bind (thn h3 fun g t4 h4 => ?_)))
    cases g with
    | false => exact wpAny_pure ⟨rfl, h4⟩
    | true => exact wpAny_bind (wpAny_bind (thn h4 fun kq t5 h5 => wpAny_bind (wpAny_holding (thn h5 fun vq t6 h6 => wpAny_bind (wpAny_standAt (wpAny_holding (thn h6 fun _ t7 h7 => wpAny_pure ⟨rfl, h7⟩)))))))
theorem start1 (h0 : codeAny (model pr wo) ar (.compLoop (dcx ek ev u0 j0 u1 j1 cs0 cs1 sc po) 1 itr (.ref dd) en) R st)
    (h : wpAny (model pr wo) ar (pyIter itr) (fun i2 z => codeAny (model pr wo) ar (.compLoop (dcx ek ev u0 j0 u1 j1 cs0 cs1 sc po) 1 i2 (.ref dd) en) R z) (oops pr wo ar en R) st) :
    codeAny (model pr wo) ar (.compStart (dcx ek ev u0 j0 u1 j1 cs0 cs1 sc po) 1 itr (.ref dd) en) R st := by
  refine codeAny_of_tree ?_
  show wpAny _ _ ((compStart (dcx ek ev u0 j0 u1 j1 cs0 cs1 sc po) 1 itr (.ref dd) en).onRaise (fun x => do noteFrame x en; standAt theWindowsPlace)) _ _ st
  refine wpAny_notedAt ?_
  unfold compStart
  show wpAny _ _ (ask >>= _) _ _ st
  refine wpAny_bind (wpAny_askSetting (wpAny_ite ?_))
  split
  · first
      | exact wpAny_pure ⟨rfl, h0⟩
      | exact wpAny_bind (wpAny_pure (wpAny_pure ⟨rfl, h0⟩))
  · refine wpAny_bind (wpAny_rule ?_)
    first
      | exact wpAny_bind (wpAny_standAt (wpAny_bind (thn h fun i2 z hz => wpAny_pure ⟨rfl, hz⟩)))
      | (show wpAny _ _ (standAt j1.pos >>= _) _ _ st; exact wpAny_bind (wpAny_standAt (wpAny_bind (thn h fun i2 z hz => wpAny_pure ⟨rfl, hz⟩))))
end turns
end AR
namespace AR
open PySem PySem.Spec PyProof.Rows L2
section
variable {Y : Cx}
/-- d[k] = v within a comprehension, the key a tuple -/
theorem dsetT {ps : List (Addr × Obj)} {σ : L2.St} {H : Hp} {st : Shared} {E : Value → Shared → Prop} {D b : Addr} {kvs : List (List Key × V)} {k : List Key} {v : V} {r : Value} {Q : Unit → Shared → Prop} (hu : Y.A.units < cLine) (I : Inv Y ps σ H st)
    (hD : H D = some (.dT kvs)) (hb : H b = some (.tup (k.map kV))) (hz : kvs.length < sizeLine) (rv : RelV v r) (h : ∀ z, Inv Y ps σ (upd H D (.dT (putK kvs k v))) z → Q () z) : wpAny (model Y.prog Y.w) Y.A (dictSet D (.ref b) r) Q E st := by
  obtain ⟨z, hd, xs, rel, dd⟩ := dt_of I.hok hD
  have len : xs.length ≤ sizeLine := by rw [← Paired.length rel]; exact z
  have new : (putK kvs k v).length ≤ sizeLine := by have := length_putK kvs k v; omega
  refine wpAny_dictSet_heap (hsz := len) hu (key_of I.hok hb) dd fun h2 d2 same => h _ ?_
  obtain ⟨q, es, ep, g1, g2, g3, g4, _, g5⟩ := d2
  refine d_write I (by rw [hD]; exact True.intro) same ⟨q, g1⟩ ⟨new, hd, _, (rel.put k hb rv).keeps fun c ys ec => ?_, q, es, ep, g1, g2, g3, g4, g5⟩
  rw [upd_ne (ne_of ec hD (fun z => nomatch z))]
  exact ec
/-- {k: v for .. for ..}, the keys tuples of ints and texts: D the new dict -/
def tDc2 (wi : TI) (g : TG) (tt : TT) (wj : TI) (gj : TG) (tj : TT) (tk tv : TE) (vs us : List Nat) : TE := fun σ H Q => wi σ H fun J H1 => ∀ D, H1 D = none → ∃ W : Nat → Nat → Hp → Prop, (∃ m, W 0 m (upd H1 D (.dT []))) ∧ ∀ i m H, W i m H →
  (J.stop i H ∧ Q (.ref D) H) ∨ (J.go i H ∧ ∃ Nx : Hp → Prop, (∀ H', Nx H' → ∃ m', m' < m ∧ W (i + 1) m' H') ∧ ∀ x H', J.yld i H x H' → g x (wipe σ vs) H' fun σ2 H2 => wipe σ2 vs = wipe σ vs ∧ tt σ2 H2 fun b H3 =>
    if b = true then wj σ2 H3 fun L H4 => ∃ U : Nat → Nat → Hp → Prop, (∃ m, U 0 m H4) ∧ ∀ j n H, U j n H →
      (L.stop j H ∧ Nx H) ∨ (L.go j H ∧ ∃ Ny : Hp → Prop, (∀ H', Ny H' → ∃ n', n' < n ∧ U (j + 1) n' H') ∧ ∀ x H', L.yld j H x H' → gj x (wipe σ2 us) H' fun σ3 H5 => wipe σ3 us = wipe σ2 us ∧ tj σ3 H5 fun b H6 =>
        if b = true then tk σ3 H6 fun y H7 => tv σ3 H7 fun z H8 => ∃ kvs k a, y = .ref a ∧ H8 a = some (.tup (k.map kV)) ∧ H8 D = some (.dT kvs) ∧ kvs.length < sizeLine ∧ Ny (upd H8 D (.dT (putK kvs k z))) else Ny H6)
    else Nx H3)
theorem dc2_run {ps : List (Addr × Obj)} {st : Shared} {σ : L2.St} {H : Hp} {Q : VK} {ek ev u0 j0 u1 j1 : Expr} {cs0 cs1 : List Expr} {sc : Scope} {own : List (Str × Nat)} {us : List Nat} {po po' : Pos} {wi wj : TI} {g gj : TG} {tt tj : TT} {tk tv : TE} {use : Option (Value → Sem Unit)} {Qf : Value → Shared → Prop}
    (hc : Y.calm = true) (hu : Y.A.units < cLine) (hN : Y.N.Nodup) (I : Inv Y ps σ H st) (hi : PI Y u0 j0 wi) (ok : BlkOk Y.N Y.env.scope sc own) (hv : ∀ i ∈ us, i ∈ own.map (·.2))
    (hg : ∀ s H C cl fp, PG (Y.blk s H sc (compEnvC sc cl C Y.env) fp) u0 g) (ht : ∀ s H C cl fp, PTs (Y.blk s H sc (compEnvC sc cl C Y.env) fp) cs0 tt)
    (hj : ∀ s H C cl fp, PI (Y.blk s H sc (compEnvC sc cl C Y.env) fp) u1 j1 wj) (hgj : ∀ s H C cl fp, PG (Y.blk s H sc (compEnvC sc cl C Y.env) fp) u1 gj) (htj : ∀ s H C cl fp, PTs (Y.blk s H sc (compEnvC sc cl C Y.env) fp) cs1 tj)
    (hk : ∀ s H C cl fp, PE (Y.blk s H sc (compEnvC sc cl C Y.env) fp) ek tk) (he : ∀ s H C cl fp, PE (Y.blk s H sc (compEnvC sc cl C Y.env) fp) ev tv)
    (hs : ∀ x, foldedSetIterable j0 Y.env x = pure x) (hs1 : ∀ env x, foldedSetIterable j1 env x = pure x) (h : tDc2 wi g tt wj gj tj tk tv (own.map (·.2)) us σ H Q)
    (fin : ∀ D C z m H', Inv Y ps σ H' z → Q (.ref D) H' → z.heap.Ns C m → FpOk Y ps H' C → compPost (model Y.prog Y.w) Y.A Y.xe use Qf (.ref D) C (.ok .next) z) :
    wpAny (model Y.prog Y.w) Y.A (comprehension (dcx ek ev u0 j0 u1 j1 cs0 cs1 sc po) sc Y.env po' newDict false (eval j0 Y.env) use) Qf Y.xe st := by
  have frees : ∀ y ∈ sc.names, y.2 = .free → ∃ c, Y.env.cells.lookup y.1 = some c := fun y hy e => (ok.free y hy e).elim (fun k => I.ok.has _ (.inl k)) fun k => I.ok.has _ (.inr k)
  refine wpAny_comprehension_free (use := use) rfl hs (closure_ok frees) ok.kind (fun y hy e => by rw [ok.uniq y hy, e]) (thn (hi.run ps st σ H _ I h) fun xv t1 hx => thn hx fun iv t2 h2 => ?_)
  obtain ⟨it, fp, tn, J, H2, e, I2, T, a2, f2, q⟩ := h2
  subst e
  refine wpAny_newObj_type (newEnv_comp ?_)
  generalize eD : t2.heap.objs.size = D
  obtain ⟨W, ⟨m0, w0⟩, turn⟩ := q D (I2.hok.fresh (Nat.le_of_eq eD))
  generalize e3 : ({ t2 with heap := t2.heap.push { cls := .type "dict", data := .dict #[] } } : Shared) = t3
  have hp3 : t3.heap = t2.heap.push { cls := .type "dict", data := .dict #[] } := by rw [← e3]
  have I3 : Inv Y ps σ (upd H2 D (.dT [])) t3 := by
    rw [← e3]
    refine I2.laid (t' := t2.toks) (fun b o e => Heap.get?_push_of_some _ e) (Nat.le_of_eq eD) ?_
    rw [← eD]
    exact dt_empty t2.heap I2.big
  have f3 : ∀ b ∈ fp, FpOk Y ps (upd H2 D (.dT [])) b ∧ b < t3.heap.objs.size := fun b hb => by
    obtain ⟨o, e, _⟩ := T.obj _ _ a2 b hb
    have hlt := Heap.lt_size e
    exact ⟨⟨by rw [upd_ne (by rw [← eD]; exact Nat.ne_of_lt hlt)]; exact (f2 b hb).1, (f2 b hb).2⟩, by rw [hp3, Heap.size_push]; exact Nat.lt_succ_of_lt hlt⟩
  have a3 : tn 0 t3.heap := T.keep _ _ _ a2 fun b _ o e => by rw [hp3]; exact Heap.get?_push_of_some _ e
  have I4 := block_start I3 ok hN f3
  generalize eC : t3.heap.objs.size = C at I4
  generalize ecl : cellsFrom (C + 1) sc.names (cloFrom Y.env.cells sc.names []) = cl at I4
  have pg := hg t3 (upd H2 D (.dT [])) C cl fp
  have pt := ht t3 (upd H2 D (.dT [])) C cl fp
  have pj := hj t3 (upd H2 D (.dT [])) C cl fp
  have pgj := hgj t3 (upd H2 D (.dT [])) C cl fp
  have ptj := htj t3 (upd H2 D (.dT [])) C cl fp
  have pk := hk t3 (upd H2 D (.dT [])) C cl fp
  have pe := he t3 (upd H2 D (.dT [])) C cl fp
  show codeAny _ _ (.compStart (dcx ek ev u0 j0 u1 j1 cs0 cs1 sc po) 0 (.ref it) (.ref D) (compEnvC sc cl C Y.env)) (compPost (model Y.prog Y.w) Y.A Y.xe use Qf (.ref D) C) { t3 with heap := pushCells (t3.heap.push { cls := .type "dict", data := .dict #[] }) sc.names }
  have nfp : ∀ b ∈ fp, (upd H2 D (.dT [])) b = none := fun b hb => (f3 b hb).1.1
  generalize hce : compEnvC sc cl C Y.env = ce at I4 pg pt pj pgj ptj pk pe ⊢
  have cL : ce.locals = C := by subst hce; rfl
  generalize hH3 : upd H2 D (.dT []) = H3 at I3 I4 pg pt pj pgj ptj pk pe w0 nfp f3
  generalize hs4 : ({ t3 with heap := pushCells (t3.heap.push { cls := .type "dict", data := .dict #[] }) sc.names } : Shared) = t4 at I4 ⊢
  have a4 : tn 0 t4.heap := T.keep _ _ _ a3 fun b _ o e => by rw [← hs4]; exact pushCells_keeps _ _ _ _ (Heap.get?_push_of_some _ e)
  have nofp : ∀ {σ' : L2.St} {H' : Hp} {z : Shared}, Inv (Y.blk t3 H3 sc ce fp) [] σ' H' z → (∀ b ∈ fp, H' b = none) → ∀ b ∈ fp, FpOk (Y.blk t3 H3 sc ce fp) [] H' b := fun {σ' H' z} I' hn b hb =>
    ⟨hn b hb, (I'.ok.exf b hb).1, I'.ok.exfs b hb, .inl hb, fun x c e => (I'.ok.exf b hb).2 x c e, fun p hp => by cases hp⟩
  have outer : codeAny (model Y.prog Y.w) Y.A (.compLoop (dcx ek ev u0 j0 u1 j1 cs0 cs1 sc po) 0 (.ref it) (.ref D) ce) (compPost (model Y.prog Y.w) Y.A Y.xe use Qf (.ref D) C) t4 := by
    refine loop0 (hs1 ce) (fun n z => ∃ i H', Inv (Y.blk t3 H3 sc ce fp) [] (wipe σ (own.map (·.2))) H' z ∧ tn i z.heap ∧ (∀ b ∈ fp, H' b = none) ∧ W i n H') ?_ m0 ⟨0, H3, I4, a4, nfp, w0⟩
    rintro n t5 ⟨i, H5, I5, a5, n5, w5⟩
    rcases turn i n H5 w5 with ⟨stop, qq⟩ | ⟨go, Nx, hNx, step⟩
    · refine thnF (T.done (Y.blk t3 H3 sc ce fp) rfl rfl rfl hc i [] t5 _ H5 (fun _ _ => False) I5 (nofp I5 n5) a5 stop) fun r t6 ⟨hr, I6⟩ => ?_
      subst hr
      have I7 : Inv Y ps σ H5 t6 := I3.call' (ch := fp) I6.os I6.base I6.hok I6.bare fun b hb => by
        obtain ⟨_, g1, _, g3, g4, g5⟩ := (f3 b hb).1
        exact ⟨g3, g1, g4, g5⟩
      have nC : H5 C = none := by
        have zz : H5 ce.locals = none := I6.free
        rwa [cL] at zz
      obtain ⟨m, hn, _⟩ := I6.loc
      replace hn : t6.heap.Ns ce.locals m := hn
      rw [cL] at hn
      exact fin D C t6 m H5 I7 qq hn (I3.fpOk (Nat.le_of_eq eC) nC)
    · refine thnF (T.item (Y.blk t3 H3 sc ce fp) rfl rfl rfl hc i [] t5 _ H5 (fun _ _ => False) I5 (nofp I5 n5) a5 go) fun r t6 ⟨u, hr, h6⟩ => ?_
      subst hr
      refine thnF h6 fun _ t7 ⟨x, H7, I7, r7, y7, a7, n7⟩ => ?_
      refine thnF (pg.run _ t7 _ H7 x u _ (I7.pinned (nofp I7 n7) (T.obj _ _ a7)) r7 (step x H7 y7)) fun _ t8 ⟨σ8, H8, I8, hw8, q8⟩ => ?_
      refine thnF (pt.run _ t8 σ8 H8 _ I8 q8) fun b t9 ⟨H9, I9, q9⟩ => ?_
      have back : ∀ {σ9 : L2.St} {z : Shared} {H' : Hp}, Inv (Y.blk t3 H3 sc ce fp) ([] ++ pinsAt fp t7.heap) σ9 H' z → (wipe σ (own.map (·.2))).length = σ9.length → (∀ (j : Nat) v, (wipe σ (own.map (·.2)))[j]? = some (some v) → σ9[j]? = some (some v)) → Nx H' →
          ∃ m, m < n ∧ ∃ i H', Inv (Y.blk t3 H3 sc ce fp) [] (wipe σ (own.map (·.2))) H' z ∧ tn i z.heap ∧ (∀ b ∈ fp, H' b = none) ∧ W i m H' := fun {σ9 z H'} I' hl hkk nx => by
        obtain ⟨m', hm, w'⟩ := hNx H' nx
        have pinned : ∀ b ∈ fp, ∀ o, t7.heap.get? b = some o → z.heap.get? b = some o ∧ H' b = none := fun b hb o e => by
          have y := I'.pin (b, o) (List.mem_append_right _ (List.mem_append_right _ (mem_pinsAt hb e)))
          exact ⟨y.1, y.2.1⟩
        refine ⟨m', hm, i + 1, H', (I'.unpinned (pins := [])).weak hl hkk, T.keep _ _ _ a7 fun b hb o e => (pinned b hb o e).1, fun b hb => ?_, w'⟩
        obtain ⟨o, e, _⟩ := T.obj _ _ a7 b hb
        exact (pinned b hb o e).2
      have l8 : (wipe σ (own.map (·.2))).length = σ8.length := by rw [← hw8, wipe_length]
      cases b with
      | false => exact back I9 l8 (fun j v e => by rw [← hw8] at e; exact (wipe_some e).1) q9
      | true =>
        refine thnF (pj.run _ t9 σ8 H9 _ I9 q9) fun xv t10 hx => thnF hx fun iv t11 h11 => ?_
        obtain ⟨ij, fj, nj, L, H11, e1, I11, S, b11, f11, U, ⟨m1, w1⟩, turnj⟩ := h11
        subst e1
        have nofj : ∀ {H' : Hp}, (∀ b ∈ fj, H' b = none) → ∀ b ∈ fj, FpOk (Y.blk t3 H3 sc ce fp) ([] ++ pinsAt fp t7.heap) H' b := fun hn b hb => ⟨hn b hb, (f11 b hb).2⟩
        have inner : codeAny (model Y.prog Y.w) Y.A (.compLoop (dcx ek ev u0 j0 u1 j1 cs0 cs1 sc po) 1 (.ref ij) (.ref D) ce) (fun r z => match r with
              | .ok _ => ∃ m, m < n ∧ ∃ i H', Inv (Y.blk t3 H3 sc ce fp) [] (wipe σ (own.map (·.2))) H' z ∧ tn i z.heap ∧ (∀ b ∈ fp, H' b = none) ∧ W i m H'
              | .error _ => False) t11 := by
          refine loop1 (fun n1 z => ∃ j H', Inv (Y.blk t3 H3 sc ce fp) ([] ++ pinsAt fp t7.heap) (wipe σ8 us) H' z ∧ nj j z.heap ∧ (∀ b ∈ fj, H' b = none) ∧ U j n1 H') ?_ m1 ⟨0, H11, I11.weak (wipe_length _ _) (fun j v e => (wipe_some e).1), b11, fun b hb => (f11 b hb).1, w1⟩
          rintro n1 t12 ⟨j, H12, I12, b12, n12, w12⟩
          rcases turnj j n1 H12 w12 with ⟨stopj, nx1⟩ | ⟨goj, Ny, hNy, stepj⟩
          · refine thnF (S.done (Y.blk t3 H3 sc ce fp) rfl rfl rfl hc j _ t12 (wipe σ8 us) H12 (fun _ _ => False) I12 (nofj n12) b12 stopj) fun r t13 ⟨hr, I13⟩ => ?_
            subst hr
            refine back I13 (l8.trans (wipe_length σ8 us).symm) (fun j v e => ?_) nx1
            rw [← hw8] at e
            obtain ⟨g1, g2⟩ := wipe_some e
            rw [wipe_out fun zz => g2 (hv j zz)]
            exact g1
          · refine thnF (S.item (Y.blk t3 H3 sc ce fp) rfl rfl rfl hc j _ t12 (wipe σ8 us) H12 (fun _ _ => False) I12 (nofj n12) b12 goj) fun r t13 ⟨v1, hr, h13⟩ => ?_
            subst hr
            refine thnF h13 fun _ t14 ⟨x1, H14, I14, r14, y14, b14, n14⟩ => ?_
            refine thnF (pgj.run _ t14 (wipe σ8 us) H14 x1 v1 _ (I14.pinned (nofj n14) (S.obj _ _ b14)) r14 (stepj x1 H14 y14)) fun _ t15 ⟨σ15, H15, I15, hw15, q15⟩ => ?_
            refine thnF (ptj.run _ t15 σ15 H15 _ I15 q15) fun b1 t16 ⟨H16, I16, q16⟩ => ?_
            have backj : ∀ {z : Shared} {H' : Hp}, Inv (Y.blk t3 H3 sc ce fp) (([] ++ pinsAt fp t7.heap) ++ pinsAt fj t14.heap) σ15 H' z → Ny H' → ∃ m, m < n1 ∧ ∃ j H', Inv (Y.blk t3 H3 sc ce fp) ([] ++ pinsAt fp t7.heap) (wipe σ8 us) H' z ∧ nj j z.heap ∧ (∀ b ∈ fj, H' b = none) ∧ U j m H' := fun {z H'} I' nx => by
              obtain ⟨m', hm, w'⟩ := hNy H' nx
              have pinned : ∀ b ∈ fj, ∀ o, t14.heap.get? b = some o → z.heap.get? b = some o ∧ H' b = none := fun b hb o e => by
                have y := I'.pin (b, o) (List.mem_append_right _ (List.mem_append_right _ (mem_pinsAt hb e)))
                exact ⟨y.1, y.2.1⟩
              refine ⟨m', hm, j + 1, H', I'.unpinned.weak (by rw [← hw15, wipe_length]) (fun j v e => by rw [← hw15] at e; exact (wipe_some e).1), S.keep _ _ _ b14 fun b hb o e => (pinned b hb o e).1, fun b hb => ?_, w'⟩
              obtain ⟨o, e, _⟩ := S.obj _ _ b14 b hb
              exact (pinned b hb o e).2
            cases b1 with
            | false => exact backj I16 q16
            | true =>
              refine thnF (pk.run _ t16 σ15 H16 _ I16 q16) fun kq t17 ⟨yk, H17, I17, r17, q17⟩ => ?_
              refine thnF (pe.run _ t17 σ15 H17 _ I17 q17) fun vq t18 ⟨yv, H18, I18, r18, kvs, k, ka, ek', hka, hD18, hz18, nx⟩ => ?_
              subst ek'
              cases (show kq = Value.ref ka from r17)
              exact dsetT (Y := Y.blk t3 H3 sc ce fp) hu I18 hD18 hka hz18 r18 fun t19 I19 => backj I19 nx
        exact start1 inner (S.self Y.A 0 _ _ _ b11 inner)
  exact codeAny_compStart_dict outer (T.self Y.A 0 _ _ _ a4 outer)
theorem pe_dc2 {ek ev u0 j0 u1 j1 : Expr} {cs0 cs1 : List Expr} {sc : Scope} {own : List (Str × Nat)} {us : List Nat} {po : Pos} {wi wj : TI} {g gj : TG} {tt tj : TT} {tk tv : TE} (hc : Y.calm = true) (hu : Y.A.units < cLine) (hN : Y.N.Nodup) (hi : PI Y u0 j0 wi) (ok : BlkOk Y.N Y.env.scope sc own) (hv : ∀ i ∈ us, i ∈ own.map (·.2))
    (hg : ∀ s H C cl fp, PG (Y.blk s H sc (compEnvC sc cl C Y.env) fp) u0 g) (ht : ∀ s H C cl fp, PTs (Y.blk s H sc (compEnvC sc cl C Y.env) fp) cs0 tt)
    (hj : ∀ s H C cl fp, PI (Y.blk s H sc (compEnvC sc cl C Y.env) fp) u1 j1 wj) (hgj : ∀ s H C cl fp, PG (Y.blk s H sc (compEnvC sc cl C Y.env) fp) u1 gj) (htj : ∀ s H C cl fp, PTs (Y.blk s H sc (compEnvC sc cl C Y.env) fp) cs1 tj)
    (hk : ∀ s H C cl fp, PE (Y.blk s H sc (compEnvC sc cl C Y.env) fp) ek tk) (he : ∀ s H C cl fp, PE (Y.blk s H sc (compEnvC sc cl C Y.env) fp) ev tv)
    (hs : ∀ x, foldedSetIterable j0 Y.env x = pure x := by intro _; rfl) (hs1 : ∀ env x, foldedSetIterable j1 env x = pure x := by intro _ _; rfl) :
    PE Y (.DictComp ek ev [⟨u0, j0, cs0, 0⟩, ⟨u1, j1, cs1, 0⟩] sc po) (tDc2 wi g tt wj gj tj tk tv (own.map (·.2)) us) := by
  refine ⟨fun ps st σ H Q I h => ?_⟩
  rw [arm_eval_DictComp]
  refine dc2_run hc hu hN I hi ok hv hg ht hj hgj htj hk he hs hs1 h fun D C z m H' I' q hn f => ⟨m, hn, fun h'' sb => ?_⟩
  obtain ⟨g0, g1, g2, g3, g4, g5⟩ := f
  exact ⟨.ref D, H', I'.turned (t' := z.toks) (fun b o hb e => (sb.2 b hb).trans e) g0 g1 g3 g4 g5, rfl, q⟩
end
end AR
namespace AR
open PySem PySem.Spec PyProof.Rows L2
/-- the pairs put one behind another -/
def buildK (kf : Nat → Key) (vf : Nat → V) : Nat → List (Key × V)
  | 0 => []
  | i + 1 => putK (buildK kf vf i) (kf i) (vf i)
theorem buildK_len (kf : Nat → Key) (vf : Nat → V) : ∀ i, (buildK kf vf i).length ≤ i
  | 0 => Nat.le_refl _
  | i + 1 => Nat.le_trans (length_putK _ _ _) (Nat.succ_le_succ (buildK_len kf vf i))
section
variable {J : It} {n : Nat} {G : Hp → Prop} {Y : Nat → Hp → V → Hp → Prop} {g : TG} {tt : TT} {tk tv : TE} {vs : List Nat} {σ : L2.St} {H1 : Hp} {Qd : Addr → Hp → Prop}
def DcAsk (J : It) (g : TG) (tt : TT) (tk tv : TE) (vs : List Nat) (σ : L2.St) (H1 : Hp) (Qd : Addr → Hp → Prop) : Prop :=
  ∀ D, H1 D = none → ∃ W : Nat → Nat → Hp → Prop, (∃ m, W 0 m (upd H1 D (.dK []))) ∧ ∀ i m H, W i m H →
    (J.stop i H ∧ Qd D H) ∨ (J.go i H ∧ ∃ Nx : Hp → Prop, (∀ H', Nx H' → ∃ m', m' < m ∧ W (i + 1) m' H') ∧ ∀ x H', J.yld i H x H' → g x (wipe σ vs) H' fun σ2 H2 => wipe σ2 vs = wipe σ vs ∧ tt σ2 H2 fun b H3 =>
      if b = true then tk σ2 H3 fun y H4 => tv σ2 H4 fun z H5 => ∃ kvs k, y = kV k ∧ H5 D = some (.dK kvs) ∧ kvs.length < sizeLine ∧ Nx (upd H5 D (.dK (putK kvs k z))) else Nx H3)
theorem i_dc {wi : TI} {H : Hp} {Q : VK} (k : wi σ H fun J H1 => DcAsk J g tt tk tv vs σ H1 fun D H' => Q (.ref D) H') : tDc wi g tt tk tv vs σ H Q := k
/-- a dict comprehension that leaves all as it was, its pairs told by their places -/
theorem dcS (w : Walk J n G Y) (kf : Nat → Key) (vf : Nat → V) (hn : n ≤ sizeLine) (hG : ∀ H, Same H1 H → G H)
    (hs : ∀ i x H H' (C : V → V → Hp → Prop) (N : Hp → Prop), i < n → Same H1 H → Y i H x H' → (∀ H5, Same H H5 → C (kV (kf i)) (vf i) H5) →
      g x (wipe σ vs) H' fun σ2 H2 => wipe σ2 vs = wipe σ vs ∧ tt σ2 H2 fun b H3 => if b = true then tk σ2 H3 fun y H4 => tv σ2 H4 fun z H5 => C y z H5 else N H3)
    (hd : ∀ D H', H1 D = none → Same H1 H' → H' D = some (.dK (buildK kf vf n)) → Qd D H') : DcAsk J g tt tk tv vs σ H1 Qd := by
  intro D hD
  refine ⟨fun i m H => m = n - i ∧ i ≤ n ∧ Same H1 H ∧ H D = some (.dK (buildK kf vf i)), ⟨n, by simp, Nat.zero_le _, same_new hD, upd_same⟩, ?_⟩
  rintro i m H ⟨rfl, hi, sm, hB⟩
  have q := hG H sm
  by_cases hlt : i < n
  · refine .inr ⟨w.goes i H hlt q, fun H' => Same H1 H' ∧ H' D = some (.dK (buildK kf vf (i + 1))), fun H' h => ⟨n - (i + 1), by omega, rfl, by omega, h.1, h.2⟩, fun x H' y => ?_⟩
    refine hs i x H H' _ _ hlt sm (w.yields i H x H' hlt q y) fun H5 s5 => ?_
    refine ⟨buildK kf vf i, kf i, rfl, s5 _ _ hB, ?_, same_mut (sm.trans s5) hD, by rw [upd_same]; rfl⟩
    have := buildK_len kf vf i
    omega
  · have e : i = n := by omega
    subst e
    exact .inl ⟨w.stops H q, hd D H hD sm hB⟩
end
/-- keys that differ: the pairs stand as they come -/
theorem buildK_nodup {kf : Nat → Key} {vf : Nat → V} : ∀ n, (∀ i j, i < j → j < n → kf i ≠ kf j) → buildK kf vf n = (List.range n).map fun i => (kf i, vf i)
  | 0, _ => rfl
  | n + 1, h => by
    have ih := buildK_nodup (kf := kf) (vf := vf) n fun i j a b => h i j a (by omega)
    show putK (buildK kf vf n) (kf n) (vf n) = _
    rw [ih, putK_new]
    · rw [List.range_succ, List.map_append]; rfl
    · cases e : valV ((List.range n).map fun i => (kf i, vf i)) (kf n) with
      | none => rfl
      | some v =>
        unfold valV at e
        obtain ⟨p, hp, _⟩ := Option.map_eq_some_iff.mp e
        have hm := List.mem_of_find?_eq_some hp
        obtain ⟨i, hi, rfl⟩ := List.mem_map.mp hm
        have := List.find?_some hp
        exact absurd (of_decide_eq_true this) (h i n (List.mem_range.mp hi) (by omega))
end AR
namespace AR
open PySem PySem.Spec PyProof.Rows L2
/-- the pairs of the rows below i, and of row i below j -/
def upTo (kf : Nat → Nat → List Key) (vf : Nat → Nat → V) (m : Nat → Nat) (i j : Nat) : List (List Key × V) :=
  ((List.range i).flatMap fun a => (List.range (m a)).map fun c => (kf a c, vf a c)) ++ (List.range j).map fun c => (kf i c, vf i c)
theorem upTo_next (kf : Nat → Nat → List Key) (vf : Nat → Nat → V) (m : Nat → Nat) (i j : Nat) : upTo kf vf m i (j + 1) = upTo kf vf m i j ++ [(kf i j, vf i j)] := by
  unfold upTo
  rw [List.range_succ, List.map_append, ← List.append_assoc]
  rfl
theorem upTo_row (kf : Nat → Nat → List Key) (vf : Nat → Nat → V) (m : Nat → Nat) (i : Nat) : upTo kf vf m (i + 1) 0 = upTo kf vf m i (m i) := by
  unfold upTo
  rw [List.range_succ, List.flatMap_append]
  simp
def mergeT (ps : List (List Key × V)) : List (List Key × V) := ps.foldl (fun acc p => putK acc p.1 p.2) []
theorem mergeT_snoc (ps : List (List Key × V)) (k : List Key) (v : V) : mergeT (ps ++ [(k, v)]) = putK (mergeT ps) k v := by
  unfold mergeT
  rw [List.foldl_append]
  rfl
theorem mergeT_len : ∀ ps : List (List Key × V), (mergeT ps).length ≤ ps.length := by
  have key : ∀ (ps acc : List (List Key × V)), (ps.foldl (fun acc p => putK acc p.1 p.2) acc).length ≤ acc.length + ps.length := by
    intro ps
    induction ps with
    | nil => intro acc; exact Nat.le_refl _
    | cons p r ih =>
      intro acc
      have h1 := ih (putK acc p.1 p.2)
      have h2 := length_putK acc p.1 p.2
      show (r.foldl (fun acc p => putK acc p.1 p.2) (putK acc p.1 p.2)).length ≤ _
      rw [List.length_cons]
      omega
  intro ps
  have := key ps []
  rw [List.length_nil] at this
  unfold mergeT
  omega
section
variable {J : It} {n : Nat} {G : Hp → Prop} {Y : Nat → Hp → V → Hp → Prop} {wj : TI} {g gj : TG} {tt tj : TT} {tk tv : TE} {vs us : List Nat} {σ : L2.St} {H1 : Hp} {Qd : Addr → Hp → Prop}
/-- the inner clause's loop -/
def InAsk (L : It) (gj : TG) (tj : TT) (tk tv : TE) (us : List Nat) (σ2 : L2.St) (H4 : Hp) (D : Addr) (Nx : Hp → Prop) : Prop := ∃ U : Nat → Nat → Hp → Prop, (∃ m, U 0 m H4) ∧ ∀ j n H, U j n H →
      (L.stop j H ∧ Nx H) ∨ (L.go j H ∧ ∃ Ny : Hp → Prop, (∀ H', Ny H' → ∃ n', n' < n ∧ U (j + 1) n' H') ∧ ∀ x H', L.yld j H x H' → gj x (wipe σ2 us) H' fun σ3 H5 => wipe σ3 us = wipe σ2 us ∧ tj σ3 H5 fun b H6 =>
        if b = true then tk σ3 H6 fun y H7 => tv σ3 H7 fun z H8 => ∃ kvs k a, y = .ref a ∧ H8 a = some (.tup (k.map kV)) ∧ H8 D = some (.dT kvs) ∧ kvs.length < sizeLine ∧ Ny (upd H8 D (.dT (putK kvs k z))) else Ny H6)
def Dc2Ask (J : It) (g : TG) (tt : TT) (wj : TI) (gj : TG) (tj : TT) (tk tv : TE) (vs us : List Nat) (σ : L2.St) (H1 : Hp) (Qd : Addr → Hp → Prop) : Prop :=
  ∀ D, H1 D = none → ∃ W : Nat → Nat → Hp → Prop, (∃ m, W 0 m (upd H1 D (.dT []))) ∧ ∀ i m H, W i m H →
  (J.stop i H ∧ Qd D H) ∨ (J.go i H ∧ ∃ Nx : Hp → Prop, (∀ H', Nx H' → ∃ m', m' < m ∧ W (i + 1) m' H') ∧ ∀ x H', J.yld i H x H' → g x (wipe σ vs) H' fun σ2 H2 => wipe σ2 vs = wipe σ vs ∧ tt σ2 H2 fun b H3 =>
    if b = true then wj σ2 H3 fun L H4 => InAsk L gj tj tk tv us σ2 H4 D Nx else Nx H3)
theorem i_dc2 {wi : TI} {H : Hp} {Q : VK} (k : wi σ H fun J H1 => Dc2Ask J g tt wj gj tj tk tv vs us σ H1 fun D H' => Q (.ref D) H') : tDc2 wi g tt wj gj tj tk tv vs us σ H Q := k
/-- all stays but the new dict -/
def SameD (D : Addr) (H H' : Hp) : Prop := ∀ a o, H a = some o → a ≠ D → H' a = some o
theorem dc2S (w : Walk J n G Y) (kf : Nat → Nat → List Key) (vf : Nat → Nat → V) (m : Nat → Nat) (hn : (upTo kf vf m n 0).length ≤ sizeLine) (hm : ∀ i, i < n → ∀ j, j < m i → (upTo kf vf m i j).length < sizeLine) (hG : ∀ H, Same H1 H → G H)
    (hs : ∀ D i x H H' (R : L2.St → It → Hp → Prop) (N : Hp → Prop), i < n → Same H1 H → Y i H x H' → (∀ σ2 L H4 Gj Yj, Walk L (m i) Gj Yj → Same H H4 → (∀ H5, SameD D H4 H5 → Gj H5) →
        (∀ j x H5 H6 (C : V → V → Hp → Prop) (N : Hp → Prop), j < m i → SameD D H4 H5 → Yj j H5 x H6 → (∀ a H8, Same H5 H8 → H8 a = some (.tup ((kf i j).map kV)) → C (.ref a) (vf i j) H8) →
          gj x (wipe σ2 us) H6 fun σ3 H7 => wipe σ3 us = wipe σ2 us ∧ tj σ3 H7 fun b H9 => if b = true then tk σ3 H9 fun y H10 => tv σ3 H10 fun z H11 => C y z H11 else N H9) → R σ2 L H4) →
      g x (wipe σ vs) H' fun σ2 H2 => wipe σ2 vs = wipe σ vs ∧ tt σ2 H2 fun b H3 => if b = true then wj σ2 H3 fun L H4 => R σ2 L H4 else N H3)
    (hd : ∀ D H', H1 D = none → Same H1 H' → H' D = some (.dT (mergeT (upTo kf vf m n 0))) → Qd D H') : Dc2Ask J g tt wj gj tj tk tv vs us σ H1 Qd := by
  intro D hD
  refine ⟨fun i q H => q = n - i ∧ i ≤ n ∧ Same H1 H ∧ H D = some (.dT (mergeT (upTo kf vf m i 0))), ⟨n, by simp, Nat.zero_le _, same_new hD, upd_same⟩, ?_⟩
  rintro i q H ⟨rfl, hi, sm, hB⟩
  have gq := hG H sm
  by_cases hlt : i < n
  · refine .inr ⟨w.goes i H hlt gq, fun H' => Same H1 H' ∧ H' D = some (.dT (mergeT (upTo kf vf m (i + 1) 0))), fun H' h => ⟨n - (i + 1), by omega, rfl, by omega, h.1, h.2⟩, fun x H' y => ?_⟩
    refine hs D i x H H' _ _ hlt sm (w.yields i H x H' hlt gq y) fun σ2 L H4 Gj Yj wL s4 hGj step => ?_
    have sm4 := sm.trans s4
    refine ⟨fun j q H5 => q = m i - j ∧ j ≤ m i ∧ Same H1 H5 ∧ SameD D H4 H5 ∧ H5 D = some (.dT (mergeT (upTo kf vf m i j))), ⟨m i, by simp, Nat.zero_le _, sm4, fun _ _ h _ => h, s4 _ _ hB⟩, ?_⟩
    rintro j q H5 ⟨rfl, hj, sm5, sd, hB5⟩
    have gj5 := hGj H5 sd
    by_cases hjl : j < m i
    · refine .inr ⟨wL.goes j H5 hjl gj5, fun H' => Same H1 H' ∧ SameD D H4 H' ∧ H' D = some (.dT (mergeT (upTo kf vf m i (j + 1)))), fun H' h => ⟨m i - (j + 1), by omega, rfl, by omega, h.1, h.2.1, h.2.2⟩, fun x H6 y6 => ?_⟩
      refine step j x H5 H6 _ _ hjl sd (wL.yields j H5 x H6 hjl gj5 y6) fun a H8 s8 ha => ?_
      refine ⟨_, kf i j, a, rfl, ha, s8 _ _ hB5, Nat.lt_of_le_of_lt (mergeT_len _) (hm i hlt j hjl), same_mut (sm5.trans s8) hD, fun c o hc nc => ?_, ?_⟩
      · rw [upd_ne nc]
        exact s8 _ _ (sd c o hc nc)
      · rw [upd_same, upTo_next, mergeT_snoc]
    · have e : j = m i := by omega
      subst e
      refine .inl ⟨wL.stops H5 gj5, sm5, ?_⟩
      rw [upTo_row]
      exact hB5
  · have e : i = n := by omega
    subst e
    exact .inl ⟨w.stops H gq, hd D H hD sm hB⟩
end
end AR
/-! dict(zip(a, b)) of texts, lists, tuples -/
namespace AR
open PySem PySem.Spec PyProof.Rows L2
section
variable {prog : Program} {w : World} {A : Around} {z TI TO i1 i2 d : Addr} {fp1 fp2 : List Addr} {n1 n2 : Nat} {P1 P2 : Nat → Value → Prop} {St1 St2 : Nat → Heap → Prop}
theorem zip_pairSrc (hd : ∀ b, b = z ∨ b = TI ∨ b = TO ∨ b ∈ fp1 ∨ b ∈ fp2 → b ≠ d) (SP : ZipSep2 z TI TO i1 i2 fp1 fp2) (D1 : Draws prog w A.in1 i1 fp1 n1 P1 St1) (D2 : Draws prog w A.in1 i2 fp2 n2 P2 St2)
    (L1 : ∀ i h, St1 i h → ∃ o, h.get? i1 = some o) (L2' : ∀ i h, St2 i h → ∃ o, h.get? i2 = some o) :
    PairSrc prog w A z d [z, TO, i1, i2] (min n1 n2) (fun i x y => P1 i x ∧ P2 i y) (ZSt z TI TO i1 i2 d St1 St2) where
  off := fun hb => by
    have e' : d = z ∨ d = TO ∨ d = i1 ∨ d = i2 := by simpa using hb
    rcases e' with q | q | q | q
    · exact hd z (by simp) q.symm
    · exact hd TO (by simp) q.symm
    · exact hd i1 (by simp [SP.mem1]) q.symm
    · exact hd i2 (by simp [SP.mem2]) q.symm
  frame := fun i h h' st k => by
    obtain ⟨hz, hTI, st1, st2⟩ := st
    have kk : ∀ b o, (b = z ∨ b = TI ∨ b = TO ∨ b ∈ fp1 ∨ b ∈ fp2) → h.get? b = some o → h'.get? b = some o := fun b o hb e => k b o (hd b hb) e
    refine ⟨?_, kk TI _ (by simp) hTI, D1.frame _ _ _ st1 fun b hb o e => kk b o (by simp [hb]) e, D2.frame _ _ _ st2 fun b hb o e => kk b o (by simp [hb]) e⟩
    rcases hz with ⟨hz, a1, a2, hTO⟩ | ⟨T, f, oT, hz, hT, t1, t2, t3, t4⟩
    · exact .inl ⟨kk z _ (by simp) hz, a1, a2, kk TO _ (by simp) hTO⟩
    · exact .inr ⟨T, f, oT, kk z _ (by simp) hz, k T oT t4 hT, t1, t2, t3, t4⟩
  item := fun i s Q E hi st hdl hQ => by
    obtain ⟨hz, hTI, st1, st2⟩ := st
    have ni : ∀ c o, s.heap.get? c = some o → s.heap.objs.size ≠ c := fun c o e => Nat.ne_of_gt (Heap.lt_size e)
    obtain ⟨oi1, ei1⟩ := L1 _ _ st1
    obtain ⟨oi2, ei2⟩ := L2' _ _ st2
    rcases hz with ⟨hz, a1, a2, hTO⟩ | ⟨T, f, oT, hz, hT, t1, t2, t3, t4⟩
    · have hTy : s.TypeIs (.ref z) "zip" := ⟨_, hz, rfl⟩
      unfold pyNext
      refine wpAny_bind (wpAny_attempt (wpAny_callSpecial?_slot (name := Str.ofString "__next__") hTy F.slot_zip_next
        (wpAny_call_entry F.slot_zip_next hTy F.entry_zip_next
          (zipD2_next_item SP D1 D2 hz hTI hTO st1 st2 (by omega) (by omega) fun x y h' tk hx hy hz' hTO' sn1 sn2 ht hsz hk => wpAny_pure ?_) (F.args_zip_next_1 _))))
      refine hQ s.heap.objs.size x y h' tk ⟨hx, hy⟩ (.inl ⟨_, ht, rfl, _, rfl⟩) ⟨.inr ⟨_, false, _, hz', ht, ni z _ hz, ni i1 _ ei1, ni i2 _ ei2, Nat.ne_of_gt hdl⟩, hk TI _ SP.TIz SP.TITO SP.TIi1 SP.TIi2 hTI, sn1, sn2⟩ fun b o hb e => ?_
      simp only [List.mem_cons, List.not_mem_nil, or_false, not_or] at hb
      exact hk b o hb.1 hb.2.1 hb.2.2.1 hb.2.2.2 e
    · have hTy : s.TypeIs (.ref z) "zip" := ⟨_, hz, rfl⟩
      unfold pyNext
      refine wpAny_bind (wpAny_attempt (wpAny_callSpecial?_slot (name := Str.ofString "__next__") hTy F.slot_zip_next
        (wpAny_call_entry F.slot_zip_next hTy F.entry_zip_next
          (zipD_item_held SP D1 D2 hz hT hTI st1 st2 (by omega) (by omega) fun x y h' tk hx hy hz' sn1 sn2 ht hk => wpAny_pure ?_) (F.args_zip_next_1 _))))
      refine hQ s.heap.objs.size x y h' tk ⟨hx, hy⟩ (.inl ⟨_, ht, rfl, _, rfl⟩) ⟨.inr ⟨T, true, oT, hz', hk T oT t1 t2 t3 hT, t1, t2, t3, t4⟩, hk TI _ SP.TIz SP.TIi1 SP.TIi2 hTI, sn1, sn2⟩ fun b o hb e => ?_
      simp only [List.mem_cons, List.not_mem_nil, or_false, not_or] at hb
      exact hk b o hb.1 hb.2.2.1 hb.2.2.2 e
  done := fun s Q E st hQ => by
    obtain ⟨hz, hTI, st1, st2⟩ := st
    have hen : min n1 n2 = n1 ∨ min n1 n2 = n2 := by omega
    rcases hz with ⟨hz, a1, a2, hTO⟩ | ⟨T, f, oT, hz, hT, t1, t2, t3, t4⟩
    · have hTy : s.TypeIs (.ref z) "zip" := ⟨_, hz, rfl⟩
      unfold pyNext
      refine wpAny_bind (wpAny_attempt (wpAny_callSpecial?_slot (name := Str.ofString "__next__") hTy F.slot_zip_next
        (wpAny_call_entry F.slot_zip_next hTy F.entry_zip_next (zipD2_next_end SP D1 D2 hz hTI hTO st1 st2 (Nat.min_le_left _ _) (Nat.min_le_right _ _) hen fun h' tk e hk he => ?_) (F.args_zip_next_1 _))))
      obtain ⟨o, ho, hc⟩ := he
      refine wpAny_bind (wpAny_isInstance (T := "StopIteration") (b := true) ⟨o, ho, hc⟩ isSubtype_stop ?_)
      refine wpAny_pure (hQ h' tk fun b o hb e => ?_)
      simp only [List.mem_cons, List.not_mem_nil, or_false, not_or] at hb
      exact hk b o hb.1 hb.2.1 hb.2.2.1 hb.2.2.2 e
    · have hTy : s.TypeIs (.ref z) "zip" := ⟨_, hz, rfl⟩
      unfold pyNext
      refine wpAny_bind (wpAny_attempt (wpAny_callSpecial?_slot (name := Str.ofString "__next__") hTy F.slot_zip_next
        (wpAny_call_entry F.slot_zip_next hTy F.entry_zip_next (zipD_end_held SP D1 D2 hz hT hTI st1 st2 (Nat.min_le_left _ _) (Nat.min_le_right _ _) hen fun h' tk e hk he => ?_) (F.args_zip_next_1 _))))
      obtain ⟨o, ho, hc⟩ := he
      refine wpAny_bind (wpAny_isInstance (T := "StopIteration") (b := true) ⟨o, ho, hc⟩ isSubtype_stop ?_)
      refine wpAny_pure (hQ h' tk fun b o hb e => ?_)
      simp only [List.mem_cons, List.not_mem_nil, or_false, not_or] at hb
      exact hk b o hb.1 hb.2.2.1 hb.2.2.2 e
end
theorem Src.ok_there (c : Src) {items : Array Value} {h : Heap} (ok : c.ok items h) : ∀ b ∈ c.fp, ∃ o, h.get? b = some o := by
  cases c with
  | txt x => intro b hb; cases hb
  | lst a => intro b hb; obtain ⟨o, e, _⟩ := ok; rw [List.mem_singleton.mp hb]; exact ⟨o, e⟩
  | tup a => intro b hb; obtain ⟨o, e, _⟩ := ok; rw [List.mem_singleton.mp hb]; exact ⟨o, e⟩
section
variable {X : Cx}
/-- dict(zip(a, b)), b a tuple, the keys ints or texts -/
def tDictZ (K : PySem.W.Frag) (ta : TA) : TE := fun σ H Q => ta σ H fun vs H1 => ∃ (s1 : Src) (b : Addr) (xs ys : List V) (kvs : List (Key × V)), vs = [s1.v, .ref b] ∧ s1.has K H1 xs ∧ SqT K H1 b ys ∧ min xs.length ys.length ≤ sizeLine ∧
  kvs.length = min xs.length ys.length ∧ (∀ (j : Nat) k v, kvs[j]? = some (k, v) → xs[j]? = some (kV k) ∧ ys[j]? = some v) ∧ ∀ p, H1 p = none → Q (.ref p) (upd H1 p (.dK (mergeK [] kvs)))
theorem pe_dictZ {e e2 : Expr} {ta : TA} {p p2 pos pos2 : Pos} (hc : X.calm = true) (hg : Gl X "dict") (hm : X.mg "dict" = none) (hg2 : Gl X "zip") (hm2 : X.mg "zip" = none) (ha : PA X [e, e2] ta)
    (hs : starEach [.Call (.Name "zip" p2) [e, e2] [] pos2] X.env = (false, eval (.Call (.Name "zip" p2) [e, e2] [] pos2) X.env) :: starEach [] X.env := by rfl)
    (hs2 : starEach [e, e2] X.env = (false, eval e X.env) :: starEach [e2] X.env := by rfl) (hpl : (backTo pos2 (starEach [e2] X.env)).any (·.1) = false := by rfl) :
    PE X (.Call (.Name "dict" p) [.Call (.Name "zip" p2) [e, e2] [] pos2] [] pos) (tDictZ X.K ta) := by
  refine ⟨fun pins s σ H Q I h => ?_⟩
  refine wpAny_Call_Name_kw (ld_blt I hg hm (show bootBuiltins "dict" = some (.type "dict") by decide +kernel) ?_)
  refine PyProof.Rows.callWith_type1 ?_ hs rfl
  rw [hs]
  show wpAny _ _ (spliced ((false, eval (.Call (.Name "zip" p2) [e, e2] [] pos2) X.env) :: backTo pos (starEach [] X.env))) _ _ s
  refine Calls.spliced_cons ?_
  refine Call_ (ld_blt I hg2 hm2 PyProof.Rows.boot_zip (PyProof.Rows.callWith_type1 (thn (ha.run pos2 pins s σ H _ I h) fun us s1 ⟨vs, H1, I1, r1, q1⟩ => ?_) hs2 hpl))
  obtain ⟨c1, b, xs, ys, kvs, rfl, g1, g2, hn, kl, kk, q⟩ := q1
  cases r1 with
  | cons r rr =>
    cases rr with
    | cons r' rr =>
      cases rr
      obtain ⟨t1, e1⟩ := c1.is_of r
      obtain ⟨t2, e2⟩ := (Src.tup b).is_of r'
      obtain ⟨it1, o1, rl1, l1, _⟩ := Src.given I1 c1 g1
      obtain ⟨it2, o2, rl2, l2, _⟩ := Src.given I1 (.tup b) g2
      refine zip_begins2 (c1.begins t1 it1 e1) ((Src.tup b).begins t2 it2 e2) o1 o2 fun h' hz hTI hTO h1 h2 hsz hk => ?_
      refine Calls.spliced_nil ?_
      have hv2 : Vals ys it2.toList := rl2
      have ok1 : c1.ok it1 h' := (c1.begins t1 it1 e1).keeps _ _ o1 hk
      have ok2 : h'.IsTuple b it2 := ((Src.tup b).begins t2 it2 e2).keeps _ _ o2 hk
      have sep := zip_sep2 l1 l2
      have hl2 : it2.size = ys.length := by rw [hv2.length]; simp
      let OK : Heap → Prop := fun h => IsZip h (s1.heap.objs.size + 4) (s1.heap.objs.size + 2) (s1.heap.objs.size + 3) .none ∧ (∃ a1 a2, IsTupOf2 h (s1.heap.objs.size + 3) a1 a2) ∧ IsTupOf2 h (s1.heap.objs.size + 2) (.ref s1.heap.objs.size) (.ref (s1.heap.objs.size + 1)) ∧
        (c1.at t1 s1.heap.objs.size 0 h ∧ c1.ok it1 h) ∧ (h.IsTupleIter (s1.heap.objs.size + 1) b 0 ∧ h.IsTuple b it2)
      have PA : PairArg X.prog X.w "zip" (s1.heap.objs.size + 4) ((s1.heap.objs.size + 4) :: (s1.heap.objs.size + 2) :: (s1.heap.objs.size + 3) :: s1.heap.objs.size :: (c1.fp ++ [s1.heap.objs.size + 1, b])) [s1.heap.objs.size + 4, s1.heap.objs.size + 3, s1.heap.objs.size, s1.heap.objs.size + 1] (min xs.length it2.size)
          (fun i u v => (∃ x, xs[i]? = some x ∧ RelV x u) ∧ it2[i]? = some v) OK := {
        type := fun s ok => ⟨_, ok.1, rfl⟩
        notDict := by decide
        keep := fun h h' ok kp => by
          obtain ⟨g1, ⟨a1, a2, g2⟩, g3, ⟨g4, g5⟩, ⟨g6, g7⟩⟩ := ok
          exact ⟨kp _ _ g1, ⟨a1, a2, kp _ _ g2⟩, kp _ _ g3, ⟨c1.at_keep g4 fun o e => kp _ o e, (c1.begins t1 it1 e1).keeps _ _ g5 kp⟩, (Src.tup b).at_keep (t := t2) g6 fun o e => kp _ o e, ((Src.tup b).begins t2 it2 e2).keeps _ _ g7 kp⟩
        there := fun h ok c hc => by
          obtain ⟨g1, ⟨a1, a2, g2⟩, g3, ⟨g4, g5⟩, ⟨g6, g7⟩⟩ := ok
          simp only [List.mem_cons, List.mem_append, List.not_mem_nil, or_false] at hc
          rcases hc with q | q | q | q | q | q | q
          · rw [q]; exact ⟨_, g1⟩
          · rw [q]; exact ⟨_, g3⟩
          · rw [q]; exact ⟨_, g2⟩
          · rw [q]; obtain ⟨o, e, _⟩ := c1.at_live g4; exact ⟨o, e⟩
          · exact c1.ok_there g5 c q
          · rw [q]; obtain ⟨o, e, _⟩ := (Src.tup b).at_live (t := t2) g6; exact ⟨o, e⟩
          · rw [q]; obtain ⟨o, e, _⟩ := g7; exact ⟨o, e⟩
        sub := fun c hc => by
          simp only [List.mem_cons, List.not_mem_nil, or_false] at hc
          simp only [List.mem_cons, List.mem_append, List.not_mem_nil, or_false]
          rcases hc with q | q | q | q
          · exact .inl q
          · exact .inr (.inr (.inl q))
          · exact .inr (.inr (.inr (.inl q)))
          · exact .inr (.inr (.inr (.inr (.inr (.inl q)))))
        noKeys := fun A s Q E hA ok h => getAttrOr_miss_zip ok.1 rfl rfl rfl zip_no_keys (by decide +kernel) hA h
        iter := fun A s d Q E hA ok hd hdf h => by
          obtain ⟨g1, ⟨a1, a2, g2⟩, g3, ⟨g4, g5⟩, ⟨g6, g7⟩⟩ := ok
          have D1 := Src.draws (P := X.prog) (w := X.w) (A := A.in1) hA c1 t1 s1.heap.objs.size it1 xs rl1 (fun b hb => Nat.ne_of_lt (l1 b hb))
          have D2 := Draws.tuple (prog := X.prog) (w := X.w) (A := A.in1) hA (s1.heap.objs.size + 1) b (Nat.ne_of_lt (Nat.lt_succ_of_lt (l2 b (by simp [Src.fp])))) it2
          have S := zip_pairSrc (prog := X.prog) (w := X.w) (A := A) (d := d) (z := s1.heap.objs.size + 4) (TI := s1.heap.objs.size + 2) (TO := s1.heap.objs.size + 3) (fun c hc e => hdf (by
            rw [← e]
            simp only [List.mem_cons, List.mem_append, List.not_mem_nil, or_false] at hc ⊢
            rcases hc with q | q | q | (q | q) | q | q
            · exact .inl q
            · exact .inr (.inl q)
            · exact .inr (.inr (.inl q))
            · exact .inr (.inr (.inr (.inl q)))
            · exact .inr (.inr (.inr (.inr (.inl q))))
            · exact .inr (.inr (.inr (.inr (.inr (.inl q)))))
            · exact .inr (.inr (.inr (.inr (.inr (.inr (List.mem_singleton.mp q))))))) ) sep D1 D2 D1.live D2.live
          exact wpAny_pyIter_zip g1 (h _ _ _ s.heap s.toks S ⟨.inl ⟨g1, a1, a2, g2⟩, g3, ⟨g4, g5⟩, ⟨g6, g7⟩⟩ (fun _ _ e => e) fun c hc => .inl hc) }
      have okNow : OK h' := ⟨hz, ⟨_, _, hTO⟩, hTI, ⟨c1.at_obj t1 h1, ok1⟩, ((Src.tup b).at_obj t2 h2), ok2⟩
      have klen : (List.zipWith (fun kv u => (kv.1, u)) kvs it2.toList).length = kvs.length := by
        rw [List.length_zipWith]
        have e : it2.toList.length = ys.length := by rw [← hl2]; simp
        rw [e, kl]
        omega
      have rel : KV kvs (List.zipWith (fun (kv : Key × V) u => (kv.1, u)) kvs it2.toList) := by
        refine paired_of_get klen.symm fun j a b ha hb => ?_
        rw [List.getElem?_zipWith, ha] at hb
        cases eu : it2.toList[j]? with
        | none => rw [eu] at hb; cases hb
        | some u =>
          rw [eu] at hb
          cases hb
          obtain ⟨u2, hu2, rv⟩ := hv2.get (kk j a.1 a.2 ha).2
          rw [eu] at hu2
          cases hu2
          exact ⟨rfl, rv⟩
      refine call_dict_pairs (s := { s1 with heap := h' }) (knd := mixKind X.prog X.w) (kvs := List.zipWith (fun (kv : Key × V) u => (kv.1, u)) kvs it2.toList) PA (I1.ok.hd hc) okNow ⟨by rw [klen, kl, hl2], ?_⟩ (by rw [hl2]; exact hn) fun h'' tk dd hk2 => ?_
      · rintro i key v ⟨⟨x, hx, rx⟩, hv⟩
        have i1 := (List.getElem?_eq_some_iff.mp hx).1
        have i2 : i < it2.size := (Array.getElem?_eq_some_iff.mp hv).1
        have ik : i < kvs.length := by rw [kl]; omega
        have hkv := List.getElem?_eq_getElem ik
        have hxk := (kk i kvs[i].1 kvs[i].2 hkv).1
        rw [hx] at hxk
        cases hxk
        refine ⟨kvs[i].1, ?_, kV_is rx⟩
        rw [List.getElem?_zipWith, hkv, Array.getElem?_toList, hv]
      · have keep : ∀ c o, s1.heap.get? c = some o → h''.get? c = some o := fun c o ec => hk2 c o (fun hb => by
          have lt := Heap.lt_size ec
          simp only [List.mem_cons, List.not_mem_nil, or_false] at hb
          rcases hb with q | q | q | q <;> (rw [q] at lt; exact absurd lt (by first | exact Nat.lt_irrefl _ | exact Nat.not_lt.mpr (Nat.le_add_right _ _)))) (hk c o ec)
        have big : s1.heap.objs.size ≤ h'.objs.size := by rw [hsz]; exact Nat.le_add_right _ _
        have hz : (mergeK [] kvs).length ≤ sizeLine := by
          have h1 := length_mergeK kvs []
          rw [List.length_nil] at h1
          omega
        have hd : (h'.objs.size == sysModules) = false := beq_eq_false_iff_ne.mpr (Nat.ne_of_gt (Nat.lt_of_lt_of_le I1.big big))
        exact ⟨.ref h'.objs.size, _, I1.laid (t' := tk) keep big (dk_new hz hd (rel.merge .nil) dd), rfl, q _ (I1.hok.fresh big)⟩
end
end AR
namespace AR
open PySem PySem.Spec PyProof.Rows L2
section
variable {J : It} {n : Nat} {G : Hp → Prop} {Y : Nat → Hp → V → Hp → Prop} {g : TG} {tt : TT} {te tk tv : TE} {vs : List Nat} {σ : L2.St} {H1 : Hp} {Qd : Addr → Hp → Prop}
/-- a comprehension whose elements are new objects: Pe tells of each, in the heap; all else stays -/
theorem lcP (w : Walk J n G Y) (Pe : Nat → Hp → V → Prop) (hn : n ≤ sizeLine) (hk : ∀ i H H' y, Same H H' → Pe i H y → Pe i H' y) (hm : ∀ D i H o xs y, H D = some (.lst xs) → Pe i H y → Pe i (upd H D o) y)
    (hG : ∀ H, Same H1 H → G H)
    (hs : ∀ D i x H H' (C : VK) (N : Hp → Prop), i < n → Same H1 H → H1 D = none → Y i H x H' → (∀ y H4, Same H H4 → Pe i H4 y → C y H4) →
      g x (wipe σ vs) H' fun σ2 H2 => wipe σ2 vs = wipe σ vs ∧ tt σ2 H2 fun b H3 => if b = true then te σ2 H3 C else N H3)
    (hd : ∀ D H' (ys : List V), H1 D = none → Same H1 H' → H' D = some (.lst ys) → ys.length = n → (∀ (j : Nat) y, ys[j]? = some y → Pe j H' y) → Qd D H') : LcAsk J g tt te vs σ H1 Qd := by
  intro D hD
  refine lc_it w (Qd := Qd D) (fun i H => Same H1 H ∧ ∃ ys : List V, H D = some (.lst ys) ∧ ys.length = i ∧ ∀ (j : Nat) y, ys[j]? = some y → Pe j H y) ⟨same_new hD, [], upd_same, rfl, fun j y h => by simp at h⟩ (fun i H _ p => hG H p.1) (fun i x H H' hi p y => ?_) fun H p => ?_
  · obtain ⟨kp, ys, hys, hl, hp⟩ := p
    refine hs D i x H H' _ _ hi kp hD y fun y' H4 k4 pe => ?_
    refine ⟨ys, k4 _ _ hys, by omega, same_mut (kp.trans k4) hD, ys ++ [y'], upd_same, by rw [List.length_append, hl]; rfl, fun j v hv => ?_⟩
    rcases Nat.lt_trichotomy j ys.length with h1 | h1 | h1
    · rw [List.getElem?_append_left h1] at hv; exact hm _ _ _ _ _ _ (k4 _ _ hys) (hk _ _ _ _ k4 (hp j v hv))
    · subst h1
      have e : y' = v := by simpa using hv
      subst e; rw [hl]; exact hm _ _ _ _ _ _ (k4 _ _ hys) pe
    · have hnone : (ys ++ [y'])[j]? = none := List.getElem?_eq_none (by rw [List.length_append, List.length_singleton]; omega)
      rw [hnone] at hv; cases hv
  · obtain ⟨kp, ys, hys, hl, hp⟩ := p
    exact hd D H ys hD kp hys hl hp
theorem buildK_congr {kf : Nat → Key} {vf vf' : Nat → V} : ∀ n, (∀ i, i < n → vf i = vf' i) → buildK kf vf n = buildK kf vf' n
  | 0, _ => rfl
  | n + 1, h => by
    show putK (buildK kf vf n) (kf n) (vf n) = putK (buildK kf vf' n) (kf n) (vf' n)
    rw [buildK_congr n fun i hi => h i (by omega), h n (by omega)]
/-- a dict comprehension whose values are new objects -/
theorem dcP (w : Walk J n G Y) (kf : Nat → Key) (Pe : Nat → Hp → V → Prop) (hn : n ≤ sizeLine) (hk : ∀ i H H' y, Same H H' → Pe i H y → Pe i H' y) (hm : ∀ D i H o xs y, H D = some (.dK xs) → Pe i H y → Pe i (upd H D o) y) (hG : ∀ H, Same H1 H → G H)
    (hs : ∀ i x H H' (C : V → V → Hp → Prop) (N : Hp → Prop), i < n → Same H1 H → Y i H x H' → (∀ v H5, Same H H5 → Pe i H5 v → C (kV (kf i)) v H5) →
      g x (wipe σ vs) H' fun σ2 H2 => wipe σ2 vs = wipe σ vs ∧ tt σ2 H2 fun b H3 => if b = true then tk σ2 H3 fun y H4 => tv σ2 H4 fun z H5 => C y z H5 else N H3)
    (hd : ∀ D H' vf, H1 D = none → Same H1 H' → H' D = some (.dK (buildK kf vf n)) → (∀ i, i < n → Pe i H' (vf i)) → Qd D H') : DcAsk J g tt tk tv vs σ H1 Qd := by
  intro D hD
  refine ⟨fun i m H => m = n - i ∧ i ≤ n ∧ Same H1 H ∧ ∃ vf, H D = some (.dK (buildK kf vf i)) ∧ ∀ j, j < i → Pe j H (vf j), ⟨n, by simp, Nat.zero_le _, same_new hD, fun _ => .non, upd_same, fun j hj => absurd hj (Nat.not_lt_zero _)⟩, ?_⟩
  rintro i m H ⟨rfl, hi, sm, vf, hB, hp⟩
  have q := hG H sm
  by_cases hlt : i < n
  · refine .inr ⟨w.goes i H hlt q, fun H' => Same H1 H' ∧ ∃ vf, H' D = some (.dK (buildK kf vf (i + 1))) ∧ ∀ j, j < i + 1 → Pe j H' (vf j), fun H' h => ⟨n - (i + 1), by omega, rfl, by omega, h.1, h.2⟩, fun x H' y => ?_⟩
    refine hs i x H H' _ _ hlt sm (w.yields i H x H' hlt q y) fun v H5 s5 pe => ?_
    refine ⟨buildK kf vf i, kf i, rfl, s5 _ _ hB, ?_, same_mut (sm.trans s5) hD, fun j => if j = i then v else vf j, ?_, fun j hj => ?_⟩
    · have := buildK_len kf vf i
      omega
    · rw [upd_same]
      show some (HO.dK (putK (buildK kf vf i) (kf i) v)) = some (HO.dK (putK (buildK kf _ i) (kf i) (if i = i then v else vf i)))
      rw [if_pos rfl, buildK_congr (vf := vf) (vf' := fun j => if j = i then v else vf j) i fun j hj => by simp only [if_neg (Nat.ne_of_lt hj)]]
    · by_cases e : j = i
      · simp only [e, if_true]
        exact hm _ _ _ _ _ _ (s5 _ _ hB) pe
      · simp only [if_neg e]
        exact hm _ _ _ _ _ _ (s5 _ _ hB) (hk _ _ _ _ s5 (hp j (by omega)))
  · have e : i = n := by omega
    subst e
    exact .inl ⟨w.stops H q, hd D H vf hD sm hB hp⟩
end
/-- items that are refs -/
theorem refs_of {F : Nat → Addr → Prop} : ∀ {ys : List V}, (∀ (j : Nat) y, ys[j]? = some y → ∃ r, y = .ref r ∧ F j r) → ∃ rs : List Addr, ys = rs.map V.ref ∧ ∀ (j : Nat) r, rs[j]? = some r → F j r := by
  intro ys
  induction ys generalizing F with
  | nil => intro _; exact ⟨[], rfl, fun j r h => by simp at h⟩
  | cons y ys ih =>
    intro h
    obtain ⟨r, rfl, hr⟩ := h 0 y rfl
    obtain ⟨rs, e, hrs⟩ := ih (F := fun j r => F (j + 1) r) fun j y hj => h (j + 1) y (by simpa using hj)
    refine ⟨r :: rs, by rw [e]; rfl, fun j q hq => ?_⟩
    cases j with
    | zero => have : r = q := by simpa using hq
              rw [← this]; exact hr
    | succ j => exact hrs j q (by simpa using hq)
section
variable {κ : Type} [DecidableEq κ]
theorem valF_out {k : κ} : ∀ (more acc : List (κ × V)), (∀ p ∈ more, p.1 ≠ k) → valV (more.foldl (fun acc p => putK acc p.1 p.2) acc) k = valV acc k
  | [], acc, _ => rfl
  | p :: r, acc, h => by
    show valV (r.foldl (fun acc p => putK acc p.1 p.2) (putK acc p.1 p.2)) k = _
    rw [valF_out r _ fun q hq => h q (List.mem_cons_of_mem _ hq), valV_put, if_neg fun e => h p (by simp) e.symm]
theorem valF {k : κ} {v : V} : ∀ (more acc : List (κ × V)), (more.map (·.1)).Nodup → (k, v) ∈ more → valV (more.foldl (fun acc p => putK acc p.1 p.2) acc) k = some v
  | [], _, _, h => nomatch h
  | p :: r, acc, nd, h => by
    rw [List.map_cons, List.nodup_cons] at nd
    show valV (r.foldl (fun acc p => putK acc p.1 p.2) (putK acc p.1 p.2)) k = _
    rcases List.mem_cons.mp h with e | e
    · subst e
      rw [valF_out r _ (fun q hq e => nd.1 (List.mem_map.mpr ⟨q, hq, e⟩)), valV_put, if_pos rfl]
    · exact valF r _ nd.2 e
/-- the values agree with f wherever keys come again -/
theorem valF_fun {k : κ} {f : κ → V} : ∀ (more acc : List (κ × V)), (∀ p ∈ more, p.2 = f p.1) → k ∈ more.map (·.1) → valV (more.foldl (fun acc p => putK acc p.1 p.2) acc) k = some (f k)
  | [], _, _, h => nomatch h
  | p :: r, acc, hf, h => by
    show valV (r.foldl (fun acc p => putK acc p.1 p.2) (putK acc p.1 p.2)) k = _
    by_cases hr : k ∈ r.map (·.1)
    · exact valF_fun r _ (fun q hq => hf q (List.mem_cons_of_mem _ hq)) hr
    · have e : k = p.1 := by
        rcases List.mem_cons.mp h with e | e
        · exact e
        · exact absurd e hr
      rw [valF_out r _ (fun q hq e => hr (List.mem_map.mpr ⟨q, hq, e⟩)), valV_put, if_pos e, hf p (by simp), e]
end
theorem pe_dictZK {X : Cx} (K : PySem.W.Frag) {e e2 : Expr} {ta : TA} {p p2 pos pos2 : Pos} (hc : X.calm = true) (hg : Gl X "dict") (hm : X.mg "dict" = none) (hg2 : Gl X "zip") (hm2 : X.mg "zip" = none) (ha : PA X [e, e2] ta) (hK : X.K = K := by rfl)
    (hs : starEach [.Call (.Name "zip" p2) [e, e2] [] pos2] X.env = (false, eval (.Call (.Name "zip" p2) [e, e2] [] pos2) X.env) :: starEach [] X.env := by rfl)
    (hs2 : starEach [e, e2] X.env = (false, eval e X.env) :: starEach [e2] X.env := by rfl) (hpl : (backTo pos2 (starEach [e2] X.env)).any (·.1) = false := by rfl) :
    PE X (.Call (.Name "dict" p) [.Call (.Name "zip" p2) [e, e2] [] pos2] [] pos) (tDictZ K ta) := by subst hK; exact pe_dictZ hc hg hm hg2 hm2 ha hs hs2 hpl
theorem i_dictZ {K : PySem.W.Frag} {σ : L2.St} {H : Hp} {Q : VK} {ta : TA} (k : ta σ H fun vs H1 => ∃ (s1 : Src) (b : Addr) (xs ys : List V) (kvs : List (Key × V)), vs = [s1.v, .ref b] ∧ s1.has K H1 xs ∧ SqT K H1 b ys ∧ min xs.length ys.length ≤ sizeLine ∧
  kvs.length = min xs.length ys.length ∧ (∀ (j : Nat) k v, kvs[j]? = some (k, v) → xs[j]? = some (kV k) ∧ ys[j]? = some v) ∧ ∀ p, H1 p = none → Q (.ref p) (upd H1 p (.dK (mergeK [] kvs)))) : tDictZ K ta σ H Q := k
end AR
namespace L2
open PySem PySem.Spec PyProof.Rows
theorem Room.low {k : Nat} {A : Around} (r : Room k A) : A.units < cLine := by have := r.un; omega
theorem Room.repr {k : Nat} {A : Around} (r : Room k A) : A.units + 66 < cLine := by have := r.un; omega
end L2
set_option autoImplicit false
/-! VS: values as plain data over the hand layer -/
namespace VS
open PySem PySem.Spec PyProof.Rows L2 AR
/-- a box that is drawn from -/
inductive BoxC where
  | flow (ns : List Int) (s c : Int) | nums (xs : List Int)
  deriving DecidableEq
/-- plain data -/
inductive D where
  | non | bl (b : Bool) | int (i : Int) | str (x : Str)
  | lst (xs : List D) | tup (xs : List D) | dct (t : Nat) (ks vs : List D)
  | ins (C : Str) (fs : List Str) (vs : List D)
  /-- a box; true: a parameter's -/
  | box (p : Bool) (c : BoxC)
  /-- a tuple of the module's own -/
  | ktp (xs : List D)
mutual
def D.beq : D → D → Bool
  | .non, .non => true
  | .bl a, .bl b => a == b
  | .int a, .int b => decide (a = b)
  | .str a, .str b => decide (a = b)
  | .lst a, .lst b => D.beqL a b
  | .tup a, .tup b => D.beqL a b
  | .dct t a c, .dct u b d => decide (t = u) && D.beqL a b && D.beqL c d
  | .ins a f c, .ins b g d => decide (a = b) && decide (f = g) && D.beqL c d
  | .box p a, .box q b => decide (p = q) && decide (a = b)
  | .ktp a, .ktp b => D.beqL a b
  | _, _ => false
def D.beqL : List D → List D → Bool
  | [], [] => true
  | x :: xs, y :: ys => D.beq x y && D.beqL xs ys
  | _, _ => false
end
mutual
theorem D.beq_iff : ∀ (a b : D), D.beq a b = true ↔ a = b
  | .non, b => by cases b <;> simp [D.beq]
  | .bl x, b => by cases b <;> simp [D.beq]
  | .int x, b => by cases b <;> simp [D.beq]
  | .str x, b => by cases b <;> simp [D.beq]
  | .lst x, b => by
    cases b <;> simp [D.beq]
    exact D.beqL_iff x _
  | .tup x, b => by
    cases b <;> simp [D.beq]
    exact D.beqL_iff x _
  | .dct t x y, b => by
    cases b <;> simp [D.beq]
    rw [D.beqL_iff x _, D.beqL_iff y _]
    simp [and_assoc]
  | .ins x f y, b => by
    cases b <;> simp [D.beq]
    rw [D.beqL_iff y _]
    simp [and_assoc]
  | .box p c, b => by cases b <;> simp [D.beq]
  | .ktp x, b => by
    cases b <;> simp [D.beq]
    exact D.beqL_iff x _
theorem D.beqL_iff : ∀ (a b : List D), D.beqL a b = true ↔ a = b
  | [], b => by cases b <;> simp [D.beqL]
  | x :: xs, b => by
    cases b with
    | nil => simp [D.beqL]
    | cons y ys =>
      simp only [D.beqL, Bool.and_eq_true, List.cons.injEq]
      rw [D.beq_iff x y, D.beqL_iff xs ys]
end
instance : DecidableEq D := fun a b => if h : D.beq a b = true then isTrue ((D.beq_iff a b).mp h) else isFalse (fun e => h ((D.beq_iff a b).mpr e))
/-- a good text: not too long, of code points -/
def SG (x : Str) : Prop := x.length ≤ sizeLine ∧ PyData.strOk x = true
/-- keys of dicts as data -/
def keyD : Key → D
  | .inl i => .int i
  | .inr x => .str x
def keyT (ks : List Key) : D := .tup (ks.map keyD)
/-- a slot: nothing, a shared thing, a thing of one's own -/
inductive Sl where
  | u | s (d : D) | o (d : D)
abbrev En := List Sl
structure Wd where
  hs : Hp
  own : Addr → Option Nat
  /-- self, within an __init__; the parameter's box -/
  me : Addr
  me2 : Addr
mutual
inductive Rep (K : PySem.W.Frag) (H : Hp) : V → D → Prop
  | non : Rep K H .non .non
  | bl (b : Bool) : Rep K H (.bl b) (.bl b)
  | int (i : Int) : Rep K H (.int i) (.int i)
  | str {x : Str} : SG x → Rep K H (.str x) (.str x)
  | lst {a : Addr} {xs : List V} {ds : List D} : SqL K H a xs → xs.length ≤ sizeLine → RepAll K H xs ds → Rep K H (.ref a) (.lst ds)
  | tup {a : Addr} {xs : List V} {ds : List D} : H a = some (.tup xs) → xs.length ≤ sizeLine → RepAll K H xs ds → Rep K H (.ref a) (.tup ds)
  | ktp {a : Addr} {xs : List V} {ds : List D} : SqT K H a xs → xs.length ≤ sizeLine → RepAll K H xs ds → Rep K H (.ref a) (.ktp ds)
  | dK {a : Addr} {kvs : List (Key × V)} {ks vs : List D} : Rd H a (.dK kvs) → ks = (kvs.map fun p => keyD p.1) → RepAll K H (kvs.map (·.2)) vs → Rep K H (.ref a) (.dct 0 ks vs)
  | dT {a : Addr} {kvs : List (List Key × V)} {ks vs : List D} : Rd H a (.dT kvs) → ks = (kvs.map fun p => keyT p.1) → RepAll K H (kvs.map (·.2)) vs → Rep K H (.ref a) (.dct 1 ks vs)
  | ins {a C dx : Addr} {c : Str} {fs : List (Str × V)} {ns : List Str} {vs : List D} : H a = some (.ins C dx fs) → C = He.ga K c → ns = fs.map (·.1) → RepAll K H (fs.map (·.2)) vs → Rep K H (.ref a) (.ins c ns vs)
inductive RepAll (K : PySem.W.Frag) (H : Hp) : List V → List D → Prop
  | nil : RepAll K H [] []
  | cons {v : V} {vs : List V} {d : D} {ds : List D} : Rep K H v d → RepAll K H vs ds → RepAll K H (v :: vs) (d :: ds)
end
def IsDct : HO → Prop
  | .dK _ => True
  | .dT _ => True
  | _ => False
/-- the part h stands in H, dicts may be locked -/
def Sub (h H : Hp) : Prop := ∀ a o, h a = some o → H a = some o ∨ (IsDct o ∧ ∃ ob, H a = some (.frz ob o))
theorem Sub.refl (h : Hp) : Sub h h := fun _ _ e => .inl e
theorem Sub.of {h H : Hp} (e : Same h H) : Sub h H := fun a o q => .inl (e a o q)
theorem Sub.rd {h H : Hp} {a : Addr} {u : HO} (e : Sub h H) (r : Rd h a u) : Rd H a u := by
  rcases r with r | ⟨o, r⟩
  · rcases e a _ r with q | ⟨_, ob, q⟩
    · exact .inl q
    · exact .inr ⟨ob, q⟩
  · rcases e a _ r with q | ⟨n, _⟩
    · exact .inr ⟨o, q⟩
    · exact n.elim
theorem Sub.sqL {K : PySem.W.Frag} {h H : Hp} {a : Addr} {xs : List V} (e : Sub h H) (r : SqL K h a xs) : SqL K H a xs := by
  rcases r with r | r
  · exact .inl (e.rd r)
  · exact .inr r
theorem Sub.sqT {K : PySem.W.Frag} {h H : Hp} {a : Addr} {xs : List V} (e : Sub h H) (r : SqT K h a xs) : SqT K H a xs := by
  rcases r with r | r
  · exact .inl (e.rd r)
  · exact .inr r
theorem Sub.ins {h H : Hp} {a C dx : Addr} {fs : List (Str × V)} (e : Sub h H) (r : h a = some (.ins C dx fs)) : H a = some (.ins C dx fs) := by
  rcases e a _ r with q | ⟨n, _⟩
  · exact q
  · exact n.elim
theorem Sub.tup {h H : Hp} {a : Addr} {xs : List V} (e : Sub h H) (r : h a = some (.tup xs)) : H a = some (.tup xs) := by
  rcases e a _ r with q | ⟨n, _⟩
  · exact q
  · exact n.elim
mutual
theorem Rep.mono {K : PySem.W.Frag} {h H : Hp} (e : Sub h H) : ∀ {v : V} {d : D}, Rep K h v d → Rep K H v d
  | _, _, .non => .non
  | _, _, .bl b => .bl b
  | _, _, .int i => .int i
  | _, _, .str g => .str g
  | _, _, .lst q l r => .lst (e.sqL q) l (RepAll.mono e r)
  | _, _, .tup q l r => .tup (e.tup q) l (RepAll.mono e r)
  | _, _, .ktp q l r => .ktp (e.sqT q) l (RepAll.mono e r)
  | _, _, .dK q k r => .dK (e.rd q) k (RepAll.mono e r)
  | _, _, .dT q k r => .dT (e.rd q) k (RepAll.mono e r)
  | _, _, .ins q c n r => .ins (e.ins q) c n (RepAll.mono e r)
theorem RepAll.mono {K : PySem.W.Frag} {h H : Hp} (e : Sub h H) : ∀ {vs : List V} {ds : List D}, RepAll K h vs ds → RepAll K H vs ds
  | _, _, .nil => .nil
  | _, _, .cons r t => .cons (Rep.mono e r) (RepAll.mono e t)
end
section
variable {K : PySem.W.Frag} {H : Hp}
theorem RepAll.length : ∀ {vs : List V} {ds : List D}, RepAll K H vs ds → vs.length = ds.length
  | _, _, .nil => rfl
  | _, _, .cons _ t => congrArg (· + 1) (RepAll.length t)
theorem RepAll.append : ∀ {vs vs' : List V} {ds ds' : List D}, RepAll K H vs ds → RepAll K H vs' ds' → RepAll K H (vs ++ vs') (ds ++ ds')
  | _, _, _, _, .nil, q => q
  | _, _, _, _, .cons r t, q => .cons r (RepAll.append t q)
theorem RepAll.get : ∀ {vs : List V} {ds : List D} (i : Nat) {v : V}, RepAll K H vs ds → vs[i]? = some v → ∃ d, ds[i]? = some d ∧ Rep K H v d
  | _, _, _, _, .nil, e => by simp at e
  | _, _, 0, _, .cons r _, e => by simp at e; subst e; exact ⟨_, rfl, r⟩
  | _, _, i + 1, v, .cons _ t, e => by
    obtain ⟨d, h1, h2⟩ := RepAll.get i (v := v) t (by simpa using e)
    exact ⟨d, by simpa using h1, h2⟩
theorem RepAll.get' : ∀ {vs : List V} {ds : List D} (i : Nat) {d : D}, RepAll K H vs ds → ds[i]? = some d → ∃ v, vs[i]? = some v ∧ Rep K H v d
  | _, _, _, _, .nil, e => by simp at e
  | _, _, 0, _, .cons r _, e => by simp at e; subst e; exact ⟨_, rfl, r⟩
  | _, _, i + 1, d, .cons _ t, e => by
    obtain ⟨v, h1, h2⟩ := RepAll.get' i (d := d) t (by simpa using e)
    exact ⟨v, by simpa using h1, h2⟩
theorem RepAll.set {v : V} {d : D} (r : Rep K H v d) : ∀ {vs : List V} {ds : List D} (i : Nat), RepAll K H vs ds → RepAll K H (vs.set i v) (ds.set i d)
  | _, _, _, .nil => .nil
  | _, _, 0, .cons _ t => .cons r t
  | _, _, i + 1, .cons q t => .cons q (RepAll.set r i t)
theorem RepAll.take : ∀ {vs : List V} {ds : List D} (n : Nat), RepAll K H vs ds → RepAll K H (vs.take n) (ds.take n)
  | _, _, 0, _ => .nil
  | _, _, _ + 1, .nil => .nil
  | _, _, n + 1, .cons r t => .cons r (RepAll.take n t)
theorem RepAll.drop : ∀ {vs : List V} {ds : List D} (n : Nat), RepAll K H vs ds → RepAll K H (vs.drop n) (ds.drop n)
  | _, _, 0, r => r
  | _, _, _ + 1, .nil => .nil
  | _, _, n + 1, .cons _ t => RepAll.drop n t
theorem RepAll.one {v : V} {d : D} (r : Rep K H v d) : RepAll K H [v] [d] := .cons r .nil
theorem RepAll.rev {vs : List V} {ds : List D} (r : RepAll K H vs ds) : RepAll K H vs.reverse ds.reverse := by
  induction vs generalizing ds with
  | nil => cases r; exact .nil
  | cons v vs ih =>
    cases r with
    | cons q t => rw [List.reverse_cons, List.reverse_cons]; exact (ih t).append (.one q)
end
/-- owned by slot i -/
inductive RepO (K : PySem.W.Frag) (w : Wd) (H : Hp) (i : Nat) : V → D → Prop
  | lst {a : Addr} {xs : List V} {ds : List D} : w.own a = some i → H a = some (.lst xs) → xs.length ≤ sizeLine → RepAll K w.hs xs ds → RepO K w H i (.ref a) (.lst ds)
  | dK {a : Addr} {kvs : List (Key × V)} {ks vs : List D} : w.own a = some i → H a = some (.dK kvs) → ks = (kvs.map fun p => keyD p.1) → RepAll K w.hs (kvs.map (·.2)) vs → RepO K w H i (.ref a) (.dct 0 ks vs)
  | dT {a : Addr} {kvs : List (List Key × V)} {ks vs : List D} : w.own a = some i → H a = some (.dT kvs) → ks = (kvs.map fun p => keyT p.1) → RepAll K w.hs (kvs.map (·.2)) vs → RepO K w H i (.ref a) (.dct 1 ks vs)
  | ins {a C dx : Addr} {c : Str} {fs : List (Str × V)} {ns : List Str} {vs : List D} : a = w.me → w.own a = some i → H a = some (.ins C dx fs) → C = He.ga K c → ns = fs.map (·.1) → RepAll K w.hs (fs.map (·.2)) vs → RepO K w H i (.ref a) (.ins c ns vs)
  | flow {b l : Addr} {ns : List Int} {s c : Int} {p : Bool} : (p = true → b = w.me ∧ l = w.me2) → w.own b = some i → w.own l = some i → b ≠ l → H b = some (.lst [.ref l, .int s, .int c]) → H l = some (.lst (ns.map V.int)) → ns.length ≤ 1000 → RepO K w H i (.ref b) (.box p (.flow ns s c))
  | nums {b : Addr} {xs : List Int} {p : Bool} : (p = true → b = w.me) → w.own b = some i → H b = some (.lst (xs.map V.int)) → RepO K w H i (.ref b) (.box p (.nums xs))
/-- new, and nobody's yet; H0: the heap ahead of it -/
inductive Fresh (K : PySem.W.Frag) (w : Wd) (H0 H : Hp) : V → D → Prop
  | lst {a : Addr} {xs : List V} {ds : List D} : H0 a = none → w.own a = none → w.hs a = none → H a = some (.lst xs) → xs.length ≤ sizeLine → RepAll K w.hs xs ds → Fresh K w H0 H (.ref a) (.lst ds)
  | dK {a : Addr} {kvs : List (Key × V)} {ks vs : List D} : H0 a = none → w.own a = none → w.hs a = none → H a = some (.dK kvs) → ks = (kvs.map fun p => keyD p.1) → RepAll K w.hs (kvs.map (·.2)) vs → Fresh K w H0 H (.ref a) (.dct 0 ks vs)
  | dT {a : Addr} {kvs : List (List Key × V)} {ks vs : List D} : H0 a = none → w.own a = none → w.hs a = none → H a = some (.dT kvs) → ks = (kvs.map fun p => keyT p.1) → RepAll K w.hs (kvs.map (·.2)) vs → Fresh K w H0 H (.ref a) (.dct 1 ks vs)
  | flow {b l : Addr} {ns : List Int} {s c : Int} : H0 b = none → H0 l = none → w.own b = none → w.own l = none → w.hs b = none → w.hs l = none → b ≠ l → H b = some (.lst [.ref l, .int s, .int c]) → H l = some (.lst (ns.map V.int)) → ns.length ≤ 1000 → Fresh K w H0 H (.ref b) (.box false (.flow ns s c))
  | nums {b : Addr} {xs : List Int} : H0 b = none → w.own b = none → w.hs b = none → H b = some (.lst (xs.map V.int)) → Fresh K w H0 H (.ref b) (.box false (.nums xs))
structure Fr (w : Wd) (H : Hp) (w' : Wd) (H' : Hp) : Prop where
  sh : Same w.hs w'.hs
  kp : ∀ a o, H a = some o → w.own a = none → H' a = some o ∧ w'.own a = none ∧ (w.hs a = none → w'.hs a = none)
  lv : ∀ a o, H a = some o → ∃ o', H' a = some o'
  me : w'.me = w.me ∧ w'.me2 = w.me2
theorem Fr.refl (w : Wd) (H : Hp) : Fr w H w H := ⟨Same.refl _, fun _ _ h o => ⟨h, o, fun z => z⟩, fun _ o h => ⟨o, h⟩, rfl, rfl⟩
theorem Fr.trans {w w1 w2 : Wd} {H H1 H2 : Hp} (a : Fr w H w1 H1) (b : Fr w1 H1 w2 H2) : Fr w H w2 H2 :=
  ⟨a.sh.trans b.sh, fun c o h n => by
    obtain ⟨h1, n1, z1⟩ := a.kp c o h n
    obtain ⟨h2, n2, z2⟩ := b.kp c o h1 n1
    exact ⟨h2, n2, fun z => z2 (z1 z)⟩, fun c o h => by
    obtain ⟨o1, h1⟩ := a.lv c o h
    exact b.lv c o1 h1, b.me.1.trans a.me.1, b.me.2.trans a.me.2⟩
theorem Fr.free {w w1 : Wd} {H H1 : Hp} (f : Fr w H w1 H1) {a : Addr} (h : H1 a = none) : H a = none := by
  cases q : H a with
  | none => rfl
  | some o =>
    obtain ⟨o', z⟩ := f.lv a o q
    rw [h] at z; cases z
structure EnvOk (K : PySem.W.Frag) (w : Wd) (ρ : En) (σ : L2.St) (H : Hp) : Prop where
  sub : Sub w.hs H
  disj : ∀ a i, w.own a = some i → w.hs a = none
  live : ∀ a i, w.own a = some i → ∃ o, H a = some o
  len : ρ.length = σ.length
  sh : ∀ (i : Nat) (d : D), ρ[i]? = some (Sl.s d) → ∃ v, σ[i]? = some (some v) ∧ Rep K w.hs v d
  ow : ∀ (i : Nat) (d : D), ρ[i]? = some (Sl.o d) → ∃ v, σ[i]? = some (some v) ∧ RepO K w H i v d
  /-- every tuple is shared -/
  tups : ∀ a xs, H a = some (.tup xs) → w.hs a = some (.tup xs)
/-- no tuple -/
def NT (o : HO) : Prop := ∀ xs, o ≠ .tup xs
section
variable {K : PySem.W.Frag} {w w' : Wd} {ρ : En} {σ : L2.St} {H H' : Hp} {p : Addr} {o : HO}
theorem RepO.keep {i : Nat} {v : V} {d : D} (r : RepO K w H i v d) (me : w'.me = w.me ∧ w'.me2 = w.me2) (hs : Same w.hs w'.hs) (k : ∀ a, w.own a = some i → w'.own a = some i ∧ H' a = H a) : RepO K w' H' i v d := by
  cases r with
  | lst h1 h2 hl h3 => exact .lst (k _ h1).1 ((k _ h1).2.trans h2) hl (h3.mono (.of hs))
  | dK h1 h2 h3 h4 => exact .dK (k _ h1).1 ((k _ h1).2.trans h2) h3 (h4.mono (.of hs))
  | dT h1 h2 h3 h4 => exact .dT (k _ h1).1 ((k _ h1).2.trans h2) h3 (h4.mono (.of hs))
  | ins h0 h1 h2 h3 h4 h5 => exact .ins (h0.trans me.1.symm) (k _ h1).1 ((k _ h1).2.trans h2) h3 h4 (h5.mono (.of hs))
  | flow hp h1 h2 h3 h4 h5 h6 => exact .flow (fun z => ⟨(hp z).1.trans me.1.symm, (hp z).2.trans me.2.symm⟩) (k _ h1).1 (k _ h2).1 h3 ((k _ h1).2.trans h4) ((k _ h2).2.trans h5) h6
  | nums hp h1 h2 => exact .nums (fun z => (hp z).trans me.1.symm) (k _ h1).1 ((k _ h1).2.trans h2)
/-- what is owned stays as it is -/
theorem EnvOk.keep (e : EnvOk K w ρ σ H) (hs : Same w.hs w'.hs) (sub : Sub w'.hs H') (ow : w'.own = w.own) (me : w'.me = w.me ∧ w'.me2 = w.me2) (dj : ∀ a i, w.own a = some i → w'.hs a = none) (k : ∀ a i, w.own a = some i → H' a = H a) (tp : ∀ a xs, H' a = some (.tup xs) → w'.hs a = some (.tup xs)) : EnvOk K w' ρ σ H' where
  tups := tp
  sub := sub
  disj := fun a i q => dj a i (by rw [← ow]; exact q)
  live := fun a i q => by rw [ow] at q; rw [k a i q]; exact e.live a i q
  len := e.len
  sh := fun i d q => by
    obtain ⟨v, h1, h2⟩ := e.sh i d q
    exact ⟨v, h1, h2.mono (.of hs)⟩
  ow := fun i d q => by
    obtain ⟨v, h1, h2⟩ := e.ow i d q
    exact ⟨v, h1, h2.keep me hs fun a z => ⟨by rw [ow]; exact z, k a i z⟩⟩
theorem EnvOk.free (e : EnvOk K w ρ σ H) (h : H p = none) : w.hs p = none ∧ w.own p = none := by
  constructor
  · cases q : w.hs p with
    | none => rfl
    | some u =>
      rcases e.sub p u q with z | ⟨_, _, z⟩
      · rw [h] at z; cases z
      · rw [h] at z; cases z
  · cases q : w.own p with
    | none => rfl
    | some i =>
      obtain ⟨u, z⟩ := e.live p i q
      rw [h] at z; cases z
/-- a new object that is nobody's -/
theorem EnvOk.tmp (e : EnvOk K w ρ σ H) (h : H p = none) (nt : NT o) : Fr w H w (upd H p o) ∧ EnvOk K w ρ σ (upd H p o) := by
  obtain ⟨h1, h2⟩ := e.free h
  refine ⟨⟨Same.refl _, fun a u q n => ⟨by rw [upd_ne (ne_of_none q h)]; exact q, n, fun z => z⟩, fun a u q => ⟨u, by rw [upd_ne (ne_of_none q h)]; exact q⟩, rfl, rfl⟩, e.keep (Same.refl _) (fun a u q => ?_) rfl ⟨rfl, rfl⟩ e.disj (fun a i q => ?_) fun a xs q => ?_⟩
  · have ne : a ≠ p := fun z => by subst z; rw [h1] at q; cases q
    rw [upd_ne ne]
    exact e.sub a u q
  · have ne : a ≠ p := fun z => by subst z; rw [h2] at q; cases q
    exact upd_ne ne
  · by_cases z : a = p
    · subst z; rw [upd_same] at q; cases q; exact absurd rfl (nt xs)
    · rw [upd_ne z] at q; exact e.tups a xs q
/-- a thing that is nobody's is shared from now on; H0: where it was not yet -/
theorem EnvOk.share {H0 : Hp} {w0 : Wd} (e : EnvOk K w ρ σ H) (f : Fr w0 H0 w H) (h0 : H0 p = none) (hn : w.own p = none) (hs : w.hs p = none) (h : H p = some o) :
    Fr w0 H0 { w with hs := upd w.hs p o } H ∧ EnvOk K { w with hs := upd w.hs p o } ρ σ H ∧ Same w.hs (upd w.hs p o) := by
  have sm : Same w.hs (upd w.hs p o) := AR.same_new hs
  refine ⟨⟨f.sh.trans sm, fun a u q n => ?_, f.lv, f.me⟩, e.keep sm (fun a u q => ?_) rfl ⟨rfl, rfl⟩ (fun a i q => ?_) (fun a i q => rfl) fun a xs q => ?_, sm⟩
  · obtain ⟨k1, k2, k3⟩ := f.kp a u q n
    exact ⟨k1, k2, fun z => by
      show upd w.hs p o a = none
      rw [upd_ne (ne_of_none q h0)]; exact k3 z⟩
  · by_cases ne : a = p
    · subst ne
      have q' : upd w.hs a o a = some u := q
      rw [upd_same] at q'
      cases q'
      exact .inl h
    · have q' : upd w.hs p o a = some u := q
      rw [upd_ne ne] at q'
      exact e.sub a u q'
  · have ne : a ≠ p := fun z => by subst z; rw [hn] at q; cases q
    show upd w.hs p o a = none
    rw [upd_ne ne]
    exact e.disj a i q
  · have z := e.tups a xs q
    exact sm a _ z
/-- a new shared object -/
theorem EnvOk.new (e : EnvOk K w ρ σ H) (h : H p = none) : Fr w H { w with hs := upd w.hs p o } (upd H p o) ∧ EnvOk K { w with hs := upd w.hs p o } ρ σ (upd H p o) ∧ Same w.hs (upd w.hs p o) := by
  obtain ⟨h1, h2⟩ := e.free h
  have sm : Same w.hs (upd w.hs p o) := AR.same_new h1
  refine ⟨⟨sm, fun a u q n => ⟨by rw [upd_ne (ne_of_none q h)]; exact q, n, fun z => by show upd w.hs p o a = none; rw [upd_ne (ne_of_none q h)]; exact z⟩, fun a u q => ⟨u, by rw [upd_ne (ne_of_none q h)]; exact q⟩, rfl, rfl⟩, e.keep sm (fun a u q => ?_) rfl ⟨rfl, rfl⟩ (fun a i q => ?_) (fun a i q => ?_) fun a xs q => ?_, sm⟩
  · have q' : upd w.hs p o a = some u := q
    by_cases z : a = p
    · subst z; rw [upd_same] at q'; cases q'; exact .inl upd_same
    · rw [upd_ne z] at q'; rw [upd_ne z]; exact e.sub a u q'
  · have ne : a ≠ p := fun z => by subst z; rw [h2] at q; cases q
    show upd w.hs p o a = none
    rw [upd_ne ne]; exact e.disj a i q
  · have ne : a ≠ p := fun z => by subst z; rw [h2] at q; cases q
    exact upd_ne ne
  · show upd w.hs p o a = some (.tup xs)
    by_cases z : a = p
    · subst z; rw [upd_same] at q ⊢; exact q
    · rw [upd_ne z] at q ⊢; exact e.tups a xs q
/-- the slot is stored: a shared thing -/
theorem EnvOk.setS {v : V} {d : D} {i : Nat} (e : EnvOk K w ρ σ H) (r : Rep K w.hs v d) : EnvOk K w (ρ.set i (Sl.s d)) (σ.set i (some v)) H where
  tups := e.tups
  sub := e.sub
  disj := e.disj
  live := e.live
  len := by rw [List.length_set, List.length_set]; exact e.len
  sh := fun j d' q => by
    by_cases z : i = j
    · subst z
      by_cases hl : i < ρ.length
      · rw [List.getElem?_set_self hl] at q
        injection q with q; injection q with q; subst q
        exact ⟨v, by rw [List.getElem?_set_self (by rw [← e.len]; exact hl)], r⟩
      · rw [List.getElem?_eq_none (by rw [List.length_set]; omega)] at q; cases q
    · rw [List.getElem?_set_ne z] at q
      obtain ⟨v', h1, h2⟩ := e.sh j d' q
      exact ⟨v', by rw [List.getElem?_set_ne z]; exact h1, h2⟩
  ow := fun j d' q => by
    by_cases z : i = j
    · subst z
      by_cases hl : i < ρ.length
      · rw [List.getElem?_set_self hl] at q
        injection q with q; cases q
      · rw [List.getElem?_eq_none (by rw [List.length_set]; omega)] at q; cases q
    · rw [List.getElem?_set_ne z] at q
      obtain ⟨v', h1, h2⟩ := e.ow j d' q
      exact ⟨v', by rw [List.getElem?_set_ne z]; exact h1, h2⟩
/-- the slot of a thing of its own has other data -/
theorem EnvOk.setO' {v : V} {d : D} {i : Nat} (e : EnvOk K w ρ σ H) (hv : σ[i]? = some (some v)) (sub : Sub w.hs H') (lv : ∀ a i, w.own a = some i → ∃ o, H' a = some o) (k : ∀ a j, j ≠ i → w.own a = some j → H' a = H a) (r : RepO K w H' i v d) (tp : ∀ a xs, H' a = some (.tup xs) → w.hs a = some (.tup xs)) : EnvOk K w (ρ.set i (Sl.o d)) σ H' where
  tups := tp
  sub := sub
  disj := e.disj
  live := lv
  len := by rw [List.length_set]; exact e.len
  sh := fun j d' q => by
    by_cases z : i = j
    · subst z
      by_cases hl : i < ρ.length
      · rw [List.getElem?_set_self hl] at q
        injection q with q; cases q
      · rw [List.getElem?_eq_none (by rw [List.length_set]; omega)] at q; cases q
    · rw [List.getElem?_set_ne z] at q
      exact e.sh j d' q
  ow := fun j d' q => by
    by_cases z : i = j
    · subst z
      by_cases hl : i < ρ.length
      · rw [List.getElem?_set_self hl] at q
        injection q with q; injection q with q; subst q
        exact ⟨v, hv, r⟩
      · rw [List.getElem?_eq_none (by rw [List.length_set]; omega)] at q; cases q
    · rw [List.getElem?_set_ne z] at q
      obtain ⟨v', h1, h2⟩ := e.ow j d' q
      exact ⟨v', h1, h2.keep ⟨rfl, rfl⟩ (Same.refl _) fun a ha => ⟨ha, k a j (Ne.symm z) ha⟩⟩
/-- an owned object is changed at a -/
theorem EnvOk.mut {i : Nat} {a : Addr} {v : V} {d : D} (e : EnvOk K w ρ σ H) (ha : w.own a = some i) (hv : σ[i]? = some (some v)) (r : RepO K w (upd H a o) i v d) (nt : NT o) : Fr w H w (upd H a o) ∧ EnvOk K w (ρ.set i (Sl.o d)) σ (upd H a o) := by
  refine ⟨⟨Same.refl _, fun b u q n => ?_, fun b u q => by
    by_cases z : b = a
    · subst z; exact ⟨_, upd_same⟩
    · exact ⟨u, by rw [upd_ne z]; exact q⟩, rfl, rfl⟩, e.setO' hv (fun b u q => ?_) (fun b j q => ?_) (fun b j ne q => ?_) r fun b xs q => ?_⟩
  · have ne : b ≠ a := fun z => by subst z; rw [ha] at n; cases n
    exact ⟨by rw [upd_ne ne]; exact q, n, fun z => z⟩
  · have ne : b ≠ a := fun z => by subst z; rw [e.disj b i ha] at q; cases q
    rw [upd_ne ne]
    exact e.sub b u q
  · by_cases ne : b = a
    · subst ne; exact ⟨_, upd_same⟩
    · rw [upd_ne ne]; exact e.live b j q
  · have hne : b ≠ a := fun z => by subst z; rw [ha] at q; injection q with q; exact ne q.symm
    exact upd_ne hne
  · by_cases z : b = a
    · subst z; rw [upd_same] at q; cases q; exact absurd rfl (nt xs)
    · rw [upd_ne z] at q; exact e.tups b xs q
/-- ownership of addresses is taken by slot i -/
def Wd.take (w : Wd) (i : Nat) (as : List Addr) : Wd := { w with own := fun a => if a ∈ as then some i else w.own a }
theorem Wd.take_in {i : Nat} {as : List Addr} {a : Addr} (h : a ∈ as) : (w.take i as).own a = some i := by show (if a ∈ as then some i else w.own a) = _; rw [if_pos h]
theorem Wd.take_out {i : Nat} {as : List Addr} {a : Addr} (h : a ∉ as) : (w.take i as).own a = w.own a := by show (if a ∈ as then some i else w.own a) = _; rw [if_neg h]
theorem EnvOk.taken {H0 : Hp} {w0 : Wd} {v : V} {d : D} {i : Nat} {as : List Addr} (e : EnvOk K w ρ σ H) (f : Fr w0 H0 w H) (h0 : ∀ a ∈ as, H0 a = none) (hn : ∀ a ∈ as, w.own a = none) (hs : ∀ a ∈ as, w.hs a = none) (hl : ∀ a ∈ as, ∃ o, H a = some o) (r : RepO K (w.take i as) H i v d) :
    Fr w0 H0 (w.take i as) H ∧ EnvOk K (w.take i as) (ρ.set i (Sl.o d)) (σ.set i (some v)) H := by
  refine ⟨⟨f.sh, fun a u q n => ?_, f.lv, f.me⟩, ?_⟩
  · obtain ⟨k1, k2, k3⟩ := f.kp a u q n
    have no : a ∉ as := fun z => by rw [h0 a z] at q; cases q
    exact ⟨k1, by rw [Wd.take_out no]; exact k2, k3⟩
  · have dj : ∀ a j, (w.take i as).own a = some j → w.hs a = none := fun a j q => by
      by_cases z : a ∈ as
      · exact hs a z
      · rw [Wd.take_out z] at q; exact e.disj a j q
    refine ⟨e.sub, dj, fun a j q => ?_, by rw [List.length_set, List.length_set]; exact e.len, fun j d' q => ?_, fun j d' q => ?_, e.tups⟩
    · by_cases z : a ∈ as
      · exact hl a z
      · rw [Wd.take_out z] at q; exact e.live a j q
    · by_cases z : i = j
      · subst z
        by_cases hl : i < ρ.length
        · rw [List.getElem?_set_self hl] at q
          injection q with q; cases q
        · rw [List.getElem?_eq_none (by rw [List.length_set]; omega)] at q; cases q
      · rw [List.getElem?_set_ne z] at q
        obtain ⟨v', h1, h2⟩ := e.sh j d' q
        exact ⟨v', by rw [List.getElem?_set_ne z]; exact h1, h2⟩
    · by_cases z : i = j
      · subst z
        by_cases hl : i < ρ.length
        · rw [List.getElem?_set_self hl] at q
          injection q with q; injection q with q; subst q
          exact ⟨v, by rw [List.getElem?_set_self (by rw [← e.len]; exact hl)], r⟩
        · rw [List.getElem?_eq_none (by rw [List.length_set]; omega)] at q; cases q
      · rw [List.getElem?_set_ne z] at q
        obtain ⟨v', h1, h2⟩ := e.ow j d' q
        refine ⟨v', by rw [List.getElem?_set_ne z]; exact h1, h2.keep (w' := w.take i as) ⟨rfl, rfl⟩ (Same.refl _) fun a ha => ⟨?_, rfl⟩⟩
        have no : a ∉ as := fun m => by rw [hn a m] at ha; cases ha
        rw [Wd.take_out no]; exact ha
/-- the new thing goes to slot i -/
theorem Fresh.store {H0 : Hp} {w0 : Wd} {v : V} {d : D} (r : Fresh K w H0 H v d) (i : Nat) (e : EnvOk K w ρ σ H) (f : Fr w0 H0 w H) : ∃ w', Fr w0 H0 w' H ∧ EnvOk K w' (ρ.set i (Sl.o d)) (σ.set i (some v)) H := by
  have one : ∀ {a : Addr} {P : Addr → Prop}, P a → ∀ b ∈ [a], P b := fun {a P} h b hb => by rw [List.mem_singleton.mp hb]; exact h
  cases r with
  | @lst a xs ds h0 hn hs h hl r => exact ⟨w.take i [a], e.taken f (one h0) (one hn) (one hs) (one ⟨_, h⟩) (.lst (Wd.take_in (List.mem_singleton_self a)) h hl r)⟩
  | @dK a kvs ks vs h0 hn hs h hk r => exact ⟨w.take i [a], e.taken f (one h0) (one hn) (one hs) (one ⟨_, h⟩) (.dK (Wd.take_in (List.mem_singleton_self a)) h hk r)⟩
  | @dT a kvs ks vs h0 hn hs h hk r => exact ⟨w.take i [a], e.taken f (one h0) (one hn) (one hs) (one ⟨_, h⟩) (.dT (Wd.take_in (List.mem_singleton_self a)) h hk r)⟩
  | @nums a xs h0 hn hs h => exact ⟨w.take i [a], e.taken f (one h0) (one hn) (one hs) (one ⟨_, h⟩) (.nums (fun z => nomatch z) (Wd.take_in (List.mem_singleton_self a)) h)⟩
  | @flow b l ns s c b0 l0 bn ln bs ls ne hb hl hz =>
    have two : ∀ {P : Addr → Prop}, P b → P l → ∀ a ∈ [b, l], P a := fun {P} h1 h2 a ha => by
      rcases List.mem_cons.mp ha with q | q
      · rw [q]; exact h1
      · rw [List.mem_singleton.mp q]; exact h2
    exact ⟨w.take i [b, l], e.taken f (two b0 l0) (two bn ln) (two bs ls) (two ⟨_, hb⟩ ⟨_, hl⟩) (.flow (fun z => nomatch z) (Wd.take_in (by simp)) (Wd.take_in (by simp)) ne hb hl hz)⟩
/-- the new thing is shared -/
theorem Fresh.share {H0 : Hp} {w0 : Wd} {v : V} {d : D} (r : Fresh K w H0 H v d) (nb : ∀ p c, d ≠ .box p c) (e : EnvOk K w ρ σ H) (f : Fr w0 H0 w H) : ∃ w', Fr w0 H0 w' H ∧ EnvOk K w' ρ σ H ∧ Rep K w'.hs v d := by
  cases r with
  | @lst a xs ds h0 hn hs h hl r =>
    obtain ⟨f1, e1, sm⟩ := e.share f h0 hn hs h
    exact ⟨_, f1, e1, .lst (.of upd_same) hl (r.mono (.of sm))⟩
  | @dK a kvs ks vs h0 hn hs h hk r =>
    obtain ⟨f1, e1, sm⟩ := e.share f h0 hn hs h
    exact ⟨_, f1, e1, .dK (.inl upd_same) hk (r.mono (.of sm))⟩
  | @dT a kvs ks vs h0 hn hs h hk r =>
    obtain ⟨f1, e1, sm⟩ := e.share f h0 hn hs h
    exact ⟨_, f1, e1, .dT (.inl upd_same) hk (r.mono (.of sm))⟩
  | nums => exact absurd rfl (nb _ _)
  | flow => exact absurd rfl (nb _ _)
/-- a slot's own thing is shared from now on -/
theorem EnvOk.give {i : Nat} {v : V} {d : D} (e : EnvOk K w ρ σ H) (hv : σ[i]? = some (some v)) (r : RepO K w H i v d) (nb : ∀ p c, d ≠ .box p c) : ∃ w', Fr w H w' H ∧ EnvOk K w' (ρ.set i (Sl.s d)) σ H ∧ Rep K w'.hs v d := by
  have core : ∀ (a : Addr) (o : HO), w.own a = some i → H a = some o → (∀ hs, Same w.hs hs → hs a = some o → Rep K hs v d) → ∃ w', Fr w H w' H ∧ EnvOk K w' (ρ.set i (Sl.s d)) σ H ∧ Rep K w'.hs v d := fun a o ha ho mk => by
    have hs0 := e.disj a i ha
    have sm : Same w.hs (upd w.hs a o) := AR.same_new hs0
    have rp : Rep K (upd w.hs a o) v d := mk _ sm upd_same
    have hne : ∀ b, (if b = a then none else w.own b) = none ∨ b ≠ a := fun b => by
      by_cases z : b = a
      · left; rw [if_pos z]
      · exact .inr z
    refine ⟨⟨upd w.hs a o, fun b => if b = a then none else w.own b, w.me, w.me2⟩, ⟨sm, fun b u q n => ⟨q, ?_, fun z => ?_⟩, (fun b u q => ⟨u, q⟩), rfl, rfl⟩, ⟨fun b u q => ?_, fun b j q => ?_, fun b j q => ?_, by rw [List.length_set]; exact e.len, fun j d' q => ?_, fun j d' q => ?_, fun b xs q => sm b _ (e.tups b xs q)⟩, rp⟩
    · show (if b = a then none else w.own b) = none
      split
      · rfl
      · exact n
    · have ne : b ≠ a := fun z => by subst z; rw [ha] at n; cases n
      show upd w.hs a o b = none
      rw [upd_ne ne]; exact z
    · have q' : upd w.hs a o b = some u := q
      by_cases z : b = a
      · subst z; rw [upd_same] at q'; cases q'; exact .inl ho
      · rw [upd_ne z] at q'; exact e.sub b u q'
    · have q' : (if b = a then none else w.own b) = some j := q
      show upd w.hs a o b = none
      by_cases z : b = a
      · rw [if_pos z] at q'; cases q'
      · rw [if_neg z] at q'; rw [upd_ne z]; exact e.disj b j q'
    · have q' : (if b = a then none else w.own b) = some j := q
      by_cases z : b = a
      · rw [if_pos z] at q'; cases q'
      · rw [if_neg z] at q'; exact e.live b j q'
    · by_cases z : i = j
      · subst z
        by_cases hl : i < ρ.length
        · rw [List.getElem?_set_self hl] at q
          injection q with q; injection q with q; subst q
          exact ⟨v, hv, rp⟩
        · rw [List.getElem?_eq_none (by rw [List.length_set]; omega)] at q; cases q
      · rw [List.getElem?_set_ne z] at q
        obtain ⟨v', h1, h2⟩ := e.sh j d' q
        exact ⟨v', h1, h2.mono (.of sm)⟩
    · by_cases z : i = j
      · subst z
        by_cases hl : i < ρ.length
        · rw [List.getElem?_set_self hl] at q
          injection q with q; cases q
        · rw [List.getElem?_eq_none (by rw [List.length_set]; omega)] at q; cases q
      · rw [List.getElem?_set_ne z] at q
        obtain ⟨v', h1, h2⟩ := e.ow j d' q
        refine ⟨v', h1, h2.keep (w' := ⟨upd w.hs a o, fun b => if b = a then none else w.own b, w.me, w.me2⟩) ⟨rfl, rfl⟩ sm fun b hb => ⟨?_, rfl⟩⟩
        have ne : b ≠ a := fun q => by subst q; rw [ha] at hb; injection hb with hb; exact z hb
        show (if b = a then none else w.own b) = some j
        rw [if_neg ne]; exact hb
  cases r with
  | lst h1 h2 hl h3 => exact core _ _ h1 h2 fun hs sm q => .lst (.of q) hl (h3.mono (.of sm))
  | dK h1 h2 h3 h4 => exact core _ _ h1 h2 fun hs sm q => .dK (.inl q) h3 (h4.mono (.of sm))
  | dT h1 h2 h3 h4 => exact core _ _ h1 h2 fun hs sm q => .dT (.inl q) h3 (h4.mono (.of sm))
  | ins h0 h1 h2 h3 h4 h5 => exact core _ _ h1 h2 fun hs sm q => .ins q h3 h4 (h5.mono (.of sm))
  | flow => exact absurd rfl (nb _ _)
  | nums => exact absurd rfl (nb _ _)
end
end VS
set_option autoImplicit false
namespace VS
open PySem PySem.Spec PyProof.Rows L2 AR
abbrev FE := En → Option (D × En)
abbrev FT := En → Option (Bool × En)
abbrev FA := En → Option (List D × En)
inductive Out where
  | nx (ρ : En) | rt (d : D) (ρ : En) | bk (ρ : En) | ct (ρ : En)
abbrev FS := En → Option Out
/-- a thing as it is read: itself in H, its parts in hs -/
inductive View (K : PySem.W.Frag) (hs H : Hp) : V → D → Prop
  | non : View K hs H .non .non
  | bl (b : Bool) : View K hs H (.bl b) (.bl b)
  | int (i : Int) : View K hs H (.int i) (.int i)
  | str {x : Str} : SG x → View K hs H (.str x) (.str x)
  | lst {a : Addr} {xs : List V} {ds : List D} : SqL K H a xs → xs.length ≤ sizeLine → RepAll K hs xs ds → View K hs H (.ref a) (.lst ds)
  | tup {a : Addr} {xs : List V} {ds : List D} : H a = some (.tup xs) → xs.length ≤ sizeLine → RepAll K hs xs ds → View K hs H (.ref a) (.tup ds)
  | ktp {a : Addr} {xs : List V} {ds : List D} : SqT K H a xs → xs.length ≤ sizeLine → RepAll K hs xs ds → View K hs H (.ref a) (.ktp ds)
  | dK {a : Addr} {kvs : List (Key × V)} {ks vs : List D} : Rd H a (.dK kvs) → ks = (kvs.map fun p => keyD p.1) → RepAll K hs (kvs.map (·.2)) vs → View K hs H (.ref a) (.dct 0 ks vs)
  | dT {a : Addr} {kvs : List (List Key × V)} {ks vs : List D} : Rd H a (.dT kvs) → ks = (kvs.map fun p => keyT p.1) → RepAll K hs (kvs.map (·.2)) vs → View K hs H (.ref a) (.dct 1 ks vs)
  | ins {a C dx : Addr} {c : Str} {fs : List (Str × V)} {ns : List Str} {vs : List D} : H a = some (.ins C dx fs) → C = He.ga K c → ns = fs.map (·.1) → RepAll K hs (fs.map (·.2)) vs → View K hs H (.ref a) (.ins c ns vs)
theorem Rep.view {K : PySem.W.Frag} {hs H : Hp} {v : V} {d : D} (r : Rep K hs v d) (e : Sub hs H) : View K hs H v d := by
  cases r with
  | non => exact .non
  | bl b => exact .bl b
  | int i => exact .int i
  | str g => exact .str g
  | lst q l t => exact .lst (e.sqL q) l t
  | tup q l t => exact .tup (e.tup q) l t
  | ktp q l t => exact .ktp (e.sqT q) l t
  | dK q k t => exact .dK (e.rd q) k t
  | dT q k t => exact .dT (e.rd q) k t
  | ins q c n t => exact .ins (e.ins q) c n t
section
variable (K : PySem.W.Frag)
def tV (f : FE) : TE := fun σ H Q => ∃ w ρ d ρ', EnvOk K w ρ σ H ∧ f ρ = some (d, ρ') ∧ ∀ v w' H', Fr w H w' H' → EnvOk K w' ρ' σ H' → Rep K w'.hs v d → Q v H'
def tN (f : FE) : TE := fun σ H Q => ∃ w ρ d ρ', EnvOk K w ρ σ H ∧ f ρ = some (d, ρ') ∧ ∀ v w' H', Fr w H w' H' → EnvOk K w' ρ' σ H' → Fresh K w' H H' v d → Q v H'
def tP (f : FE) : TE := fun σ H Q => ∃ w ρ d ρ', EnvOk K w ρ σ H ∧ f ρ = some (d, ρ') ∧ ∀ v w' H', Fr w H w' H' → EnvOk K w' ρ' σ H' → View K w'.hs H' v d → Q v H'
def tTb (f : FT) : TT := fun σ H Q => ∃ w ρ b ρ', EnvOk K w ρ σ H ∧ f ρ = some (b, ρ') ∧ ∀ w' H', Fr w H w' H' → EnvOk K w' ρ' σ H' → Q b H'
def tAs (f : FA) : TA := fun σ H Q => ∃ w ρ ds ρ', EnvOk K w ρ σ H ∧ f ρ = some (ds, ρ') ∧ ∀ vs w' H', Fr w H w' H' → EnvOk K w' ρ' σ H' → RepAll K w'.hs vs ds → Q vs H'
def OutOk (w : Wd) (H : Hp) (E : Ends) : Out → Prop
  | .nx ρ' => ∀ σ' w' H', Fr w H w' H' → EnvOk K w' ρ' σ' H' → E.nx σ' H'
  | .rt d ρ' => ∀ v σ' w' H', Fr w H w' H' → EnvOk K w' ρ' σ' H' → Rep K w'.hs v d → E.rt v H'
  | .bk ρ' => ∀ σ' w' H', Fr w H w' H' → EnvOk K w' ρ' σ' H' → E.bk σ' H'
  | .ct ρ' => ∀ σ' w' H', Fr w H w' H' → EnvOk K w' ρ' σ' H' → E.ct σ' H'
def tSt (f : FS) : TS := fun E σ H => ∃ w ρ o, EnvOk K w ρ σ H ∧ f ρ = some o ∧ OutOk K w H E o
end
abbrev VE (X : Cx) (e : Expr) (f : FE) : Prop := PE X e (tV X.K f)
abbrev VN (X : Cx) (e : Expr) (f : FE) : Prop := PE X e (tN X.K f)
abbrev VP (X : Cx) (e : Expr) (f : FE) : Prop := PE X e (tP X.K f)
abbrev VT (X : Cx) (e : Expr) (f : FT) : Prop := PT X e (tTb X.K f)
abbrev VA (X : Cx) (es : List Expr) (f : FA) : Prop := PA X es (tAs X.K f)
abbrev VS1 (X : Cx) (st : Stmt) (f : FS) : Prop := PS X st (tSt X.K f)
abbrev VSs (X : Cx) (st : List Stmt) (f : FS) : Prop := PSs X st (tSt X.K f)
theorem OutOk.fr {K : PySem.W.Frag} {w w1 : Wd} {H H1 : Hp} {E : Ends} {o : Out} (f : Fr w H w1 H1) (h : OutOk K w H E o) : OutOk K w1 H1 E o := by
  cases o with
  | nx ρ => exact fun σ' w' H' f' e => h σ' w' H' (f.trans f') e
  | rt d ρ => exact fun v σ' w' H' f' e r => h v σ' w' H' (f.trans f') e r
  | bk ρ => exact fun σ' w' H' f' e => h σ' w' H' (f.trans f') e
  | ct ρ => exact fun σ' w' H' f' e => h σ' w' H' (f.trans f') e
section
variable {X : Cx} {e : Expr} {t t' : TE}
theorem weakE (h : PE X e t) (k : ∀ σ H Q, t' σ H Q → t σ H Q) : PE X e t' := ⟨fun pins s σ H Q I q => h.run pins s σ H Q I (k σ H Q q)⟩
theorem weakT {t t' : TT} (h : PT X e t) (k : ∀ σ H Q, t' σ H Q → t σ H Q) : PT X e t' := ⟨fun pins s σ H Q I q => h.run pins s σ H Q I (k σ H Q q)⟩
theorem weakA {es : List Expr} {t t' : TA} (h : PA X es t) (k : ∀ σ H Q, t' σ H Q → t σ H Q) : PA X es t' := ⟨fun pos pins s σ H Q I q => h.run pos pins s σ H Q I (k σ H Q q)⟩
theorem weakS {st : Stmt} {t t' : TS} (h : PS X st t) (k : ∀ E σ H, t' E σ H → t E σ H) : PS X st t' := ⟨fun pins s σ H E I q => h.run pins s σ H E I (k E σ H q)⟩
theorem weakSs {st : List Stmt} {t t' : TS} (h : PSs X st t) (k : ∀ E σ H, t' E σ H → t E σ H) : PSs X st t' := ⟨fun pins s σ H E I q => h.run pins s σ H E I (k E σ H q)⟩
/-- cases by what is asked -/
theorem orE {ι : Type} {t : ι → TE} (h : ∀ i, PE X e (t i)) (k : ∀ σ H Q, t' σ H Q → ∃ i, t i σ H Q) : PE X e t' := ⟨fun pins s σ H Q I q => by
  obtain ⟨i, q'⟩ := k σ H Q q
  exact (h i).run pins s σ H Q I q'⟩
end
theorem Fresh.old {K : PySem.W.Frag} {w0 w1 w : Wd} {H0 H1 H : Hp} {v : V} {d : D} (r : Fresh K w H1 H v d) (f : Fr w0 H0 w1 H1) : Fresh K w H0 H v d := by
  cases r with
  | lst h0 => exact .lst (f.free h0) ‹_› ‹_› ‹_› ‹_› ‹_›
  | dK h0 => exact .dK (f.free h0) ‹_› ‹_› ‹_› ‹_› ‹_›
  | dT h0 => exact .dT (f.free h0) ‹_› ‹_› ‹_› ‹_› ‹_›
  | flow h0 h1 => exact .flow (f.free h0) (f.free h1) ‹_› ‹_› ‹_› ‹_› ‹_› ‹_› ‹_› ‹_›
  | nums h0 => exact .nums (f.free h0) ‹_› ‹_› ‹_›
/-! ### combinators -/
def fC (d : D) : FE := fun ρ => some (d, ρ)
def D.isBox : D → Bool
  | .box _ _ => true
  | _ => false
def fN (i : Nat) : FE := fun ρ => match ρ[i]? with
  | some (.s d) => some (d, ρ)
  | some (.o d) => if d.isBox then none else some (d, ρ.set i (.s d))
  | _ => none
/-- a look at a slot -/
def pN (i : Nat) : FE := fun ρ => match ρ[i]? with
  | some (.s d) => some (d, ρ)
  | some (.o d) => if d.isBox then none else some (d, ρ)
  | _ => none
def fU (op : D → Option D) (f : FE) : FE := fun ρ => (f ρ).bind fun p => (op p.1).map fun d => (d, p.2)
def fB (op : D → D → Option D) (f g : FE) : FE := fun ρ => (f ρ).bind fun p => (g p.2).bind fun q => (op p.1 q.1).map fun d => (d, q.2)
def aN : FA := fun ρ => some ([], ρ)
def aC (f : FE) (g : FA) : FA := fun ρ => (f ρ).bind fun p => (g p.2).map fun q => (p.1 :: q.1, q.2)
def fAp (op : List D → Option D) (a : FA) : FE := fun ρ => (a ρ).bind fun p => (op p.1).map fun d => (d, p.2)
def fIf (c : FT) (f g : FE) : FE := fun ρ => (c ρ).bind fun p => if p.1 then f p.2 else g p.2
def tF (op : D → Option Bool) (f : FE) : FT := fun ρ => (f ρ).bind fun p => (op p.1).map fun b => (b, p.2)
def cAnd (a b : FT) : FT := fun ρ => (a ρ).bind fun p => if p.1 then b p.2 else some (false, p.2)
def cOr (a b : FT) : FT := fun ρ => (a ρ).bind fun p => if p.1 then some (true, p.2) else b p.2
def cNot (a : FT) : FT := fun ρ => (a ρ).map fun p => (!p.1, p.2)
def sNx : FS := fun ρ => some (.nx ρ)
def sBk : FS := fun ρ => some (.bk ρ)
def sCt : FS := fun ρ => some (.ct ρ)
def sNo : FS := fun _ => none
def sSeq (a b : FS) : FS := fun ρ => match a ρ with
  | some (.nx ρ1) => b ρ1
  | r => r
def sEx (f : FE) : FS := fun ρ => (f ρ).map fun p => .nx p.2
def sRt (f : FE) : FS := fun ρ => (f ρ).map fun p => .rt p.1 p.2
def sRtN : FS := fun ρ => some (.rt .non ρ)
def sIf (c : FT) (a b : FS) : FS := fun ρ => (c ρ).bind fun p => if p.1 then a p.2 else b p.2
/-- a slot is stored: shared, owned -/
def sSet (i : Nat) (f : FE) : FS := fun ρ => (f ρ).map fun p => .nx (p.2.set i (.s p.1))
def sSetO (i : Nat) (f : FE) : FS := fun ρ => (f ρ).map fun p => .nx (p.2.set i (.o p.1))
section
variable {X : Cx} {a b c e : Expr} {f g : FE} {pos : Pos}
/-! ### names, constants -/
theorem ve_name {i : Nat} {x : Str} (h : PE X (.Name x pos) (tVar i)) : VE X (.Name x pos) (fN i) := by
  refine weakE h fun σ H Q q => ?_
  obtain ⟨w, ρ, d, ρ', ok, ef, k⟩ := q
  unfold fN at ef
  split at ef
  · rename_i d' e
    cases ef
    obtain ⟨v, hv, r⟩ := ok.sh i d e
    exact ⟨v, hv, k v w H (.refl _ _) ok r⟩
  · rename_i d' e
    split at ef
    · cases ef
    · rename_i nb
      cases ef
      obtain ⟨v, hv, r⟩ := ok.ow i d e
      obtain ⟨w', f', ok', r'⟩ := ok.give hv r (fun p c z => nb (by rw [z]; rfl))
      exact ⟨v, hv, k v w' H f' ok' r'⟩
  · cases ef
theorem RepO.view {K : PySem.W.Frag} {w : Wd} {H : Hp} {i : Nat} {v : V} {d : D} (r : RepO K w H i v d) (nb : d.isBox = false) : View K w.hs H v d := by
  cases r with
  | lst h1 h2 hl h3 => exact .lst (.of h2) hl h3
  | dK h1 h2 h3 h4 => exact .dK (.inl h2) h3 h4
  | dT h1 h2 h3 h4 => exact .dT (.inl h2) h3 h4
  | ins h0 h1 h2 h3 h4 h5 => exact .ins h2 h3 h4 h5
  | flow => cases nb
  | nums => cases nb
theorem vp_name {i : Nat} {x : Str} (h : PE X (.Name x pos) (tVar i)) : VP X (.Name x pos) (pN i) := by
  refine weakE h fun σ H Q q => ?_
  obtain ⟨w, ρ, d, ρ', ok, ef, k⟩ := q
  unfold pN at ef
  split at ef
  · rename_i d' e
    cases ef
    obtain ⟨v, hv, r⟩ := ok.sh i d e
    exact ⟨v, hv, k v w H (.refl _ _) ok (r.view ok.sub)⟩
  · rename_i d' e
    split at ef
    · cases ef
    · rename_i nb
      cases ef
      obtain ⟨v, hv, r⟩ := ok.ow i d e
      exact ⟨v, hv, k v w H (.refl _ _) ok (r.view (by simpa using nb))⟩
  · cases ef
theorem VE.vp (h : VE X e f) : VP X e f := weakE h fun σ H Q q => by
  obtain ⟨w, ρ, d, ρ', ok, ef, k⟩ := q
  exact ⟨w, ρ, d, ρ', ok, ef, fun v w' H' fr ok' r => k v w' H' fr ok' (r.view ok'.sub)⟩
theorem VN.ve (h : VN X e f) (nb : ∀ ρ d ρ', f ρ = some (d, ρ') → d.isBox = false) : VE X e f := weakE h fun σ H Q q => by
  obtain ⟨w, ρ, d, ρ', ok, ef, k⟩ := q
  refine ⟨w, ρ, d, ρ', ok, ef, fun v w' H' fr ok' r => ?_⟩
  have nb' := nb ρ d ρ' ef
  obtain ⟨w2, f2, ok2, r2⟩ := r.share (fun p c z => by rw [z] at nb'; cases nb') ok' fr
  exact k v w2 H' f2 ok2 r2
theorem ve_c {v : V} {d : D} (h : PE X e (tC v)) (r : ∀ H, Rep X.K H v d) : VE X e (fC d) := weakE h fun σ H Q q => by
  obtain ⟨w, ρ, d', ρ', ok, ef, k⟩ := q
  cases ef
  exact k v w H (.refl _ _) ok (r _)
/-! ### operators by values -/
theorem ve_un {r : V → Hp → VK → Prop} {op : D → Option D} (h : PE X e (fun σ H Q => tV X.K f σ H fun x H1 => r x H1 Q))
    (k : ∀ (w : Wd) (ρ : En) (σ : L2.St) (H : Hp) (v : V) (d d' : D) (Q : VK), EnvOk X.K w ρ σ H → Rep X.K w.hs v d → op d = some d' → (∀ v' w' H', Fr w H w' H' → EnvOk X.K w' ρ σ H' → Rep X.K w'.hs v' d' → Q v' H') → r v H Q) : VE X e (fU op f) := by
  refine weakE h fun σ H Q q => ?_
  obtain ⟨w, ρ, d', ρ', ok, ef, kk⟩ := q
  unfold fU at ef
  obtain ⟨⟨d, ρ1⟩, e1, e2⟩ := Option.bind_eq_some_iff.mp ef
  obtain ⟨d2, e3, e4⟩ := Option.map_eq_some_iff.mp e2
  cases e4
  refine ⟨w, ρ, d, ρ1, ok, e1, fun v w1 H1 f1 ok1 r1 => ?_⟩
  exact k w1 ρ1 σ H1 v d d' Q ok1 r1 e3 fun v' w' H' f' ok' r' => kk v' w' H' (f1.trans f') ok' r'
/-- .. of a look -/
theorem ve_unP {ι : Type} {r : ι → V → Hp → VK → Prop} {op : D → Option D} (h : ∀ i, PE X e (fun σ H Q => tP X.K f σ H fun x H1 => r i x H1 Q))
    (k : ∀ (d d' : D), op d = some d' → ∃ i, ∀ (w : Wd) (ρ : En) (σ : L2.St) (H : Hp) (v : V) (Q : VK), EnvOk X.K w ρ σ H → View X.K w.hs H v d → (∀ v' w' H', Fr w H w' H' → EnvOk X.K w' ρ σ H' → Rep X.K w'.hs v' d' → Q v' H') → r i v H Q) : VE X e (fU op f) := by
  refine orE h fun σ H Q q => ?_
  obtain ⟨w, ρ, d', ρ', ok, ef, kk⟩ := q
  unfold fU at ef
  obtain ⟨⟨d, ρ1⟩, e1, e2⟩ := Option.bind_eq_some_iff.mp ef
  obtain ⟨d2, e3, e4⟩ := Option.map_eq_some_iff.mp e2
  cases e4
  obtain ⟨i, ki⟩ := k d d' e3
  refine ⟨i, w, ρ, d, ρ1, ok, e1, fun v w1 H1 f1 ok1 r1 => ?_⟩
  exact ki w1 ρ1 σ H1 v Q ok1 r1 fun v' w' H' f' ok' r' => kk v' w' H' (f1.trans f') ok' r'
/-- two operands; the rules are by cases ι -/
theorem ve_bin {ι : Type} {r : ι → R2} {op : D → D → Option D} (h : ∀ i, PE X e (tOp (r i) (tV X.K f) (tV X.K g)))
    (k : ∀ (x y z : D), op x y = some z → ∃ i, ∀ (w : Wd) (ρ : En) (σ : L2.St) (H : Hp) (v u : V) (Q : VK), EnvOk X.K w ρ σ H → Rep X.K w.hs v x → Rep X.K w.hs u y → (∀ v' w' H', Fr w H w' H' → EnvOk X.K w' ρ σ H' → Rep X.K w'.hs v' z → Q v' H') → r i v u H Q) : VE X e (fB op f g) := by
  refine orE h fun σ H Q q => ?_
  obtain ⟨w, ρ, z, ρ', ok, ef, kk⟩ := q
  unfold fB at ef
  obtain ⟨⟨x, ρ1⟩, e1, e2⟩ := Option.bind_eq_some_iff.mp ef
  obtain ⟨⟨y, ρ2⟩, e3, e4⟩ := Option.bind_eq_some_iff.mp e2
  obtain ⟨z2, e5, e6⟩ := Option.map_eq_some_iff.mp e4
  cases e6
  obtain ⟨i, ki⟩ := k x y z e5
  refine ⟨i, w, ρ, x, ρ1, ok, e1, fun v w1 H1 f1 ok1 r1 => ⟨w1, ρ1, y, ρ2, ok1, e3, fun u w2 H2 f2 ok2 r2 => ?_⟩⟩
  exact ki w2 ρ2 σ H2 v u Q ok2 (r1.mono (.of f2.sh)) r2 fun v' w' H' f' ok' r' => kk v' w' H' (f1.trans (f2.trans f')) ok' r'
/-- .. the right one a look -/
theorem ve_binP {ι : Type} {r : ι → R2} {op : D → D → Option D} (h : ∀ i, PE X e (tOp (r i) (tV X.K f) (tP X.K g)))
    (k : ∀ (x y z : D), op x y = some z → ∃ i, ∀ (w : Wd) (ρ : En) (σ : L2.St) (H : Hp) (v u : V) (Q : VK), EnvOk X.K w ρ σ H → Rep X.K w.hs v x → View X.K w.hs H u y → (∀ v' w' H', Fr w H w' H' → EnvOk X.K w' ρ σ H' → Rep X.K w'.hs v' z → Q v' H') → r i v u H Q) : VE X e (fB op f g) := by
  refine orE h fun σ H Q q => ?_
  obtain ⟨w, ρ, z, ρ', ok, ef, kk⟩ := q
  unfold fB at ef
  obtain ⟨⟨x, ρ1⟩, e1, e2⟩ := Option.bind_eq_some_iff.mp ef
  obtain ⟨⟨y, ρ2⟩, e3, e4⟩ := Option.bind_eq_some_iff.mp e2
  obtain ⟨z2, e5, e6⟩ := Option.map_eq_some_iff.mp e4
  cases e6
  obtain ⟨i, ki⟩ := k x y z e5
  refine ⟨i, w, ρ, x, ρ1, ok, e1, fun v w1 H1 f1 ok1 r1 => ⟨w1, ρ1, y, ρ2, ok1, e3, fun u w2 H2 f2 ok2 r2 => ?_⟩⟩
  exact ki w2 ρ2 σ H2 v u Q ok2 (r1.mono (.of f2.sh)) r2 fun v' w' H' f' ok' r' => kk v' w' H' (f1.trans (f2.trans f')) ok' r'
/-! ### arguments -/
theorem va_nil : VA X [] aN := weakA pa_nil fun σ H Q q => by
  obtain ⟨w, ρ, ds, ρ', ok, ef, k⟩ := q
  cases ef
  exact k [] w H (.refl _ _) ok .nil
theorem va_cons {es : List Expr} {ga : FA} (ha : VE X e f) (hr : VA X es ga) (hs : starEach (e :: es) X.env = (false, eval e X.env) :: starEach es X.env := by rfl) : VA X (e :: es) (aC f ga) := by
  refine weakA (pa_cons ha hr hs) fun σ H Q q => ?_
  obtain ⟨w, ρ, ds, ρ', ok, ef, k⟩ := q
  unfold aC at ef
  obtain ⟨⟨x, ρ1⟩, e1, e2⟩ := Option.bind_eq_some_iff.mp ef
  obtain ⟨⟨xs, ρ2⟩, e3, e4⟩ := Option.map_eq_some_iff.mp e2
  cases e4
  refine ⟨w, ρ, x, ρ1, ok, e1, fun v w1 H1 f1 ok1 r1 => ⟨w1, ρ1, xs, _, ok1, e3, fun vs w2 H2 f2 ok2 r2 => ?_⟩⟩
  exact k (v :: vs) w2 H2 (f1.trans f2) ok2 (.cons (r1.mono (.of f2.sh)) r2)
/-- a call by values; the rules are by cases ι -/
theorem ve_ap {ι : Type} {es : List Expr} {ga : FA} {r : ι → List V → Hp → VK → Prop} {op : List D → Option D} (h : ∀ i, PE X e (tCB (r i) (tAs X.K ga)))
    (k : ∀ (ds : List D) (d : D), op ds = some d → ∃ i, ∀ (w : Wd) (ρ : En) (σ : L2.St) (H : Hp) (vs : List V) (Q : VK), EnvOk X.K w ρ σ H → RepAll X.K w.hs vs ds → (∀ v' w' H', Fr w H w' H' → EnvOk X.K w' ρ σ H' → Rep X.K w'.hs v' d → Q v' H') → r i vs H Q) : VE X e (fAp op ga) := by
  refine orE h fun σ H Q q => ?_
  obtain ⟨w, ρ, z, ρ', ok, ef, kk⟩ := q
  unfold fAp at ef
  obtain ⟨⟨ds, ρ1⟩, e1, e2⟩ := Option.bind_eq_some_iff.mp ef
  obtain ⟨d2, e3, e4⟩ := Option.map_eq_some_iff.mp e2
  cases e4
  obtain ⟨i, ki⟩ := k ds z e3
  exact ⟨i, w, ρ, ds, ρ1, ok, e1, fun vs w1 H1 f1 ok1 r1 => ki w1 ρ1 σ H1 vs Q ok1 r1 fun v' w' H' f' ok' r' => kk v' w' H' (f1.trans f') ok' r'⟩
/-- .. that gives a new thing -/
theorem vn_ap {ι : Type} {es : List Expr} {ga : FA} {r : ι → List V → Hp → VK → Prop} {op : List D → Option D} (h : ∀ i, PE X e (tCB (r i) (tAs X.K ga)))
    (k : ∀ (ds : List D) (d : D), op ds = some d → ∃ i, ∀ (w : Wd) (ρ : En) (σ : L2.St) (H : Hp) (vs : List V) (Q : VK), EnvOk X.K w ρ σ H → RepAll X.K w.hs vs ds → (∀ v' w' H', Fr w H w' H' → EnvOk X.K w' ρ σ H' → Fresh X.K w' H H' v' d → Q v' H') → r i vs H Q) : VN X e (fAp op ga) := by
  refine orE h fun σ H Q q => ?_
  obtain ⟨w, ρ, z, ρ', ok, ef, kk⟩ := q
  unfold fAp at ef
  obtain ⟨⟨ds, ρ1⟩, e1, e2⟩ := Option.bind_eq_some_iff.mp ef
  obtain ⟨d2, e3, e4⟩ := Option.map_eq_some_iff.mp e2
  cases e4
  obtain ⟨i, ki⟩ := k ds z e3
  exact ⟨i, w, ρ, ds, ρ1, ok, e1, fun vs w1 H1 f1 ok1 r1 => ki w1 ρ1 σ H1 vs Q ok1 r1 fun v' w' H' f' ok' r' => kk v' w' H' (f1.trans f') ok' (r'.old f1)⟩
end
end VS
set_option autoImplicit false
namespace VS
open PySem PySem.Spec PyProof.Rows L2 AR
section
variable {X : Cx} {a b c e : Expr} {f g : FE} {pos : Pos}
/-! ### displays -/
def mkL (ds : List D) : Option D := if ds.length ≤ sizeLine then some (.lst ds) else none
def mkT (ds : List D) : Option D := if ds.length ≤ sizeLine then some (.tup ds) else none
theorem new_lst {K : PySem.W.Frag} {w : Wd} {ρ : En} {σ : L2.St} {H : Hp} {vs : List V} {ds : List D} {Q : VK} (ok : EnvOk K w ρ σ H) (r : RepAll K w.hs vs ds) (hl : vs.length ≤ sizeLine)
    (k : ∀ v' w' H', Fr w H w' H' → EnvOk K w' ρ σ H' → Fresh K w' H H' v' (.lst ds) → Q v' H') : ∀ p, H p = none → Q (.ref p) (upd H p (.lst vs)) := fun p hp => by
  obtain ⟨h1, h2⟩ := ok.free hp
  obtain ⟨f1, ok1⟩ := ok.tmp (o := .lst vs) hp (fun _ z => nomatch z)
  exact k _ w _ f1 ok1 (.lst hp h2 h1 upd_same hl r)
theorem new_tup {K : PySem.W.Frag} {w : Wd} {ρ : En} {σ : L2.St} {H : Hp} {vs : List V} {ds : List D} {Q : VK} (ok : EnvOk K w ρ σ H) (r : RepAll K w.hs vs ds) (hl : vs.length ≤ sizeLine)
    (k : ∀ v' w' H', Fr w H w' H' → EnvOk K w' ρ σ H' → Rep K w'.hs v' (.tup ds) → Q v' H') : ∀ p, H p = none → Q (.ref p) (upd H p (.tup vs)) := fun p hp => by
  obtain ⟨f1, ok1, sm⟩ := ok.new (o := .tup vs) hp
  exact k _ _ _ f1 ok1 (.tup upd_same hl (r.mono (.of sm)))
theorem vn_list {es : List Expr} {ga : FA} (h : VA X es ga) : VN X (.List es pos) (fAp mkL ga) := by
  refine vn_ap (es := es) (ι := Unit) (r := fun _ vs H Q => vs.length ≤ sizeLine ∧ ∀ p, H p = none → Q (.ref p) (upd H p (.lst vs))) (fun _ => pe_lst h) fun ds d ed => ⟨(), fun w ρ σ H vs Q ok r k => ?_⟩
  unfold mkL at ed
  split at ed
  · rename_i hl
    cases ed
    exact ⟨by rw [r.length]; exact hl, new_lst ok r (by rw [r.length]; exact hl) k⟩
  · cases ed
theorem mkL_nb {ga : FA} : ∀ ρ d ρ', fAp mkL ga ρ = some (d, ρ') → d.isBox = false := fun ρ d ρ' h => by
  unfold fAp at h
  obtain ⟨⟨ds, ρ1⟩, e1, e2⟩ := Option.bind_eq_some_iff.mp h
  obtain ⟨d2, e3, e4⟩ := Option.map_eq_some_iff.mp e2
  cases e4
  unfold mkL at e3
  split at e3
  · cases e3; rfl
  · cases e3
theorem ve_list {es : List Expr} {ga : FA} (h : VA X es ga) : VE X (.List es pos) (fAp mkL ga) := VN.ve (vn_list h) mkL_nb
theorem ve_tup {es : List Expr} {ga : FA} {x1} (h : VA X es ga) : VE X (.Tuple es x1 pos) (fAp mkT ga) := by
  refine ve_ap (es := es) (ι := Unit) (r := fun _ vs H Q => vs.length ≤ sizeLine ∧ ∀ p, H p = none → Q (.ref p) (upd H p (.tup vs))) (fun _ => pe_tup h) fun ds d ed => ⟨(), fun w ρ σ H vs Q ok r k => ?_⟩
  unfold mkT at ed
  split at ed
  · rename_i hl
    cases ed
    exact ⟨by rw [r.length]; exact hl, new_tup ok r (by rw [r.length]; exact hl) k⟩
  · cases ed
/-! ### tests -/
def truD : D → Option Bool
  | .non => some false
  | .bl b => some b
  | .int i => some (i != 0)
  | .str x => some ((x.length : Int) != 0)
  | .lst xs => some (!xs.isEmpty)
  | .tup xs => some (!xs.isEmpty)
  | _ => none
def blD : D → Option Bool
  | .bl b => some b
  | _ => none
theorem isEmpty_rep {K : PySem.W.Frag} {H : Hp} {vs : List V} {ds : List D} (r : RepAll K H vs ds) : vs.isEmpty = ds.isEmpty := by cases r <;> rfl
theorem tru_of {K : PySem.W.Frag} {hs H : Hp} {v : V} {d : D} {b : Bool} (r : View K hs H v d) (h : truD d = some b) : TruV K v H b := by
  cases r with
  | non => cases h; rfl
  | bl b => cases h; rfl
  | int i => cases h; rfl
  | str g => cases h; exact ⟨g.1, rfl⟩
  | lst q l t => cases h; exact .inl ⟨_, q, by rw [isEmpty_rep t]⟩
  | tup q l t => cases h; exact .inr (.inl ⟨_, .of q, by rw [isEmpty_rep t]⟩)
  | ktp q l t => cases h
  | dK q e t => cases h
  | dT q e t => cases h
  | ins => cases h
theorem vt_tru (h : VP X e f) (he : ∀ whole, isTrue e X.env whole = (do let v ← whole; standAt e.pos; holding [v] (truthy v)) := by intro _; rfl) : VT X e (tF truD f) := by
  refine weakT (pt_truth h he) fun σ H Q q => ?_
  obtain ⟨w, ρ, b, ρ', ok, ef, k⟩ := q
  unfold tF at ef
  obtain ⟨⟨d, ρ1⟩, e1, e2⟩ := Option.bind_eq_some_iff.mp ef
  obtain ⟨b2, e3, e4⟩ := Option.map_eq_some_iff.mp e2
  cases e4
  exact ⟨w, ρ, d, _, ok, e1, fun v w1 H1 f1 ok1 r1 => ⟨b, tru_of r1 e3, k w1 H1 f1 ok1⟩⟩
theorem vt_bl (h : VE X e f) (he : ∀ whole, isTrue e X.env whole = (do let v ← whole; standAt e.pos; holding [v] (truthy v)) := by intro _; rfl) : VT X e (tF blD f) := by
  refine weakT (pt_val h he) fun σ H Q q => ?_
  obtain ⟨w, ρ, b, ρ', ok, ef, k⟩ := q
  unfold tF at ef
  obtain ⟨⟨d, ρ1⟩, e1, e2⟩ := Option.bind_eq_some_iff.mp ef
  obtain ⟨b2, e3, e4⟩ := Option.map_eq_some_iff.mp e2
  cases e4
  refine ⟨w, ρ, d, _, ok, e1, fun v w1 H1 f1 ok1 r1 => ?_⟩
  cases d <;> cases e3
  cases r1
  exact ⟨b, rfl, k w1 H1 f1 ok1⟩
/-- the answers of a two-place rule -/
def KB (K : PySem.W.Frag) {ι : Type} (r : ι → R2) (op : D → D → Option D) : Prop :=
  ∀ (x y z : D), op x y = some z → ∃ i, ∀ (w : Wd) (ρ : En) (σ : L2.St) (H : Hp) (v u : V) (Q : VK), EnvOk K w ρ σ H → Rep K w.hs v x → Rep K w.hs u y → (∀ v' w' H', Fr w H w' H' → EnvOk K w' ρ σ H' → Rep K w'.hs v' z → Q v' H') → r i v u H Q
def KBP (K : PySem.W.Frag) {ι : Type} (r : ι → R2) (op : D → D → Option D) : Prop :=
  ∀ (x y z : D), op x y = some z → ∃ i, ∀ (w : Wd) (ρ : En) (σ : L2.St) (H : Hp) (v u : V) (Q : VK), EnvOk K w ρ σ H → Rep K w.hs v x → View K w.hs H u y → (∀ v' w' H', Fr w H w' H' → EnvOk K w' ρ σ H' → Rep K w'.hs v' z → Q v' H') → r i v u H Q
theorem vt_bin {ι : Type} {r : ι → R2} {op : D → D → Option D} (h : ∀ i, PT X e (tTest (tOp (r i) (tV X.K f) (tV X.K g)))) (k : KB X.K r op) : VT X e (tF blD (fB op f g)) := by
  refine ⟨fun pins s σ H Q I q => ?_⟩
  obtain ⟨w, ρ, b, ρ', ok, ef, kk⟩ := q
  unfold tF fB at ef
  obtain ⟨⟨z, ρ3⟩, e0, e9⟩ := Option.bind_eq_some_iff.mp ef
  obtain ⟨⟨x, ρ1⟩, e1, e2⟩ := Option.bind_eq_some_iff.mp e0
  obtain ⟨⟨y, ρ2⟩, e3, e4⟩ := Option.bind_eq_some_iff.mp e2
  obtain ⟨z2, e5, e6⟩ := Option.map_eq_some_iff.mp e4
  cases e6
  obtain ⟨b2, e7, e8⟩ := Option.map_eq_some_iff.mp e9
  cases e8
  obtain ⟨i, ki⟩ := k x y z e5
  refine (h i).run pins s σ H Q I ⟨w, ρ, x, ρ1, ok, e1, fun v w1 H1 f1 ok1 r1 => ⟨w1, ρ1, y, ρ2, ok1, e3, fun u w2 H2 f2 ok2 r2 => ?_⟩⟩
  refine ki w2 ρ2 σ H2 v u _ ok2 (r1.mono (.of f2.sh)) r2 fun v' w' H' f' ok' r' => ?_
  cases z <;> cases e7
  cases r'
  exact ⟨b, rfl, kk w' H' (f1.trans (f2.trans f')) ok'⟩
theorem vt_binP {ι : Type} {r : ι → R2} {op : D → D → Option D} (h : ∀ i, PT X e (tTest (tOp (r i) (tV X.K f) (tP X.K g)))) (k : KBP X.K r op) : VT X e (tF blD (fB op f g)) := by
  refine ⟨fun pins s σ H Q I q => ?_⟩
  obtain ⟨w, ρ, b, ρ', ok, ef, kk⟩ := q
  unfold tF fB at ef
  obtain ⟨⟨z, ρ3⟩, e0, e9⟩ := Option.bind_eq_some_iff.mp ef
  obtain ⟨⟨x, ρ1⟩, e1, e2⟩ := Option.bind_eq_some_iff.mp e0
  obtain ⟨⟨y, ρ2⟩, e3, e4⟩ := Option.bind_eq_some_iff.mp e2
  obtain ⟨z2, e5, e6⟩ := Option.map_eq_some_iff.mp e4
  cases e6
  obtain ⟨b2, e7, e8⟩ := Option.map_eq_some_iff.mp e9
  cases e8
  obtain ⟨i, ki⟩ := k x y z e5
  refine (h i).run pins s σ H Q I ⟨w, ρ, x, ρ1, ok, e1, fun v w1 H1 f1 ok1 r1 => ⟨w1, ρ1, y, ρ2, ok1, e3, fun u w2 H2 f2 ok2 r2 => ?_⟩⟩
  refine ki w2 ρ2 σ H2 v u _ ok2 (r1.mono (.of f2.sh)) r2 fun v' w' H' f' ok' r' => ?_
  cases z <;> cases e7
  cases r'
  exact ⟨b, rfl, kk w' H' (f1.trans (f2.trans f')) ok'⟩
abbrev VW (X : Cx) (e : Expr) (f : FT) : Prop := PW X e (tTb X.K f)
variable {ca cb : FT} {rest : List Expr}
theorem weakW {t t' : TT} (h : PW X e t) (k : ∀ σ H Q, t' σ H Q → t σ H Q) : PW X e t' := ⟨fun wh pins s σ H Q I q => h.run wh pins s σ H Q I (k σ H Q q)⟩
theorem vw_and1 (h : VT X a ca) : VW X (.BoolOp .And [a] pos) ca := pw_and1 h
theorem vw_or1 (h : VT X a ca) : VW X (.BoolOp .Or [a] pos) ca := pw_or1 h
theorem vw_and (h1 : VT X a ca) (h2 : VW X (.BoolOp .And (b :: rest) pos) cb) : VW X (.BoolOp .And (a :: b :: rest) pos) (cAnd ca cb) := by
  refine weakW (pw_and h1 h2) fun σ H Q q => ?_
  obtain ⟨w, ρ, r, ρ', ok, ef, k⟩ := q
  obtain ⟨⟨x, ρ1⟩, e1, e2⟩ := Option.bind_eq_some_iff.mp ef
  refine ⟨w, ρ, x, ρ1, ok, e1, fun w1 H1 f1 ok1 => ?_⟩
  cases x with
  | true => rw [if_pos rfl]; exact ⟨w1, ρ1, r, ρ', ok1, e2, fun w2 H2 f2 ok2 => k w2 H2 (f1.trans f2) ok2⟩
  | false => rw [if_neg (by decide)]; cases e2; exact k w1 H1 f1 ok1
theorem vw_or (h1 : VT X a ca) (h2 : VW X (.BoolOp .Or (b :: rest) pos) cb) : VW X (.BoolOp .Or (a :: b :: rest) pos) (cOr ca cb) := by
  refine weakW (pw_or h1 h2) fun σ H Q q => ?_
  obtain ⟨w, ρ, r, ρ', ok, ef, k⟩ := q
  obtain ⟨⟨x, ρ1⟩, e1, e2⟩ := Option.bind_eq_some_iff.mp ef
  refine ⟨w, ρ, x, ρ1, ok, e1, fun w1 H1 f1 ok1 => ?_⟩
  cases x with
  | false => rw [if_neg (by decide)]; exact ⟨w1, ρ1, r, ρ', ok1, e2, fun w2 H2 f2 ok2 => k w2 H2 (f1.trans f2) ok2⟩
  | true => rw [if_pos rfl]; cases e2; exact k w1 H1 f1 ok1
theorem vt_not (h : VT X a ca) : VT X (.UnaryOp .Not a pos) (cNot ca) := by
  refine weakT (pt_not h) fun σ H Q q => ?_
  obtain ⟨w, ρ, r, ρ', ok, ef, k⟩ := q
  obtain ⟨⟨x, ρ1⟩, e1, e2⟩ := Option.map_eq_some_iff.mp ef
  cases e2
  exact ⟨w, ρ, x, _, ok, e1, k⟩
theorem ve_if (hc : VT X c ca) (ha : VE X a f) (hb : VE X b g) : VE X (.IfExp c a b pos) (fIf ca f g) := by
  refine weakE (pe_ifExp hc ha hb) fun σ H Q q => ?_
  obtain ⟨w, ρ, d, ρ', ok, ef, k⟩ := q
  obtain ⟨⟨x, ρ1⟩, e1, e2⟩ := Option.bind_eq_some_iff.mp ef
  refine ⟨w, ρ, x, ρ1, ok, e1, fun w1 H1 f1 ok1 => ?_⟩
  cases x with
  | true => rw [if_pos rfl]; exact ⟨w1, ρ1, d, ρ', ok1, e2, fun v w2 H2 f2 ok2 r2 => k v w2 H2 (f1.trans f2) ok2 r2⟩
  | false => rw [if_neg (by decide)]; exact ⟨w1, ρ1, d, ρ', ok1, e2, fun v w2 H2 f2 ok2 r2 => k v w2 H2 (f1.trans f2) ok2 r2⟩
/-- and, or, not of truth values as values -/
def fAnd (f g : FE) : FE := fun ρ => (f ρ).bind fun p => match p.1 with
  | .bl true => g p.2
  | .bl false => some (.bl false, p.2)
  | _ => none
def fOr (f g : FE) : FE := fun ρ => (f ρ).bind fun p => match p.1 with
  | .bl true => some (.bl true, p.2)
  | .bl false => g p.2
  | _ => none
def notD : D → Option D
  | .bl b => some (.bl !b)
  | _ => none
theorem ve_one {op} (h : VE X a f) : VE X (.BoolOp op [a] pos) f := pe_one h
theorem ve_and (h1 : VE X a f) (h2 : VE X (.BoolOp .And (b :: rest) pos) g) : VE X (.BoolOp .And (a :: b :: rest) pos) (fAnd f g) := by
  refine weakE (pe_and h1 h2) fun σ H Q q => ?_
  obtain ⟨w, ρ, d, ρ', ok, ef, k⟩ := q
  obtain ⟨⟨x, ρ1⟩, e1, e2⟩ := Option.bind_eq_some_iff.mp ef
  refine ⟨w, ρ, x, ρ1, ok, e1, fun v w1 H1 f1 ok1 r1 => ?_⟩
  cases r1 with
  | bl b =>
    cases b with
    | true => exact ⟨true, rfl, by rw [if_pos rfl]; exact ⟨w1, ρ1, d, ρ', ok1, e2, fun v w2 H2 f2 ok2 r2 => k v w2 H2 (f1.trans f2) ok2 r2⟩⟩
    | false => cases e2; exact ⟨false, rfl, by rw [if_neg (by decide)]; exact k _ w1 H1 f1 ok1 (.bl _)⟩
  | _ => cases e2
theorem ve_or (h1 : VE X a f) (h2 : VE X (.BoolOp .Or (b :: rest) pos) g) : VE X (.BoolOp .Or (a :: b :: rest) pos) (fOr f g) := by
  refine weakE (pe_or h1 h2) fun σ H Q q => ?_
  obtain ⟨w, ρ, d, ρ', ok, ef, k⟩ := q
  obtain ⟨⟨x, ρ1⟩, e1, e2⟩ := Option.bind_eq_some_iff.mp ef
  refine ⟨w, ρ, x, ρ1, ok, e1, fun v w1 H1 f1 ok1 r1 => ?_⟩
  cases r1 with
  | bl b =>
    cases b with
    | false => exact ⟨false, rfl, by rw [if_neg (by decide)]; exact ⟨w1, ρ1, d, ρ', ok1, e2, fun v w2 H2 f2 ok2 r2 => k v w2 H2 (f1.trans f2) ok2 r2⟩⟩
    | true => cases e2; exact ⟨true, rfl, by rw [if_pos rfl]; exact k _ w1 H1 f1 ok1 (.bl _)⟩
  | _ => cases e2
theorem ve_not (h : VE X a f) : VE X (.UnaryOp .Not a pos) (fU notD f) := by
  refine ve_un (r := fun x H Q => ∃ c, x = .bl c ∧ Q (.bl (!c)) H) (pe_not h) fun w ρ σ H v d d' Q ok r ed k => ?_
  cases r with
  | bl b => cases ed; exact ⟨b, rfl, k _ w H (.refl _ _) ok (.bl _)⟩
  | _ => cases ed
end
/-! ### statements -/
section
variable {X : Cx} {e : Expr} {f g : FE} {pos : Pos} {st : Stmt} {rest : List Stmt} {s1 s2 : FS}
theorem vs_nil : VSs X [] sNx := weakSs pss_nil fun E σ H q => by
  obtain ⟨w, ρ, o, ok, ef, k⟩ := q
  cases ef
  exact k σ w H (.refl _ _) ok
theorem vs_one (h : VS1 X st s1) : VSs X [st] s1 := pss_one h
theorem vs_cons (h1 : VS1 X st s1) (h2 : VSs X rest s2) : VSs X (st :: rest) (sSeq s1 s2) := by
  refine weakSs (pss_cons h1 h2) fun E σ H q => ?_
  obtain ⟨w, ρ, o, ok, ef, k⟩ := q
  unfold sSeq at ef
  cases e1 : s1 ρ with
  | none => rw [e1] at ef; cases ef
  | some o1 =>
    rw [e1] at ef
    refine ⟨w, ρ, o1, ok, e1, ?_⟩
    cases o1 with
    | nx ρ1 => exact fun σ' w' H' f' ok' => ⟨w', ρ1, o, ok', ef, k.fr f'⟩
    | rt d ρ1 => cases ef; exact k
    | bk ρ1 => cases ef; exact k
    | ct ρ1 => cases ef; exact k
theorem vs_pass : VS1 X (.Pass pos) sNx := weakS ps_pass fun E σ H q => by
  obtain ⟨w, ρ, o, ok, ef, k⟩ := q
  cases ef
  exact k σ w H (.refl _ _) ok
theorem vs_bk : VS1 X (.Break pos) sBk := weakS ps_break fun E σ H q => by
  obtain ⟨w, ρ, o, ok, ef, k⟩ := q
  cases ef
  exact k σ w H (.refl _ _) ok
theorem vs_ct : VS1 X (.Continue pos) sCt := weakS ps_continue fun E σ H q => by
  obtain ⟨w, ρ, o, ok, ef, k⟩ := q
  cases ef
  exact k σ w H (.refl _ _) ok
theorem vs_no : VS1 X st sNo := weakS ps_never fun E σ H q => by
  obtain ⟨w, ρ, o, ok, ef, k⟩ := q
  cases ef
theorem vs_ex (h : VE X e f) (hs : swapsWith e none pos.line X.env = pure false := by rfl) : VS1 X (.Expr e pos) (sEx f) := by
  refine weakS (ps_expr h hs) fun E σ H q => ?_
  obtain ⟨w, ρ, o, ok, ef, k⟩ := q
  obtain ⟨⟨x, ρ1⟩, e1, e2⟩ := Option.map_eq_some_iff.mp ef
  cases e2
  exact ⟨w, ρ, x, ρ1, ok, e1, fun v w1 H1 f1 ok1 r1 => k σ w1 H1 f1 ok1⟩
theorem vs_rt (h : VE X e f) : VS1 X (.Return (some e) pos) (sRt f) := by
  refine weakS (ps_ret h) fun E σ H q => ?_
  obtain ⟨w, ρ, o, ok, ef, k⟩ := q
  obtain ⟨⟨x, ρ1⟩, e1, e2⟩ := Option.map_eq_some_iff.mp ef
  cases e2
  exact ⟨w, ρ, x, ρ1, ok, e1, fun v w1 H1 f1 ok1 r1 => k v σ w1 H1 f1 ok1 r1⟩
theorem vs_rtN : VS1 X (.Return none pos) sRtN := weakS ps_retN fun E σ H q => by
  obtain ⟨w, ρ, o, ok, ef, k⟩ := q
  cases ef
  exact k .non σ w H (.refl _ _) ok .non
theorem vs_if {c : Expr} {a b : List Stmt} {ca : FT} (hc : VT X c ca) (ha : VSs X a s1) (hb : VSs X b s2) : VS1 X (.If c a b pos) (sIf ca s1 s2) := by
  refine weakS (ps_if hc ha hb) fun E σ H q => ?_
  obtain ⟨w, ρ, o, ok, ef, k⟩ := q
  obtain ⟨⟨x, ρ1⟩, e1, e2⟩ := Option.bind_eq_some_iff.mp ef
  refine ⟨w, ρ, x, ρ1, ok, e1, fun w1 H1 f1 ok1 => ?_⟩
  cases x with
  | true => rw [if_pos rfl]; exact ⟨w1, ρ1, o, ok1, e2, k.fr f1⟩
  | false => rw [if_neg (by decide)]; exact ⟨w1, ρ1, o, ok1, e2, k.fr f1⟩
theorem vs_set {i : Nat} {x : Str} {pos' : Pos} (hN : X.N.Nodup) (hi : X.N[i]? = some x) (hx : Loc X.env.scope x) (h : VE X e f) (hs : swapsWith e (some (.Name x pos')) pos.line X.env = pure false := by rfl) (hf : X.fn x = true ∨ X.env.scope.names.lookup x = some .local := by first | exact .inl rfl | exact .inr rfl | assumption) :
    VS1 X (.Assign [.Name x pos'] e pos) (sSet i f) := by
  refine weakS (ps_set hN hi hx h hs hf) fun E σ H q => ?_
  obtain ⟨w, ρ, o, ok, ef, k⟩ := q
  obtain ⟨⟨d, ρ1⟩, e1, e2⟩ := Option.map_eq_some_iff.mp ef
  cases e2
  exact ⟨w, ρ, d, ρ1, ok, e1, fun v w1 H1 f1 ok1 r1 => k _ w1 H1 f1 (ok1.setS r1)⟩
theorem vs_setO {i : Nat} {x : Str} {pos' : Pos} (hN : X.N.Nodup) (hi : X.N[i]? = some x) (hx : Loc X.env.scope x) (h : VN X e f) (hs : swapsWith e (some (.Name x pos')) pos.line X.env = pure false := by rfl) (hf : X.fn x = true ∨ X.env.scope.names.lookup x = some .local := by first | exact .inl rfl | exact .inr rfl | assumption) :
    VS1 X (.Assign [.Name x pos'] e pos) (sSetO i f) := by
  refine weakS (ps_set hN hi hx h hs hf) fun E σ H q => ?_
  obtain ⟨w, ρ, o, ok, ef, k⟩ := q
  obtain ⟨⟨d, ρ1⟩, e1, e2⟩ := Option.map_eq_some_iff.mp ef
  cases e2
  refine ⟨w, ρ, d, ρ1, ok, e1, fun v w1 H1 f1 ok1 r1 => ?_⟩
  obtain ⟨w2, f2, ok2⟩ := r1.store i ok1 f1
  exact k _ w2 H1 f2 ok2
/-! ### targets -/
abbrev FG := D → En → Option En
def tGt (K : PySem.W.Frag) (us : List Nat) (fg : FG) : TG := fun v σ H Q => ∃ w ρ d ρ', EnvOk K w ρ σ H ∧ Rep K w.hs v d ∧ fg d ρ = some ρ' ∧ ∀ σ', wipe σ' us = wipe σ us → EnvOk K w ρ' σ' H → Q σ' H
abbrev VG (X : Cx) (tg : Expr) (us : List Nat) (fg : FG) : Prop := PG X tg (tGt X.K us fg)
def gN (i : Nat) : FG := fun d ρ => some (ρ.set i (.s d))
theorem weakG {tg : Expr} {t t' : TG} (h : PG X tg t) (k : ∀ v σ H Q, t' v σ H Q → t v σ H Q) : PG X tg t' := ⟨fun pins s σ H v u Q I r q => h.run pins s σ H v u Q I r (k v σ H Q q)⟩
theorem wipe_get {vs : List Nat} : ∀ {σ : L2.St} {i : Nat}, i ∉ vs → (wipe σ vs)[i]? = σ[i]? := by
  induction vs with
  | nil => intro σ i _; rfl
  | cons v vs ih =>
    intro σ i h
    unfold wipe
    rw [List.getElem?_set_ne (fun z => h (by rw [z]; exact List.mem_cons_self)), ih (fun z => h (List.mem_cons_of_mem _ z))]
theorem wipe_in {vs : List Nat} : ∀ {σ : L2.St} {i : Nat}, i ∈ vs → i < σ.length → (wipe σ vs)[i]? = some none := by
  induction vs with
  | nil => intro σ i h; cases h
  | cons v vs ih =>
    intro σ i h hl
    unfold wipe
    by_cases z : v = i
    · subst z; rw [List.getElem?_set_self (by rw [wipe_length]; exact hl)]
    · rw [List.getElem?_set_ne z]
      exact ih (by rcases List.mem_cons.mp h with q | q; exact absurd q.symm z; exact q) hl
theorem wipe_set {vs : List Nat} {σ : L2.St} {i : Nat} {v : Option V} (h : i ∈ vs) : wipe (σ.set i v) vs = wipe σ vs := by
  apply List.ext_getElem?
  intro j
  by_cases hj : j ∈ vs
  · by_cases hl : j < σ.length
    · rw [wipe_in hj hl, wipe_in hj (by rw [List.length_set]; exact hl)]
    · rw [List.getElem?_eq_none (by rw [wipe_length, List.length_set]; omega), List.getElem?_eq_none (by rw [wipe_length]; omega)]
  · rw [wipe_get hj, wipe_get hj, List.getElem?_set_ne (fun z => hj (by rw [← z]; exact h))]
theorem vg_name {i : Nat} {x : Str} {us : List Nat} (hu : i ∈ us) (h : PG X (.Name x pos) (gName i)) : VG X (.Name x pos) us (gN i) := by
  refine weakG h fun v σ H Q q => ?_
  obtain ⟨w, ρ, d, ρ', ok, r, ef, k⟩ := q
  cases ef
  exact k _ (wipe_set hu) (ok.setS r)
/-- several targets -/
abbrev FGs := List D → En → Option En
def tGts (K : PySem.W.Frag) (us : List Nat) (fg : FGs) : TGs := fun vs σ H Q => ∃ w ρ ds ρ', EnvOk K w ρ σ H ∧ RepAll K w.hs vs ds ∧ fg ds ρ = some ρ' ∧ ∀ σ', wipe σ' us = wipe σ us → EnvOk K w ρ' σ' H → Q σ' H
abbrev VGs (X : Cx) (ts : List Expr) (us : List Nat) (fg : FGs) : Prop := PGs X ts (tGts X.K us fg)
def gNi : FGs := fun ds ρ => if ds.isEmpty then some ρ else none
def gCo (t : FG) (u : FGs) : FGs := fun ds ρ => match ds with
  | [] => none
  | d :: r => (t d ρ).bind fun ρ1 => u r ρ1
def gTu (n : Nat) (t : FGs) : FG := fun d ρ => match d with
  | .tup ds => if ds.length = n then t ds ρ else none
  | _ => none
theorem weakGs {ts : List Expr} {t t' : TGs} (h : PGs X ts t) (k : ∀ v σ H Q, t' v σ H Q → t v σ H Q) : PGs X ts t' := ⟨fun pins s σ H v u Q I r q => h.run pins s σ H v u Q I r (k v σ H Q q)⟩
theorem vgs_nil {us : List Nat} : VGs X [] us gNi := weakGs pgs_nil fun vs σ H Q q => by
  obtain ⟨w, ρ, ds, ρ', ok, r, ef, k⟩ := q
  unfold gNi at ef
  split at ef
  · rename_i hd
    cases ef
    cases r with
    | nil => exact ⟨rfl, k σ rfl ok⟩
    | cons => cases hd
  · cases ef
theorem vgs_cons {e : Expr} {es : List Expr} {t : FG} {u : FGs} {us : List Nat} (h1 : VG X e us t) (h2 : VGs X es us u)
    (hs : (assignEach (e :: es) X.env).map (·.2) = assign e X.env :: (assignEach es X.env).map (·.2) := by rfl) : VGs X (e :: es) us (gCo t u) := by
  refine weakGs (pgs_cons h1 h2 hs) fun vs σ H Q q => ?_
  obtain ⟨w, ρ, ds, ρ', ok, r, ef, k⟩ := q
  cases r with
  | nil => cases ef
  | cons r rr =>
    obtain ⟨ρ1, e1, e2⟩ := Option.bind_eq_some_iff.mp ef
    exact ⟨_, _, rfl, w, ρ, _, ρ1, ok, r, e1, fun σ1 w1 ok1 => ⟨w, ρ1, _, ρ', ok1, rr, e2, fun σ2 w2 ok2 => k σ2 (w2.trans w1) ok2⟩⟩
theorem vg_tup {es : List Expr} {k : Nat} {t : FGs} {n : Nat} {us : List Nat} (hc : X.calm = true) (h : VGs X es us t)
    (hn : (assignEach es X.env).length = n := by rfl) (hst : (assignEach es X.env).findIdx? (·.1) = none := by rfl) : VG X (.Tuple es k pos) us (gTu n t) := by
  refine weakG (pg_tup hc h hn hst) fun v σ H Q q => ?_
  obtain ⟨w, ρ, d, ρ', ok, r, ef, kk⟩ := q
  unfold gTu at ef
  split at ef
  · split at ef
    · rename_i hl
      cases r with
      | tup q l t => exact ⟨_, _, rfl, .of (ok.sub.tup q), by rw [t.length]; exact hl, w, ρ, _, ρ', ok, t, ef, kk⟩
    · cases ef
  · cases ef
/-- a = e by a target -/
def sAs (f : FE) (fg : FG) : FS := fun ρ => (f ρ).bind fun p => (fg p.1 p.2).map .nx
theorem vs_as {tg : Expr} {us : List Nat} {fg : FG} (h : VE X e f) (hg : VG X tg us fg) (hs : swapsWithSole [tg] e pos.line X.env = pure false := by rfl) (hw : swappedStores [tg] e X.env = pure none := by rfl)
    (h1 : (assignEach [tg] X.env).map (·.2) = [assign tg X.env] := by rfl) : VS1 X (.Assign [tg] e pos) (sAs f fg) := by
  refine weakS (ps_asg h hg hs hw h1) fun E σ H q => ?_
  obtain ⟨w, ρ, o, ok, ef, k⟩ := q
  obtain ⟨⟨d, ρ1⟩, e1, e2⟩ := Option.bind_eq_some_iff.mp ef
  obtain ⟨ρ2, e3, e4⟩ := Option.map_eq_some_iff.mp e2
  cases e4
  exact ⟨w, ρ, d, ρ1, ok, e1, fun v w1 H1 f1 ok1 r1 => ⟨w1, ρ1, d, ρ2, ok1, r1, e3, fun σ' _ ok2 => k σ' w1 H1 f1 ok2⟩⟩
end
/-! ### for -/
abbrev FI := En → Option (List D × En)
def Ity (K : PySem.W.Frag) (J : It) (w : Wd) (ds : List D) : Prop := ∃ (G : Hp → Prop) (Y : Nat → Hp → V → Hp → Prop), Walk J ds.length G Y ∧ (∀ H, Sub w.hs H → G H) ∧
  ∀ i H x H' d, Y i H x H' → ds[i]? = some d → (H' = H ∧ Rep K w.hs x d) ∨ ∃ T xs ds', x = .ref T ∧ H T = none ∧ H' = upd H T (.tup xs) ∧ xs.length ≤ sizeLine ∧ RepAll K w.hs xs ds' ∧ d = .tup ds'
def tIt (K : PySem.W.Frag) (f : FI) : TI := fun σ H R => ∃ w ρ ds ρ', EnvOk K w ρ σ H ∧ f ρ = some (ds, ρ') ∧ ∀ J w' H', Fr w H w' H' → EnvOk K w' ρ' σ H' → Ity K J w' ds → R J H'
abbrev VI (X : Cx) (tg e : Expr) (f : FI) : Prop := PI X tg e (tIt X.K f)
theorem Ity.yield {K : PySem.W.Frag} {w0 w : Wd} {ρ : En} {σ : L2.St} {ds : List D} {i : Nat} {H H' : Hp} {x : V} {d : D} (ok : EnvOk K w ρ σ H) (sm : Same w0.hs w.hs)
    (h : (H' = H ∧ Rep K w0.hs x d) ∨ ∃ T xs ds', x = .ref T ∧ H T = none ∧ H' = upd H T (.tup xs) ∧ xs.length ≤ sizeLine ∧ RepAll K w0.hs xs ds' ∧ d = .tup ds') : ∃ w', Fr w H w' H' ∧ EnvOk K w' ρ σ H' ∧ Rep K w'.hs x d := by
  rcases h with ⟨rfl, r⟩ | ⟨T, xs, ds', rfl, hT, rfl, hl, r, rfl⟩
  · exact ⟨w, .refl _ _, ok, r.mono (.of sm)⟩
  · obtain ⟨f1, ok1, sm1⟩ := ok.new (o := .tup xs) hT
    exact ⟨_, f1, ok1, .tup upd_same hl (r.mono (.of (sm.trans sm1)))⟩
def forL (tg : FG) (b : FS) : List D → En → Option Out
  | [], ρ => some (.nx ρ)
  | x :: xs, ρ => (tg x ρ).bind fun ρ1 => match b ρ1 with
    | some (.nx ρ2) => forL tg b xs ρ2
    | some (.ct ρ2) => forL tg b xs ρ2
    | some (.bk ρ2) => some (.nx ρ2)
    | some (.rt d ρ2) => some (.rt d ρ2)
    | none => none
def sFor (it : FI) (tg : FG) (b : FS) : FS := fun ρ => (it ρ).bind fun p => forL tg b p.1 p.2
section
variable {X : Cx} {tg iter : Expr} {body : List Stmt} {pos : Pos} {fi : FI} {fg : FG} {fb : FS} {us : List Nat}
theorem vs_for (hc : X.calm = true) (hp : PassesOwn (model X.prog X.w) X.A X.env X.xe) (hi : VI X tg iter fi) (hg : VG X tg us fg) (hb : VSs X body fb) (hs : ∀ x, foldedSetIterable iter X.env x = pure x := by intro _; rfl) : VS1 X (.For tg iter body [] pos) (sFor fi fg fb) := by
  refine weakS (ps_for hp hc hi hg hb hs) fun E σ H q => ?_
  obtain ⟨w, ρ, o, ok, ef, k⟩ := q
  obtain ⟨⟨ds, ρ1⟩, e1, e2⟩ := Option.bind_eq_some_iff.mp ef
  refine ⟨w, ρ, ds, ρ1, ok, e1, fun J w1 H1 f1 ok1 it => ?_⟩
  obtain ⟨G, Y, wk, hG, hY⟩ := it
  have k1 := k.fr f1
  refine for_it wk (fun i σ' H' => ∃ w' ρ', Fr w1 H1 w' H' ∧ EnvOk X.K w' ρ' σ' H' ∧ forL fg fb (ds.drop i) ρ' = some o) ⟨w1, ρ1, .refl _ _, ok1, e2⟩ (fun i σ' H' _ h => ?_) (fun i x σ' H' H'' hi' h y => ?_) fun σ' H' h => ?_
  · obtain ⟨w', ρ', f', ok', _⟩ := h
    exact hG _ fun a o q => ok'.sub a o (f'.sh a o q)
  · obtain ⟨w', ρ', f', ok', e'⟩ := h
    have hd : ds[i]? = some ds[i] := List.getElem?_eq_getElem hi'
    obtain ⟨w2, f2, ok2, r2⟩ := Ity.yield (ds := ds) (i := i) ok' f'.sh (hY i H' x H'' _ y hd)
    rw [List.drop_eq_getElem_cons hi'] at e'
    obtain ⟨ρ3, e3, e4⟩ := Option.bind_eq_some_iff.mp e'
    refine ⟨w2, ρ', ds[i], ρ3, ok2, r2, e3, fun σ3 _ ok3 => ?_⟩
    cases eb : fb ρ3 with
    | none => rw [eb] at e4; cases e4
    | some ob =>
      rw [eb] at e4
      refine ⟨w2, ρ3, ob, ok3, eb, ?_⟩
      have k2 := k1.fr (f'.trans f2)
      cases ob with
      | nx ρ4 => exact fun σ4 w4 H4 f4 ok4 => ⟨w4, ρ4, f'.trans (f2.trans f4), ok4, e4⟩
      | ct ρ4 => exact fun σ4 w4 H4 f4 ok4 => ⟨w4, ρ4, f'.trans (f2.trans f4), ok4, e4⟩
      | bk ρ4 => cases e4; exact fun σ4 w4 H4 f4 ok4 => k2 σ4 w4 H4 f4 ok4
      | rt d ρ4 => cases e4; exact fun v σ4 w4 H4 f4 ok4 r4 => k2 v σ4 w4 H4 f4 ok4 r4
  · obtain ⟨w', ρ', f', ok', e'⟩ := h
    rw [List.drop_length] at e'
    cases e'
    exact k1 σ' w' H' f' ok'
/-! ### while -/
def whL (c : FT) (b : FS) : Nat → En → Option Out
  | 0, _ => none
  | n + 1, ρ => (c ρ).bind fun p => if p.1 then match b p.2 with
      | some (.nx ρ2) => whL c b n ρ2
      | some (.ct ρ2) => whL c b n ρ2
      | some (.bk ρ2) => some (.nx ρ2)
      | some (.rt d ρ2) => some (.rt d ρ2)
      | none => none
    else some (.nx p.2)
def sWh (n : Nat) (c : FT) (b : FS) : FS := whL c b n
theorem vs_while {n : Nat} {c : Expr} {ca : FT} (hp : PassesOwn (model X.prog X.w) X.A X.env X.xe) (hc : VT X c ca) (hb : VSs X body fb) : VS1 X (.While c body [] pos) (sWh n ca fb) := by
  refine weakS (ps_while hp hc hb) fun E σ H q => ?_
  obtain ⟨w, ρ, o, ok, ef, k⟩ := q
  refine ⟨fun m σ' H' => ∃ w' ρ', Fr w H w' H' ∧ EnvOk X.K w' ρ' σ' H' ∧ whL ca fb m ρ' = some o, ⟨n, w, ρ, .refl _ _, ok, ef⟩, ?_⟩
  rintro m σ' H' ⟨w', ρ', f', ok', e'⟩
  cases m with
  | zero => cases e'
  | succ m =>
    obtain ⟨⟨b, ρ1⟩, e1, e2⟩ := Option.bind_eq_some_iff.mp e'
    refine ⟨w', ρ', b, ρ1, ok', e1, fun w1 H1 f1 ok1 => ?_⟩
    have k1 := k.fr (f'.trans f1)
    cases b with
    | false =>
      refine i_if0 ?_
      rw [if_neg Bool.false_ne_true] at e2
      cases e2
      exact k1 σ' w1 H1 (.refl _ _) ok1
    | true =>
      refine i_it ?_
      rw [if_pos rfl] at e2
      cases eb : fb ρ1 with
      | none => rw [show fb (true, ρ1).2 = none from eb] at e2; cases e2
      | some ob =>
        rw [show fb (true, ρ1).2 = some ob from eb] at e2
        refine ⟨fun σ4 H4 => ∃ w4 ρ4, Fr w H w4 H4 ∧ EnvOk X.K w4 ρ4 σ4 H4 ∧ whL ca fb m ρ4 = some o, fun σ4 H4 h => ⟨m, Nat.lt_succ_self m, h⟩, w1, ρ1, ob, ok1, eb, ?_⟩
        cases ob with
        | nx ρ4 => exact fun σ4 w4 H4 f4 ok4 => ⟨w4, ρ4, f'.trans (f1.trans f4), ok4, e2⟩
        | ct ρ4 => exact fun σ4 w4 H4 f4 ok4 => ⟨w4, ρ4, f'.trans (f1.trans f4), ok4, e2⟩
        | bk ρ4 => cases e2; exact fun σ4 w4 H4 f4 ok4 => k1 σ4 w4 H4 f4 ok4
        | rt d ρ4 => cases e2; exact fun v σ4 w4 H4 f4 ok4 r4 => k1 v σ4 w4 H4 f4 ok4 r4
end
end VS
set_option autoImplicit false
namespace VS
open PySem PySem.Spec PyProof.Rows L2 AR
/-! ### slots forgotten -/
def wipeE (ρ : En) : List Nat → En
  | [] => ρ
  | v :: vs => (wipeE ρ vs).set v .u
theorem wipeE_length (ρ : En) : ∀ vs : List Nat, (wipeE ρ vs).length = ρ.length
  | [] => rfl
  | v :: vs => by unfold wipeE; rw [List.length_set, wipeE_length ρ vs]
theorem wipeE_get {vs : List Nat} : ∀ {ρ : En} {i : Nat}, i ∉ vs → (wipeE ρ vs)[i]? = ρ[i]? := by
  induction vs with
  | nil => intro ρ i _; rfl
  | cons v vs ih =>
    intro ρ i h
    unfold wipeE
    rw [List.getElem?_set_ne (fun z => h (by rw [z]; exact List.mem_cons_self)), ih (fun z => h (List.mem_cons_of_mem _ z))]
theorem wipeE_in {vs : List Nat} : ∀ {ρ : En} {i : Nat}, i ∈ vs → i < ρ.length → (wipeE ρ vs)[i]? = some .u := by
  induction vs with
  | nil => intro ρ i h; cases h
  | cons v vs ih =>
    intro ρ i h hl
    unfold wipeE
    by_cases z : v = i
    · subst z; rw [List.getElem?_set_self (by rw [wipeE_length]; exact hl)]
    · rw [List.getElem?_set_ne z]
      exact ih (by rcases List.mem_cons.mp h with q | q; exact absurd q.symm z; exact q) hl
theorem wipeE_nin {vs : List Nat} {ρ : En} {i : Nat} {x : Sl} (h : (wipeE ρ vs)[i]? = some x) (hx : x ≠ .u) : i ∉ vs ∧ ρ[i]? = some x := by
  by_cases z : i ∈ vs
  · by_cases hl : i < ρ.length
    · rw [wipeE_in z hl] at h; injection h with h; exact absurd h.symm hx
    · rw [List.getElem?_eq_none (by rw [wipeE_length]; omega)] at h; cases h
  · rw [wipeE_get z] at h; exact ⟨z, h⟩
theorem wipe_wipe {σ : L2.St} {vs : List Nat} : wipe (wipe σ vs) vs = wipe σ vs := by
  apply List.ext_getElem?
  intro j
  by_cases hj : j ∈ vs
  · by_cases hl : j < σ.length
    · rw [wipe_in hj hl, wipe_in hj (by rw [wipe_length]; exact hl)]
    · rw [List.getElem?_eq_none (by rw [wipe_length, wipe_length]; omega), List.getElem?_eq_none (by rw [wipe_length]; omega)]
  · rw [wipe_get hj]
section
variable {K : PySem.W.Frag} {w w0 : Wd} {ρ : En} {σ σ' : L2.St} {H H0 : Hp} {us : List Nat}
theorem EnvOk.wipe (e : EnvOk K w ρ σ' H) (h : wipe σ' us = wipe σ us) : EnvOk K w (wipeE ρ us) σ H := by
  have hl : σ'.length = σ.length := by rw [← wipe_length σ' us, h, wipe_length]
  have hg : ∀ i, i ∉ us → σ[i]? = σ'[i]? := fun i hi => by rw [← wipe_get (σ := σ) hi, ← h, wipe_get hi]
  refine ⟨e.sub, e.disj, e.live, by rw [wipeE_length, e.len, hl], fun i d q => ?_, fun i d q => ?_, e.tups⟩
  · obtain ⟨n, q'⟩ := wipeE_nin q (fun z => nomatch z)
    obtain ⟨v, h1, h2⟩ := e.sh i d q'
    exact ⟨v, by rw [hg i n]; exact h1, h2⟩
  · obtain ⟨n, q'⟩ := wipeE_nin q (fun z => nomatch z)
    obtain ⟨v, h1, h2⟩ := e.ow i d q'
    exact ⟨v, by rw [hg i n]; exact h1, h2⟩
theorem wipeE_wipeE : wipeE (wipeE ρ us) us = wipeE ρ us := by
  apply List.ext_getElem?
  intro j
  by_cases hj : j ∈ us
  · by_cases hl : j < ρ.length
    · rw [wipeE_in hj hl, wipeE_in hj (by rw [wipeE_length]; exact hl)]
    · rw [List.getElem?_eq_none (by rw [wipeE_length, wipeE_length]; omega), List.getElem?_eq_none (by rw [wipeE_length]; omega)]
  · rw [wipeE_get hj]
/-- a thing that is nobody's changes -/
theorem EnvOk.chg {p : Addr} {o o' : HO} (e : EnvOk K w ρ σ H) (h : H p = some o) (h1 : w.own p = none) (h2 : w.hs p = none) (nt : NT o') : EnvOk K w ρ σ (upd H p o') := by
  refine e.keep (Same.refl _) (fun a u q => ?_) rfl ⟨rfl, rfl⟩ e.disj (fun a i q => ?_) fun a xs q => ?_
  · have ne : a ≠ p := fun z => by subst z; rw [h2] at q; cases q
    rw [upd_ne ne]
    exact e.sub a u q
  · have ne : a ≠ p := fun z => by subst z; rw [h1] at q; cases q
    exact upd_ne ne
  · by_cases z : a = p
    · subst z; rw [upd_same] at q; cases q; exact absurd rfl (nt xs)
    · rw [upd_ne z] at q; exact e.tups a xs q
theorem Fr.chg {p : Addr} {o : HO} (f : Fr w0 H0 w H) (h : H0 p = none) : Fr w0 H0 w (upd H p o) :=
  ⟨f.sh, fun a u q n => by
    obtain ⟨k1, k2, k3⟩ := f.kp a u q n
    exact ⟨by rw [upd_ne (ne_of_none q h)]; exact k1, k2, k3⟩, fun a u q => by
    rw [upd_ne (ne_of_none q h)]; exact f.lv a u q, f.me⟩
end
/-! ### [elt for target in iter if test] -/
def cYes : FT := fun ρ => some (true, ρ)
abbrev VTs (X : Cx) (ifs : List Expr) (f : FT) : Prop := PTs X ifs (tTb X.K f)
theorem vts_nil {X : Cx} : VTs X [] cYes := ⟨fun pins s σ H Q I q => by
  obtain ⟨w, ρ, b, ρ', ok, ef, k⟩ := q
  cases ef
  exact pts_nil.run pins s σ H Q I (k w H (.refl _ _) ok)⟩
theorem vts_one {X : Cx} {c : Expr} {f : FT} (h : VT X c f) : VTs X [c] f := pts_one h
def lcL (us : List Nat) (fg : FG) (fc : FT) (fe : FE) : List D → En → Option (List D × En)
  | [], ρ => some ([], ρ)
  | x :: xs, ρ => (fg x (wipeE ρ us)).bind fun ρ1 => (fc ρ1).bind fun p => if p.1 then (fe p.2).bind fun q => (lcL us fg fc fe xs q.2).map fun r => (q.1 :: r.1, r.2) else lcL us fg fc fe xs p.2
def fLC (us : List Nat) (fi : FI) (fg : FG) (fc : FT) (fe : FE) : FE := fun ρ => (fi ρ).bind fun p => (lcL us fg fc fe p.1 p.2).bind fun q => (mkL q.1).map fun d => (d, wipeE q.2 us)
section
variable {K : PySem.W.Frag} {us : List Nat} {fi : FI} {fg : FG} {fc : FT} {fe : FE}
theorem lc_read {σ : L2.St} {H : Hp} {Q : VK} (q : tN K (fLC us fi fg fc fe) σ H Q) : tLc (tIt K fi) (tGt K us fg) (tTb K fc) (tV K fe) us σ H Q := by
  obtain ⟨w, ρ, d, ρ', ok, ef, k⟩ := q
  obtain ⟨⟨ds, ρ1⟩, e1, e2⟩ := Option.bind_eq_some_iff.mp ef
  obtain ⟨⟨ts, ρ2⟩, e3, e4⟩ := Option.bind_eq_some_iff.mp e2
  obtain ⟨d', e5, e6⟩ := Option.map_eq_some_iff.mp e4
  cases e6
  unfold mkL at e5
  split at e5
  case isFalse => cases e5
  rename_i hl
  have ed : D.lst ts = d := Option.some.inj e5
  subst ed
  refine ⟨w, ρ, ds, ρ1, ok, e1, fun J w1 H1 f1 ok1 it => ?_⟩
  obtain ⟨G, Y, wk, hG, hY⟩ := it
  intro A hA
  obtain ⟨hA1, hA2⟩ := ok1.free hA
  refine lc_it wk (Qd := fun H' => Q (.ref A) H') (fun i H' => ∃ w' ρ' acc dacc rest, Fr w1 H1 w' H' ∧ EnvOk K w' (wipeE ρ' us) (wipe σ us) H' ∧ H' A = some (.lst acc) ∧ RepAll K w'.hs acc dacc ∧ w'.own A = none ∧ w'.hs A = none ∧ lcL us fg fc fe (ds.drop i) ρ' = some (rest, ρ2) ∧ ts = dacc ++ rest) ?_ (fun i H' _ h => ?_) (fun i x H' H'' hi h y => ?_) fun H' h => ?_
  · obtain ⟨f2, ok2⟩ := ok1.tmp (o := .lst []) hA (fun _ z => nomatch z)
    exact ⟨w1, ρ1, [], [], ts, f2, (ok2.wipe (us := us) (σ := σ) rfl).wipe wipe_wipe.symm |> (fun z => by rw [wipeE_wipeE] at z; exact z), upd_same, .nil, hA2, hA1, e3, rfl⟩
  · obtain ⟨w', ρ', acc, dacc, rest, f', ok', _⟩ := h
    exact hG _ fun a o q => ok'.sub a o (f'.sh a o q)
  · obtain ⟨w', ρ', acc, dacc, rest, f', ok', hD, hr, ho, hh, el, et⟩ := h
    have hd : ds[i]? = some ds[i] := List.getElem?_eq_getElem hi
    obtain ⟨w2, f2, ok2, r2⟩ := Ity.yield (ds := ds) (i := i) ok' f'.sh (hY i H' x H'' _ y hd)
    rw [List.drop_eq_getElem_cons hi] at el
    obtain ⟨ρ3, e7, e8⟩ := Option.bind_eq_some_iff.mp el
    obtain ⟨⟨b, ρ4⟩, e9, e10⟩ := Option.bind_eq_some_iff.mp e8
    refine ⟨w2, wipeE ρ' us, ds[i], ρ3, ok2, r2, e7, fun σ3 hw ok3 => ⟨hw.trans wipe_wipe, w2, ρ3, b, ρ4, ok3, e9, fun w4 H4 f4 ok4 => ?_⟩⟩
    rw [wipe_wipe] at hw
    have f24 := f2.trans f4
    obtain ⟨hD4, ho4, hh4⟩ := f24.kp A _ hD ho
    have hr4 := hr.mono (.of f24.sh)
    cases b with
    | false =>
      refine i_if0 ?_
      have e10' : lcL us fg fc fe (ds.drop (i + 1)) ρ4 = some (rest, ρ2) := e10
      exact ⟨w4, ρ4, acc, dacc, rest, f'.trans f24, ok4.wipe (by rw [hw, wipe_wipe]), hD4, hr4, ho4, hh4 hh, e10', et⟩
    | true =>
      refine i_it ?_
      obtain ⟨⟨z, ρ5⟩, e11, e12⟩ := Option.bind_eq_some_iff.mp (show (fe ρ4).bind _ = some (rest, ρ2) from e10)
      obtain ⟨⟨rs, ρ6⟩, e13, e14⟩ := Option.map_eq_some_iff.mp e12
      cases e14
      refine ⟨w4, ρ4, z, ρ5, ok4, e11, fun v w5 H5 f5 ok5 r5 => ?_⟩
      obtain ⟨hD5, ho5, hh5⟩ := f5.kp A _ hD4 ho4
      have hr5 := hr4.mono (.of f5.sh)
      have hlen : acc.length < sizeLine := by
        have e1' := hr5.length
        rw [et, List.length_append, List.length_cons] at hl
        omega
      refine ⟨acc, hD5, hlen, w5, ρ5, acc ++ [v], dacc ++ [z], rs, ((f'.trans f24).trans f5).chg hA, (ok5.wipe (us := us) (σ := wipe σ us) (by rw [hw, wipe_wipe])).chg hD5 ho5 (hh5 (hh4 hh)) (fun _ z => nomatch z), upd_same, hr5.append (.one r5), ho5, hh5 (hh4 hh), e13, by rw [et]; simp⟩
  · obtain ⟨w', ρ', acc, dacc, rest, f', ok', hD, hr, ho, hh, el, et⟩ := h
    rw [List.drop_length] at el
    cases el
    rw [List.append_nil] at et
    subst et
    exact k _ w' H' (f1.trans f') (ok'.wipe wipe_wipe |> fun z => by rw [wipeE_wipeE] at z; exact z) (.lst (f1.free hA) ho hh hD (by rw [hr.length]; exact hl) hr)
theorem fLC_nb : ∀ ρ d ρ', fLC us fi fg fc fe ρ = some (d, ρ') → d.isBox = false := fun ρ d ρ' h => by
  obtain ⟨⟨ds, ρ1⟩, e1, e2⟩ := Option.bind_eq_some_iff.mp h
  obtain ⟨⟨ts, ρ2⟩, e3, e4⟩ := Option.bind_eq_some_iff.mp e2
  obtain ⟨d', e5, e6⟩ := Option.map_eq_some_iff.mp e4
  cases e6
  unfold mkL at e5
  split at e5
  · cases e5; rfl
  · cases e5
end
section
variable {X : Cx} {elt tg iter : Expr} {ifs : List Expr} {scope : Scope} {own : List (Str × Nat)} {pos : Pos} {fi : FI} {fg : FG} {fc : FT} {fe : FE} {us : List Nat}
theorem vn_lc (hc : X.calm = true) (hN : X.N.Nodup) (hu : own.map (·.2) = us) (hi : VI X tg iter fi) (ok : BlkOk X.N X.env.scope scope own)
    (hg : ∀ (s : Shared) (H : Hp) (C : Addr) (cl : List (Str × Addr)) (fp : List Addr), VG (X.blk s H scope (compEnvC scope cl C X.env) fp) tg us fg) (ht : ∀ (s : Shared) (H : Hp) (C : Addr) (cl : List (Str × Addr)) (fp : List Addr), VTs (X.blk s H scope (compEnvC scope cl C X.env) fp) ifs fc)
    (he : ∀ (s : Shared) (H : Hp) (C : Addr) (cl : List (Str × Addr)) (fp : List Addr), VE (X.blk s H scope (compEnvC scope cl C X.env) fp) elt fe) (hs : ∀ x, foldedSetIterable iter X.env x = pure x := by intro _; rfl) :
    VN X (.ListComp elt [⟨tg, iter, ifs, 0⟩] scope pos) (fLC us fi fg fc fe) := by
  subst hu
  exact weakE (pe_lc (g := tGt X.K (own.map (·.2)) fg) (tt := tTb X.K fc) (te := tV X.K fe) hc hN hi ok hg ht he hs) fun σ H Q q => lc_read q
theorem ve_lc (hc : X.calm = true) (hN : X.N.Nodup) (hu : own.map (·.2) = us) (hi : VI X tg iter fi) (ok : BlkOk X.N X.env.scope scope own)
    (hg : ∀ (s : Shared) (H : Hp) (C : Addr) (cl : List (Str × Addr)) (fp : List Addr), VG (X.blk s H scope (compEnvC scope cl C X.env) fp) tg us fg) (ht : ∀ (s : Shared) (H : Hp) (C : Addr) (cl : List (Str × Addr)) (fp : List Addr), VTs (X.blk s H scope (compEnvC scope cl C X.env) fp) ifs fc)
    (he : ∀ (s : Shared) (H : Hp) (C : Addr) (cl : List (Str × Addr)) (fp : List Addr), VE (X.blk s H scope (compEnvC scope cl C X.env) fp) elt fe) (hs : ∀ x, foldedSetIterable iter X.env x = pure x := by intro _; rfl) :
    VE X (.ListComp elt [⟨tg, iter, ifs, 0⟩] scope pos) (fLC us fi fg fc fe) := VN.ve (vn_lc hc hN hu hi ok hg ht he hs) fLC_nb
/-- y = [..] -/
theorem vs_setLc {i : Nat} {y : Str} {py spos : Pos} (hc : X.calm = true) (hN : X.N.Nodup) (hu : own.map (·.2) = us) (hy : X.N[i]? = some y) (hyl : X.env.scope.names.lookup y = some .local)
    (hsw : swapsWith (.ListComp elt [⟨tg, iter, ifs, 0⟩] scope pos) (some (.Name y py)) spos.line X.env = pure true) (hi : VI X tg iter fi) (ok : BlkOk X.N X.env.scope scope own)
    (hg : ∀ (s : Shared) (H : Hp) (C : Addr) (cl : List (Str × Addr)) (fp : List Addr), VG (X.blk s H scope (compEnvC scope cl C X.env) fp) tg us fg) (ht : ∀ (s : Shared) (H : Hp) (C : Addr) (cl : List (Str × Addr)) (fp : List Addr), VTs (X.blk s H scope (compEnvC scope cl C X.env) fp) ifs fc)
    (he : ∀ (s : Shared) (H : Hp) (C : Addr) (cl : List (Str × Addr)) (fp : List Addr), VE (X.blk s H scope (compEnvC scope cl C X.env) fp) elt fe) (hs : ∀ x, foldedSetIterable iter X.env x = pure x := by intro _; rfl) :
    VS1 X (.Assign [.Name y py] (.ListComp elt [⟨tg, iter, ifs, 0⟩] scope pos) spos) (sSetO i (fLC us fi fg fc fe)) := by
  subst hu
  refine weakS (ps_setLc (g := tGt X.K (own.map (·.2)) fg) (tt := tTb X.K fc) (te := tV X.K fe) hc hN hy hyl hsw hi ok hg ht he hs) fun E σ H q => ?_
  obtain ⟨w, ρ, o, okE, ef, k⟩ := q
  obtain ⟨⟨d, ρ1⟩, e1, e2⟩ := Option.map_eq_some_iff.mp ef
  cases e2
  refine lc_read ⟨w, ρ, d, ρ1, okE, e1, fun v w1 H1 f1 ok1 r1 => ?_⟩
  obtain ⟨w2, f2, ok2⟩ := r1.store i ok1 f1
  exact k _ w2 H1 f2 ok2
end
end VS
set_option autoImplicit false
namespace VS
open PySem PySem.Spec PyProof.Rows L2 AR
open C8 (Cal Met Mak)
/-! ### defs -/
def startE (k : Nat) (ds : List D) : En := ds.map Sl.s ++ List.replicate (k - ds.length) .u
def fnD (n k : Nat) (body : FS) (ds : List D) : Option D := if ds.length = n then match body (startE k ds) with
  | some (.rt d _) => some d
  | some (.nx _) => some .non
  | _ => none
  else none
/-- every tuple is in the part -/
def AllT (hs H : Hp) : Prop := ∀ a xs, H a = some (.tup xs) → hs a = some (.tup xs)
/-- what a def of plain data promises -/
def spF (K : PySem.W.Frag) (n : Nat) (f : List D → Option D) : Sp := fun vs H Q _ => ∃ hs ds r, Sub hs H ∧ AllT hs H ∧ RepAll K hs vs ds ∧ ds.length = n ∧ f ds = some r ∧
  ∀ v hs' H', Same H H' → Same hs hs' → Sub hs' H' → AllT hs' H' → (∀ a o, H a = some o → hs a = none → hs' a = none) → Rep K hs' v r → Q v H'
section
variable {K : PySem.W.Frag}
theorem start_ok {N : List Str} {vs : List V} {ds : List D} {hs H : Hp} (s : Sub hs H) (tp : AllT hs H) (r : RepAll K hs vs ds) : EnvOk K ⟨hs, fun _ => none, 0, 0⟩ (startE N.length ds) (start N vs) H := by
  refine ⟨s, (fun _ _ h => nomatch h), (fun _ _ h => nomatch h), ?_, fun i d q => ?_, fun i d q => ?_, tp⟩
  · unfold startE L2.start
    rw [List.length_append, List.length_append, List.length_map, List.length_map, List.length_replicate, List.length_replicate, r.length]
  · unfold startE at q
    by_cases hi : i < ds.length
    · rw [List.getElem?_append_left (by rw [List.length_map]; exact hi), List.getElem?_map] at q
      obtain ⟨d', hd, e⟩ := Option.map_eq_some_iff.mp q
      injection e with e; subst e
      obtain ⟨v, hv, rv⟩ := r.get' i hd
      refine ⟨v, ?_, rv⟩
      unfold L2.start
      rw [List.getElem?_append_left (by rw [List.length_map, r.length]; exact hi), List.getElem?_map, hv]
      rfl
    · rw [List.getElem?_append_right (by rw [List.length_map]; omega)] at q
      have := List.mem_of_getElem? q
      rw [List.mem_replicate] at this
      exact nomatch this.2
  · unfold startE at q
    by_cases hi : i < ds.length
    · rw [List.getElem?_append_left (by rw [List.length_map]; exact hi), List.getElem?_map] at q
      obtain ⟨d', hd, e⟩ := Option.map_eq_some_iff.mp q
      cases e
    · rw [List.getElem?_append_right (by rw [List.length_map]; omega)] at q
      have := List.mem_of_getElem? q
      rw [List.mem_replicate] at this
      exact nomatch this.2
/-- the body of a def keeps its promise -/
theorem body_ok {N : List Str} {n : Nat} {body : FS} {vs : List V} {H : Hp} {Q : VK} {E : XK} (h : spF K n (fnD n N.length body) vs H Q E) : tSt K body { nx := fun _ H' => Q .non H', rt := Q } (start N vs) H := by
  obtain ⟨hs, ds, r, s, tp, rp, hl, ef, k⟩ := h
  unfold fnD at ef
  rw [if_pos hl] at ef
  cases eb : body (startE N.length ds) with
  | none => rw [eb] at ef; cases ef
  | some o =>
    rw [eb] at ef
    refine ⟨_, _, o, start_ok s tp rp, eb, ?_⟩
    have fin : ∀ v w' H', Fr ⟨hs, fun _ => none, 0, 0⟩ H w' H' → Sub w'.hs H' → AllT w'.hs H' → Rep K w'.hs v r → Q v H' := fun v w' H' f' s' t' r' =>
      k v w'.hs H' (fun a o q => (f'.kp a o q rfl).1) f'.sh s' t' (fun a o q z => (f'.kp a o q rfl).2.2 z) r'
    cases o with
    | nx ρ => cases ef; exact fun σ' w' H' f' ok' => fin _ w' H' f' ok'.sub ok'.tups .non
    | rt d ρ => cases ef; exact fun v σ' w' H' f' ok' r' => fin v w' H' f' ok'.sub ok'.tups r'
    | bk ρ => cases ef
    | ct ρ => cases ef
end
section
variable {P : Program} {w : World} {K : PySem.W.Frag} {mg : Str → Option Value} {base : Heap}
theorem GD.vcal {x : Str} {st : Stmt} {N ps : List Str} {k n kk : Nat} {body : FS} (G : GD K mg x st ps) (S : FnScope N ps (defScope st)) (hn : ps.length = n) (hkk : N.length = kk)
    (hbody : ∀ (f : Addr) (cdv : Value) (A : Around) (outer : List Env) (s : Shared) (H : Hp) (E : XK), Room k (A.deeper (envOfC x (defScope st) s.heap.objs.size f cdv)) →
      VSs (cxOf CX0 P w K mg base N x (defScope st) f cdv A outer s H E).nox (defBody st) body) : Cal P w K mg base (k + 1) x (spF K n (fnD n kk body)) [] := by
  subst hkk
  refine G.cal S (fun vs H Q E h => ?_) fun f cdv A outer s H vs Q E hr h => ⟨_, hbody f cdv A outer s H E hr, body_ok h⟩
  obtain ⟨hs, ds, r, s, tp, rp, hl, _⟩ := h
  rw [rp.length, hl, hn]
theorem MD.vmet {C : Addr} {m qual : Str} {st : Stmt} {N ps : List Str} {k n kk : Nat} {body : FS} (M : MD K C m qual st ps) (c : Cls K C) (S : FnScope N ps (defScope st)) (hn : ps.length = n) (hkk : N.length = kk)
    (hbody : ∀ (f : Addr) (cdv : Value) (A : Around) (outer : List Env) (s : Shared) (H : Hp) (E : XK), Room k (A.deeper (envOfC qual (defScope st) s.heap.objs.size f cdv)) →
      VSs (cxOf CX0 P w K mg base N qual (defScope st) f cdv A outer s H E).nox (defBody st) body) : Met P w K mg base (k + 1) C m (spF K n (fnD n kk body)) [] := by
  subst hkk
  refine M.met c S (fun vs H Q E h => ?_) fun f cdv A outer s H vs Q E hr h => ⟨_, hbody f cdv A outer s H E hr, body_ok h⟩
  obtain ⟨hs, ds, r, s, tp, rp, hl, _⟩ := h
  rw [rp.length, hl, hn]
end
/-! ### calls -/
section
variable {X : Cx} {e o : Expr} {es : List Expr} {ga : FA} {f : FE} {pos p apos : Pos} {x m : Str} {k j n kk : Nat} {body : FS} {C : Addr}
theorem fnD_len {n k : Nat} {body : FS} {ds : List D} {r : D} (h : fnD n k body ds = some r) : ds.length = n := by
  unfold fnD at h
  split at h
  · assumption
  · cases h
/-- a call of plain data -/
theorem call_ok {K : PySem.W.Frag} {w : Wd} {ρ : En} {σ : L2.St} {H : Hp} {vs : List V} {ds : List D} {d : D} {n : Nat} {fn : List D → Option D} {Q : VK} {E : XK} (ok : EnvOk K w ρ σ H) (r : RepAll K w.hs vs ds) (hl : ds.length = n) (ef : fn ds = some d)
    (k : ∀ v' w' H', Fr w H w' H' → EnvOk K w' ρ σ H' → Rep K w'.hs v' d → Q v' H') : spF K n fn vs H Q E := by
  refine ⟨w.hs, ds, d, ok.sub, ok.tups, r, hl, ef, fun v hs' H' s1 s2 s3 t3 s4 r' => ?_⟩
  refine k v ⟨hs', w.own, w.me, w.me2⟩ H' ⟨s2, fun a o q n => ⟨s1 a o q, n, fun z => s4 a o q z⟩, (fun a o q => ⟨o, s1 a o q⟩), rfl, rfl⟩ (ok.keep s2 s3 rfl ⟨rfl, rfl⟩ (fun a i q => ?_) (fun a i q => ?_) t3) r'
  · obtain ⟨o, ho⟩ := ok.live a i q
    exact s4 a o ho (ok.disj a i q)
  · obtain ⟨o, ho⟩ := ok.live a i q
    rw [s1 a o ho, ho]
theorem ve_call (c : Cal X.prog X.w X.K X.mg X.base k x (spF X.K n (fnD n kk body)) []) (hr : Room j X.A) (hk : k ≤ j) (hg : Gl X x) (ha : VA X (e :: es) ga)
    (hdb : (x == ("__debug__" : Str)) = false := by decide) (he : starEach (e :: es) X.env = (false, eval e X.env) :: starEach es X.env := by rfl) (hpl : (backTo pos (starEach es X.env)).any (·.1) = false := by rfl) :
    VE X (.Call (.Name x p) (e :: es) [] pos) (fAp (fnD n kk body) ga) := by
  refine ve_ap (es := es) (ι := Unit) (r := fun _ vs H Q => spF X.K n (fnD n kk body) (vs ++ []) H Q C8.E0) (fun _ => C8.pe_c c hr hk hg ha hdb he hpl) fun ds d ed => ⟨(), fun w ρ σ H vs Q ok r k => ?_⟩
  rw [List.append_nil]
  exact call_ok ok r (fnD_len ed) ed k
/-- a method of an instance -/
def methD (c m : Str) (fn : List D → Option D) (ds : List D) : Option D := match ds with
  | .ins c' ns vs :: r => if c' = c ∧ m ∉ ns then fn (.ins c' ns vs :: r) else none
  | _ => none
theorem methD_inv {c m : Str} {fn : List D → Option D} {d z : D} {r : List D} (h : methD c m fn (d :: r) = some z) : ∃ ns vs, d = .ins c ns vs ∧ m ∉ ns ∧ fn (d :: r) = some z := by
  cases d <;> try (cases h; done)
  rename_i c' ns vs
  have h' : (if c' = c ∧ m ∉ ns then fn (.ins c' ns vs :: r) else none) = some z := h
  by_cases q : c' = c ∧ m ∉ ns
  · rw [if_pos q] at h'
    obtain ⟨q1, q2⟩ := q
    subst q1
    exact ⟨ns, vs, rfl, q2, h'⟩
  · rw [if_neg q] at h'; cases h'
theorem lookup_none {fs : List (Str × V)} {m : Str} (h : m ∉ fs.map (·.1)) : fs.lookup m = none := by
  induction fs with
  | nil => rfl
  | cons p r ih =>
    obtain ⟨a, b⟩ := p
    rw [List.map_cons, List.mem_cons] at h
    have h1 : (m == a) = false := beq_eq_false_iff_ne.mpr fun z => h (.inl z)
    rw [List.lookup_cons, h1]
    exact ih fun z => h (.inr z)
theorem ve_meth {c : Str} {pl : Sem Bool} (hm : Met X.prog X.w X.K X.mg X.base k (He.ga X.K c) m (spF X.K n (fnD n kk body)) []) (hr : Room j X.A) (hk : k ≤ j) (ho : VE X o f) (ha : VA X (e :: es) ga)
    (hst : starEach (e :: es) X.env = (false, eval e X.env) :: starEach es X.env := by rfl) (hpl : (backTo pos (starEach es X.env)).any (·.1) = false := by rfl)
    (ht : eval (.Call (.Attribute o m apos) (e :: es) [] pos) X.env = (do
      let ov ← eval o X.env
      standAt apos.atName
      let (f, first) ← holding [ov] (getMethod ov m pl)
      callWith pos f first (backTo pos (starEach (e :: es) X.env)) (backToKw pos (keywordEach [] X.env))) := by rfl) :
    VE X (.Call (.Attribute o m apos) (e :: es) [] pos) (fAp (methD c m (fnD n kk body)) (aC f ga)) := by
  refine weakE (C8.pe_mt (pl := pl) hm hr hk ho ha hst hpl ht) fun σ H Q q => ?_
  obtain ⟨w, ρ, z, ρ', ok, ef, kq⟩ := q
  obtain ⟨⟨ds, ρ1⟩, e1, e2⟩ := Option.bind_eq_some_iff.mp ef
  obtain ⟨d2, e3, e4⟩ := Option.map_eq_some_iff.mp e2
  cases e4
  obtain ⟨⟨d0, ρ2⟩, e5, e6⟩ := Option.bind_eq_some_iff.mp e1
  obtain ⟨⟨dr, ρ3⟩, e7, e8⟩ := Option.map_eq_some_iff.mp e6
  cases e8
  refine ⟨w, ρ, d0, ρ2, ok, e5, fun v w1 H1 f1 ok1 r1 => ?_⟩
  obtain ⟨ns, vs, rfl, nm, e9⟩ := methD_inv e3
  cases r1 with
  | @ins a C dx c' fs ns vs h1 h2 h3 h4 =>
    subst h2
    refine ⟨a, dx, fs, rfl, ok1.sub.ins h1, lookup_none (by rw [← h3]; exact nm), w1, ρ2, dr, ρ3, ok1, e7, fun us w2 H2 f2 ok2 r2 => ?_⟩
    show spF X.K n (fnD n kk body) (V.ref a :: (us ++ [])) H2 Q _
    rw [List.append_nil]
    exact call_ok ok2 (.cons ((Rep.ins h1 rfl h3 h4).mono (.of f2.sh)) r2) (fnD_len e9) e9 fun v' w' H' f' ok' r' => kq v' w' H' (f1.trans (f2.trans f')) ok' r'
theorem ve_meth0 {c : Str} {pl : Sem Bool} (hm : Met X.prog X.w X.K X.mg X.base k (He.ga X.K c) m (spF X.K n (fnD n kk body)) []) (hr : Room j X.A) (hk : k ≤ j) (ho : VE X o f)
    (ht : eval (.Call (.Attribute o m apos) [] [] pos) X.env = (do
      let ov ← eval o X.env
      standAt apos.atName
      let (f, first) ← holding [ov] (getMethod ov m pl)
      callWith pos f first (backTo pos (starEach [] X.env)) (backToKw pos (keywordEach [] X.env))) := by rfl) :
    VE X (.Call (.Attribute o m apos) [] [] pos) (fAp (methD c m (fnD n kk body)) (aC f aN)) := by
  refine weakE (C8.pe_mt0 (pl := pl) hm hr hk ho ht) fun σ H Q q => ?_
  obtain ⟨w, ρ, z, ρ', ok, ef, kq⟩ := q
  obtain ⟨⟨ds, ρ1⟩, e1, e2⟩ := Option.bind_eq_some_iff.mp ef
  obtain ⟨d2, e3, e4⟩ := Option.map_eq_some_iff.mp e2
  cases e4
  obtain ⟨⟨d0, ρ2⟩, e5, e6⟩ := Option.bind_eq_some_iff.mp e1
  obtain ⟨⟨dr, ρ3⟩, e7, e8⟩ := Option.map_eq_some_iff.mp e6
  cases e8
  cases e7
  refine ⟨w, ρ, d0, ρ2, ok, e5, fun v w1 H1 f1 ok1 r1 => ?_⟩
  obtain ⟨ns, vs, rfl, nm, e9⟩ := methD_inv e3
  cases r1 with
  | @ins a C dx c' fs ns vs h1 h2 h3 h4 =>
    subst h2
    refine ⟨a, dx, fs, rfl, ok1.sub.ins h1, lookup_none (by rw [← h3]; exact nm), ?_⟩
    show spF X.K n (fnD n kk body) [V.ref a] H1 Q C8.E0
    exact call_ok ok1 (.cons (Rep.ins h1 rfl h3 h4) .nil) (fnD_len e9) e9 fun v' w' H' f' ok' r' => kq v' w' H' (f1.trans f') ok' r'
end
end VS
set_option autoImplicit false
namespace VS
open PySem PySem.Spec PyProof.Rows L2 AR
open C8 (Cal Met Mak)
/-! ### instances: __init__, self.x = e, o.x -/
/-- what an __init__ of plain data promises: self at x is its own -/
def spI (K : PySem.W.Frag) (c : Str) (n : Nat) (f : List D → Option D) : Sp := fun vs H Q _ => ∃ x dx vs', vs = .ref x :: vs' ∧ H x = some (.ins (He.ga K c) dx []) ∧ ∃ hs ds r, hs x = none ∧ Sub hs H ∧ AllT hs H ∧ RepAll K hs vs' ds ∧ ds.length = n ∧ f ds = some r ∧
  ∀ hs' H', (∀ a o, a ≠ x → H a = some o → H' a = some o) → (∃ o, H' x = some o) → Same hs hs' → Sub hs' H' → AllT hs' H' → (∀ a o, H a = some o → a ≠ x → hs a = none → hs' a = none) → Rep K hs' (.ref x) r → Q .non H'
def startI (c : Str) (k : Nat) (ds : List D) : En := Sl.o (.ins c [] []) :: (ds.map Sl.s ++ List.replicate (k - (ds.length + 1)) .u)
theorem get_map_s {ds : List D} {k i : Nat} {x : Sl} (q : (ds.map Sl.s ++ List.replicate k Sl.u)[i]? = some x) (hx : x ≠ .u) : i < ds.length ∧ ∃ d, ds[i]? = some d ∧ x = .s d := by
  by_cases hi : i < ds.length
  · rw [List.getElem?_append_left (by rw [List.length_map]; exact hi), List.getElem?_map] at q
    obtain ⟨d', hd, e⟩ := Option.map_eq_some_iff.mp q
    exact ⟨hi, d', hd, e.symm⟩
  · rw [List.getElem?_append_right (by rw [List.length_map]; omega)] at q
    have := List.mem_of_getElem? q
    rw [List.mem_replicate] at this
    exact absurd this.2 hx
section
variable {K : PySem.W.Frag}
theorem startI_ok {N : List Str} {c : Str} {x dx : Addr} {vs : List V} {ds : List D} {hs H : Hp} (h : H x = some (.ins (He.ga K c) dx [])) (hx : hs x = none) (s : Sub hs H) (tp : AllT hs H) (r : RepAll K hs vs ds) :
    EnvOk K ⟨hs, fun a => if a = x then some 0 else none, x, 0⟩ (startI c N.length ds) (L2.start N (.ref x :: vs)) H := by
  have own : ∀ a i, (if a = x then some 0 else none) = some i → a = x ∧ i = 0 := fun a i q => by
    by_cases z : a = x
    · rw [if_pos z] at q; injection q with q; exact ⟨z, q.symm⟩
    · rw [if_neg z] at q; cases q
  refine ⟨s, fun a i q => ?_, fun a i q => ?_, ?_, fun i d q => ?_, fun i d q => ?_, tp⟩
  · rw [(own a i q).1]; exact hx
  · rw [(own a i q).1]; exact ⟨_, h⟩
  · unfold startI L2.start
    simp only [List.length_cons, List.length_append, List.length_map, List.length_replicate, List.map_cons, List.cons_append]
    rw [r.length]
  · cases i with
    | zero => unfold startI at q; simp at q
    | succ i =>
      unfold startI at q
      rw [List.getElem?_cons_succ] at q
      obtain ⟨hi, d', hd, e⟩ := get_map_s q (fun z => nomatch z)
      injection e with e; subst e
      obtain ⟨v, hv, rv⟩ := r.get' i hd
      refine ⟨v, ?_, rv⟩
      unfold L2.start
      rw [List.map_cons, List.cons_append, List.getElem?_cons_succ, List.getElem?_append_left (by rw [List.length_map, r.length]; exact hi), List.getElem?_map, hv]
      rfl
  · cases i with
    | zero =>
      unfold startI at q
      have q' : d = .ins c [] [] := by simpa using q.symm
      subst q'
      exact ⟨.ref x, rfl, .ins rfl (by show (if x = x then some 0 else none) = some 0; rw [if_pos rfl]) h rfl rfl .nil⟩
    | succ i =>
      unfold startI at q
      rw [List.getElem?_cons_succ] at q
      obtain ⟨hi, d', hd, e⟩ := get_map_s q (fun z => nomatch z)
      cases e
/-- self behind the body -/
def selfD (ρ : En) : Option D := match ρ[0]? with
  | some (Sl.o (.ins c ns vs)) => some (.ins c ns vs)
  | _ => none
def iniD (c : Str) (n k : Nat) (body : FS) (ds : List D) : Option D := if ds.length = n then match body (startI c k ds) with
  | some (.rt .non ρ) => selfD ρ
  | some (.nx ρ) => selfD ρ
  | _ => none
  else none
theorem selfD_inv {ρ : En} {r : D} (h : selfD ρ = some r) : ρ[0]? = some (Sl.o r) ∧ ∃ c ns vs, r = .ins c ns vs := by
  unfold selfD at h
  split at h
  · rename_i e; cases h; exact ⟨e, _, _, _, rfl⟩
  · cases h
theorem init_ok {N : List Str} {c : Str} {n : Nat} {body : FS} {vs : List V} {H : Hp} {Q : VK} {E : XK} (h : spI K c n (iniD c n N.length body) vs H Q E) : tSt K body { nx := fun _ H' => Q .non H', rt := Q } (L2.start N vs) H := by
  obtain ⟨x, dx, vs', rfl, hx, hs, ds, r, hs0, s, tp, rp, hl, ef, k⟩ := h
  unfold iniD at ef
  rw [if_pos hl] at ef
  cases eb : body (startI c N.length ds) with
  | none => rw [eb] at ef; cases ef
  | some o =>
    rw [eb] at ef
    refine ⟨_, _, o, startI_ok hx hs0 s tp rp, eb, ?_⟩
    have fin : ∀ ρ' σ' w' H', selfD ρ' = some r → Fr ⟨hs, fun a => if a = x then some 0 else none, x, 0⟩ H w' H' → EnvOk K w' ρ' σ' H' → Q .non H' := fun ρ' σ' w' H' es f' ok' => by
      obtain ⟨e0, c', ns, us, rfl⟩ := selfD_inv es
      obtain ⟨v, hv, ro⟩ := ok'.ow 0 _ e0
      cases ro with
      | @ins a C dx' c'' fs ns' us' h1 h2 h3 h4 h5 h6 =>
        have ax : a = x := h1.trans f'.me.1
        subst ax
        have z0 := ok'.disj _ _ h2
        have sm : Same w'.hs (upd w'.hs a (.ins C dx' fs)) := AR.same_new z0
        have nn : ∀ b, b ≠ a → (if b = a then some 0 else none : Option Nat) = none := fun b hb => by rw [if_neg hb]
        refine k (upd w'.hs a (.ins C dx' fs)) H' (fun b o hb q => (f'.kp b o q (nn b hb)).1) ⟨_, h3⟩ (f'.sh.trans sm) (fun b o q => ?_) (fun b xs q => sm b _ (ok'.tups b xs q)) (fun b o q hb z => ?_) (.ins upd_same h4 h5 (h6.mono (.of sm)))
        · by_cases hb : b = a
          · subst hb; rw [upd_same] at q; cases q; exact .inl h3
          · rw [upd_ne hb] at q; exact ok'.sub b o q
        · rw [upd_ne hb]; exact (f'.kp b o q (nn b hb)).2.2 z
    cases o with
    | nx ρ => exact fun σ' w' H' f' ok' => fin ρ σ' w' H' ef f' ok'
    | rt d ρ =>
      cases d <;> try (cases ef; done)
      exact fun v σ' w' H' f' ok' r' => by cases r'; exact fin ρ σ' w' H' ef f' ok'
    | bk ρ => cases ef
    | ct ρ => cases ef
end
section
variable {X : Cx} {e o value : Expr} {es : List Expr} {ga : FA} {f g : FE} {pos pos' p apos : Pos} {x m : Str} {k j n kk : Nat} {body : FS} {C : Addr}
/-- o.f of an instance of one of the classes cs -/
def attrD (cs : List Str) (f : Str) : D → Option D
  | .ins c ns vs => if c ∈ cs then (ns.zip vs).lookup f else none
  | _ => none
theorem lookup_rep {K : PySem.W.Frag} {H : Hp} {f : Str} : ∀ {fs : List (Str × V)} {vs : List D} {d : D}, RepAll K H (fs.map (·.2)) vs → ((fs.map (·.1)).zip vs).lookup f = some d → ∃ v, fs.lookup f = some v ∧ Rep K H v d
  | [], _, _, .nil, h => by cases h
  | (a, b) :: fs, _ :: vs, d, .cons r t, h => by
    rw [List.map_cons, List.zip_cons_cons, List.lookup_cons] at h
    rw [List.lookup_cons]
    cases q : f == a with
    | true => rw [q] at h; cases h; exact ⟨b, rfl, r⟩
    | false => rw [q] at h; exact lookup_rep t h
theorem ve_attr {cs : List Str} {a : Str} (hc : ∀ c ∈ cs, Cls X.K (He.ga X.K c) ∧ NoAttr X.K (He.ga X.K c) a) (h : VP X e f) (hb : attributeBase e a X.env (eval e X.env) = eval e X.env) : VE X (.Attribute e a pos) (fU (attrD cs a) f) := by
  refine ve_unP (ι := Unit) (r := fun _ x H Q => ∃ p C dx fs v, x = .ref p ∧ H p = some (.ins C dx fs) ∧ Cls X.K C ∧ NoAttr X.K C a ∧ fs.lookup a = some v ∧ Q v H) (fun _ => pe_fld h hb) fun d d' ed => ⟨(), fun w ρ σ H v Q ok r k => ?_⟩
  cases r with
  | @ins p C dx c fs ns vs h1 h2 h3 h4 =>
    have ed' : (if c ∈ cs then (ns.zip vs).lookup a else none) = some d' := ed
    by_cases hm : c ∈ cs
    · rw [if_pos hm] at ed'
      subst h3
      obtain ⟨v, hv, rv⟩ := lookup_rep h4 ed'
      subst h2
      exact ⟨p, _, dx, fs, v, rfl, h1, (hc c hm).1, (hc c hm).2, hv, k v w H (.refl _ _) ok rv⟩
    · rw [if_neg hm] at ed'; cases ed'
  | _ => cases ed
/-- self.f = e -/
def putD (f : Str) (d : D) : List Str → List D → List Str × List D
  | n :: ns, v :: vs => if n = f then (n :: ns, d :: vs) else let r := putD f d ns vs; (n :: r.1, v :: r.2)
  | ns, vs => (ns ++ [f], vs ++ [d])
theorem putD_putF {K : PySem.W.Frag} {H : Hp} {f : Str} {y : V} {d : D} (r : Rep K H y d) : ∀ {fs : List (Str × V)} {vs : List D}, RepAll K H (fs.map (·.2)) vs →
    (putD f d (fs.map (·.1)) vs).1 = (putF f y fs).map (·.1) ∧ RepAll K H ((putF f y fs).map (·.2)) (putD f d (fs.map (·.1)) vs).2
  | [], _, .nil => ⟨rfl, .cons r .nil⟩
  | (g, x) :: fs, _ :: vs, .cons q t => by
    obtain ⟨h1, h2⟩ := putD_putF r (fs := fs) t
    unfold putF
    rw [List.map_cons]
    unfold putD
    by_cases hg : g = f
    · rw [if_pos hg, if_pos hg]; exact ⟨rfl, .cons r t⟩
    · rw [if_neg hg, if_neg hg]
      exact ⟨by show g :: _ = _; rw [h1]; rfl, .cons q h2⟩
def sFl (cs : List Str) (i : Nat) (a : Str) (f : FE) : FS := fun ρ => (f ρ).bind fun p => match p.2[i]? with
  | some (Sl.o (.ins c ns vs)) => if c ∈ cs ∧ ns.length < 1000 then some (.nx (p.2.set i (Sl.o (.ins c (putD a p.1 ns vs).1 (putD a p.1 ns vs).2)))) else none
  | _ => none
theorem vs_fld {cs : List Str} {i : Nat} {a : Str} (hc : ∀ c ∈ cs, Cls X.K (He.ga X.K c) ∧ NoAttr X.K (He.ga X.K c) a) (ho : PE X o (tVar i)) (hv : VE X value f) (hs : swapsWith value (some (.Attribute o a pos')) pos.line X.env = pure false) : VS1 X (.Assign [.Attribute o a pos'] value pos) (sFl cs i a f) := by
  refine weakS (ps_fld ho hv hs) fun E σ H q => ?_
  obtain ⟨w, ρ, ot, ok, ef, k⟩ := q
  obtain ⟨⟨d, ρ1⟩, e1, e2⟩ := Option.bind_eq_some_iff.mp ef
  refine ⟨w, ρ, d, ρ1, ok, e1, fun v w1 H1 f1 ok1 r1 => ?_⟩
  split at e2
  · rename_i c ns vs e3
    split at e2
    · rename_i hcn
      obtain ⟨hcm, hlen⟩ := hcn
      cases e2
      obtain ⟨u, hu, ro⟩ := ok1.ow i _ e3
      cases ro with
      | @ins p C dx c' fs ns' vs' h1 h2 h3 h4 h5 h6 =>
        subst h4 h5
        refine ⟨_, hu, p, _, dx, fs, rfl, h3, (hc c hcm).1, (hc c hcm).2, by rw [List.length_map] at hlen; exact hlen, ?_⟩
        obtain ⟨p1, p2⟩ := putD_putF (f := a) r1 h6
        obtain ⟨f2, ok2⟩ := ok1.mut (o := .ins (He.ga X.K c) dx (putF a v fs)) (d := .ins c (putD a d (fs.map (·.1)) vs).1 (putD a d (fs.map (·.1)) vs).2) h2 hu (.ins h1 h2 upd_same rfl p1 p2) (fun _ z => nomatch z)
        exact k σ w1 _ (f1.trans f2) ok2
    · cases e2
  · cases e2
theorem iniD_len {c : Str} {n k : Nat} {body : FS} {ds : List D} {r : D} (h : iniD c n k body ds = some r) : ds.length = n := by
  unfold iniD at h
  split at h
  · assumption
  · cases h
theorem ve_make {c : Str} (hm : Mak X.prog X.w X.K X.mg X.base k x (He.ga X.K c) (spI X.K c n (iniD c n kk body)) []) (hr : Room j X.A) (hk : k + 1 ≤ j) (hg : Gl X x) (ha : VA X (e :: es) ga)
    (hdb : (x == ("__debug__" : Str)) = false := by decide) (he : starEach (e :: es) X.env = (false, eval e X.env) :: starEach es X.env := by rfl) (hpl : (backTo pos (starEach es X.env)).any (·.1) = false := by rfl) :
    VE X (.Call (.Name x p) (e :: es) [] pos) (fAp (iniD c n kk body) ga) := by
  refine ve_ap (es := es) (ι := Unit) (r := fun _ vs H1 Q => ∀ x dx, H1 x = none → H1 dx = none → dx ≠ x →
    spI X.K c n (iniD c n kk body) (.ref x :: (vs ++ [])) (upd (upd H1 dx (.own x)) x (.ins (He.ga X.K c) dx [])) (fun v H2 => v = .non ∧ Q (.ref x) H2) C8.E0) (fun _ => C8.pe_mk hm hr hk hg ha hdb he hpl) fun ds d ed => ⟨(), fun w ρ σ H vs Q ok r k => ?_⟩
  intro y dx hy hdx ne
  obtain ⟨z1, z2⟩ := ok.free hy
  have old : ∀ a o, H a = some o → upd (upd H dx (.own y)) y (.ins (He.ga X.K c) dx []) a = some o := fun a o q => by
    rw [upd_ne (ne_of_none q hy), upd_ne (ne_of_none q hdx)]; exact q
  rw [List.append_nil]
  refine ⟨y, dx, vs, rfl, upd_same, w.hs, ds, d, z1, fun a o q => ?_, fun a xs q => ?_, r, iniD_len ed, ed, fun hs' H' s1 s2 s3 s4 t4 s5 r' => ⟨rfl, ?_⟩⟩
  · rcases ok.sub a o q with q' | ⟨n, ob, q'⟩
    · exact .inl (old a o q')
    · exact .inr ⟨n, ob, old a _ q'⟩
  · by_cases n1 : a = y
    · subst n1; rw [upd_same] at q; cases q
    · rw [upd_ne n1] at q
      by_cases n2 : a = dx
      · subst n2; rw [upd_same] at q; cases q
      · rw [upd_ne n2] at q; exact ok.tups a xs q
  · have ke : ∀ a o, H a = some o → H' a = some o := fun a o q => s1 a o (ne_of_none q hy) (old a o q)
    refine k _ ⟨hs', w.own, w.me, w.me2⟩ H' ⟨s3, fun a o q n => ⟨ke a o q, n, fun z => s5 a o (old a o q) (ne_of_none q hy) z⟩, (fun a o q => ⟨o, ke a o q⟩), rfl, rfl⟩ (ok.keep s3 s4 rfl ⟨rfl, rfl⟩ (fun a i q => ?_) (fun a i q => ?_) t4) r'
    · obtain ⟨o, ho⟩ := ok.live a i q
      exact s5 a o (old a o ho) (ne_of_none ho hy) (ok.disj a i q)
    · obtain ⟨o, ho⟩ := ok.live a i q
      rw [ke a o ho, ho]
end
section
variable {P : Program} {w : World} {K : PySem.W.Frag} {mg : Str → Option Value} {base : Heap}
theorem ID.vmak {x qual c : Str} {st : Stmt} {N ps : List Str} {k n kk : Nat} {body : FS} (M : ID K mg x (He.ga K c) qual st ps) (S : FnScope N ps (defScope st)) (hn : ps.length = n + 1) (hkk : N.length = kk)
    (hbody : ∀ (f : Addr) (cdv : Value) (A : Around) (outer : List Env) (s : Shared) (H : Hp) (E : XK), Room k (A.deeper (envOfC qual (defScope st) s.heap.objs.size f cdv)) →
      VSs (cxOf CX0 P w K mg base N qual (defScope st) f cdv A outer s H E).nox (defBody st) body) : Mak P w K mg base (k + 1) x (He.ga K c) (spI K c n (iniD c n kk body)) [] := by
  subst hkk
  refine M.mak S (fun vs H Q E h => ?_) fun f cdv A outer s H vs Q E hr h => ⟨_, hbody f cdv A outer s H E hr, init_ok h⟩
  obtain ⟨x, dx, vs', rfl, hx, hs, ds, r, hs0, s, tp, rp, hl, _⟩ := h
  rw [List.length_cons, rp.length, hl, hn]
end
end VS
namespace AR
open PySem PySem.Spec PyProof.Rows L2
section
variable (K : PySem.W.Frag) {X : Cx}
/-! ### an index, a length of what may be a list, a tuple, a text -/
def rIxA : R2 := fun x y H Q => rIxL K x y H Q ∨ rIxT K x y H Q ∨ rIxS x y H Q
theorem ix_anyK (hK : X.K = K := by rfl) : IxR X (rIxA K) := by
  subst hK
  intro value slice pins s σ H x y v u Q I rx ry h hs
  rcases h with h | h | h
  · exact ix_list value slice pins s σ H x y v u Q I rx ry h hs
  · exact ix_tup value slice pins s σ H x y v u Q I rx ry h hs
  · exact ix_str value slice pins s σ H x y v u Q I rx ry h hs
def rLenA : List V → Hp → VK → Prop := fun xs H Q => rLenQ K xs H Q ∨ rLenT xs H Q
theorem call_lenAK (hK : X.K = K := by rfl) : CallR X (.builtin "len") (rLenA K) := by
  intro pins s σ H xs us Q I r h
  rcases h with h | h
  · exact call_lenK K hK pins s σ H xs us Q I r h
  · exact call_lenT pins s σ H xs us Q I r h
/-! ### a list turned about, the step an expression -/
def tRevX (te ts : TE) : TE := fun σ H Q => te σ H fun x H1 => ts σ H1 fun i H2 => ∃ a xs, x = .ref a ∧ i = .int (-1) ∧ SqL K H2 a xs ∧ ∀ p, H2 p = none → Q (.ref p) (upd H2 p (.lst xs.reverse))
theorem pe_revX {e se : Expr} {te ts : TE} {p3 pos : Pos} (he : PE X e te) (hst : PE X se ts) (hK : X.K = K := by rfl) : PE X (.Subscript e (.Slice none none (some se) p3) pos) (tRevX K te ts) := by
  subst hK
  refine ⟨fun pins st σ H Q I h => ?_⟩
  refine Subscript_ (thn (he.run pins st σ H _ I h) fun v t1 ⟨x, H1, I1, r1, q1⟩ => ?_)
  refine wpAny_Slice (thn (po_none.run pins t1 σ H1 (fun o G => o = none ∧ G = H1) I1 ⟨rfl, rfl⟩) fun vl t2 ⟨l, G2, I2, pl, el, e2⟩ => ?_)
  subst el e2
  refine thn (po_none.run pins t2 σ G2 (fun o G => o = none ∧ G = G2) I2 ⟨rfl, rfl⟩) fun vu t3 ⟨u, G3, I3, pu, eu, e3⟩ => ?_
  subst eu e3
  rw [evalPart_some]
  refine thn (hst.run pins t3 σ G3 _ I3 q1) fun vs t4 ⟨i, H4, I4, ri, a, xs, ex, ei, hx, q⟩ => ?_
  subst ex ei
  cases r1
  obtain ⟨ti, rfl⟩ := ri
  have I5 : Inv X pins σ H4 { t4 with heap := t4.heap.push { cls := .type "slice", data := .fields #[vl, vu, .int (-1) ti] } } := I4.kept (t' := t4.toks) fun b ob q => Heap.get?_push_of_some _ q
  obtain ⟨its, r, ht, hz⟩ := I5.list hx
  have hlen := r.length
  show wpAny (model X.prog X.w) X.A (subscriptTail e (.Slice none none (some se) p3) (.ref a) (.ref t4.heap.objs.size)) (EP X pins σ Q) X.xe { t4 with heap := t4.heap.push { cls := .type "slice", data := .fields #[vl, vu, .int (-1) ti] } }
  refine tail_any (ops := [.ref a, .ref t4.heap.objs.size]) ht.isList.typeIs PySem.slot_list_getitem.lookup ?_ (by with_unfolding_all rfl)
  have ps : IsPart (.int (-1) ti) (some (-1)) := .int _ _
  refine wpAny_getItem_list_slice ht.isList (Heap.IsSliceOf.new _ vl vu (.int (-1) ti)) pl pu ps (by decide) ?_ (by rw [List.size_toArray]; omega)
  rw [PySem.W.krv_pick]
  refine ⟨.ref _, _, I5.laid (t' := t4.toks) (o := .lst xs.reverse) (fun b ob q => Heap.get?_push_of_some _ q) (Nat.le_refl _) ?_, rfl, q _ (I5.hok.fresh (Nat.le_refl _))⟩
  exact ⟨by rw [List.length_reverse]; exact hz, _, 0, r.reverse, Heap.get?_push_size _ rfl⟩
end
section
variable {X : Cx}
/-! ### {tuple: v} -/
def tDisp1 (tk tv : TE) : TE := fun σ H Q => ∀ p, H p = none → tk σ (upd H p (.dT [])) fun y H1 => tv σ H1 fun z H2 => ∃ a k, y = .ref a ∧ H2 a = some (.tup (k.map kV)) ∧ H2 p = some (.dT []) ∧ Q (.ref p) (upd H2 p (.dT [(k, z)]))
theorem pe_disp1 {ek ev : Expr} {tk tv : TE} {pos : Pos} (hu : X.A.units < cLine) (hk : PE X ek tk) (hv : PE X ev tv) : PE X (.Dict [some ek] [ev] pos) (tDisp1 tk tv) := by
  refine ⟨fun pins st σ H Q I q => ?_⟩
  have hn := I.hok.fresh (Nat.le_refl st.heap.objs.size)
  have I1 := I.laid (a := st.heap.objs.size) (o := .dT []) (h' := st.heap.push { cls := .type "dict", data := .dict #[] }) (t' := st.toks) (fun _ _ z => Heap.get?_push_of_some _ z) (Nat.le_refl _) (dt_empty st.heap I.big)
  rw [arm_eval_Dict, zip_pairTrees [some ek] [ev] X.env pos rfl rfl, dictDisplay_pairs _ (by simp [pairTrees]) (by simp [pairTrees])]
  refine wpAny_bind (wpAny_standAt (wpAny_bind (wpAny_subDictH (knd := tupleKind (mixKind X.prog X.w)) hu (by simp [pairTrees]) ?_)))
  refine pairTrees_cons_walk (thn (hk.run pins _ σ _ _ I1 (q _ hn)) fun kq t1 ⟨y, H1, J1, ry, q1⟩ => thn (hv.run pins t1 σ H1 _ J1 q1) fun vq t2 ⟨z, H2, J2, rz, a, k, ey, ha, hp, q2⟩ => pairTrees_nil_walk ?_)
  subst ey
  cases (show kq = Value.ref a from ry)
  obtain ⟨zz, hd, xs, rel, dd⟩ := dt_of J2.hok hp
  cases rel
  refine ⟨[(k, a, vq)], ⟨rfl, rfl, key_of J2.hok ha, trivial⟩, dd, fun h2 tk2 d2 same => wpAny_pure ⟨.ref st.heap.objs.size, _, ?_, rfl, q2⟩⟩
  obtain ⟨o, es, ep, g1, g2, g3, g4, _, g5⟩ := d2
  refine d_write J2 (by rw [hp]; exact True.intro) same ⟨o, g1⟩ ⟨by show 1 ≤ sizeLine; decide, hd, [(k, a, vq)], .cons ⟨rfl, ?_, rz⟩ .nil, o, es, ep, g1, g2, g3, ?_, by simp⟩
  · rw [upd_ne (ne_of ha hp (fun z => nomatch z))]
    exact ha
  · rw [g4]
    simp [storedAllH, storedH, atKey]
end
section
variable {K : PySem.W.Frag} {σ : L2.St} {H : Hp} {Q : VK} {D : Ends}
theorem i_revX {te ts : TE} (k : te σ H fun x H1 => ts σ H1 fun i H2 => ∃ a xs, x = .ref a ∧ i = .int (-1) ∧ SqL K H2 a xs ∧ ∀ p, H2 p = none → Q (.ref p) (upd H2 p (.lst xs.reverse))) : tRevX K te ts σ H Q := k
theorem i_disp1 {tk tv : TE} (k : ∀ p, H p = none → tk σ (upd H p (.dT [])) fun y H1 => tv σ H1 fun z H2 => ∃ a k, y = .ref a ∧ H2 a = some (.tup (k.map kV)) ∧ H2 p = some (.dT []) ∧ Q (.ref p) (upd H2 p (.dT [(k, z)]))) : tDisp1 tk tv σ H Q := k
theorem i_dNewT (k : ∀ p, H p = none → Q (.ref p) (upd H p (.dT []))) : tDNewT σ H Q := k
theorem i_par3 {i j l : Nat} {ta : TA} (k : ta σ H fun vs H1 => ∃ u v w, vs = [u, v, w] ∧ D.nx (((σ.set i (some u)).set j (some v)).set l (some w)) H1) : tPar3 i j l ta D σ H := k
end
end AR
set_option autoImplicit false
namespace VS
open PySem PySem.Spec PyProof.Rows L2 AR
/-! ### constants -/
theorem SG.of {x : Str} (h : (decide (x.length ≤ sizeLine) && PyData.strOk x) = true) : SG x := by
  rw [Bool.and_eq_true, decide_eq_true_eq] at h
  exact h
theorem SG.cps {x : Str} (g : SG x) : ∀ c ∈ x.cps.toList, c < 0x110000 := by
  have h := g.2
  unfold PyData.strOk at h
  rw [← Array.all_toList, List.all_eq_true] at h
  exact fun c hc => of_decide_eq_true (h c hc)
theorem SG.mk {x : Str} (hl : x.length ≤ sizeLine) (h : ∀ c ∈ x.cps.toList, c < 0x110000) : SG x := ⟨hl, by
  unfold PyData.strOk
  rw [← Array.all_toList, List.all_eq_true]
  exact fun c hc => decide_eq_true (h c hc)⟩
theorem SG.one {x : Str} (g : SG x) {c : Nat} (h : c ∈ x.cps.toList) : SG ⟨#[c]⟩ := .mk (by show 1 ≤ sizeLine; decide) fun d hd => by
  have : d = c := by simpa using hd
  subst this; exact g.cps d h
theorem SG.app {x y : Str} (g : SG x) (h : SG y) (hl : x.length + y.length ≤ sizeLine) : SG (x ++ y) := by
  have e : (x ++ y).cps.toList = x.cps.toList ++ y.cps.toList := TL.tl_append x y
  refine .mk ?_ fun c hc => ?_
  · have : (x ++ y).length = x.length + y.length := by
      show (x ++ y).cps.size = x.cps.size + y.cps.size
      rw [← Array.length_toList, e, List.length_append, Array.length_toList, Array.length_toList]
    omega
  · rw [e, List.mem_append] at hc
    rcases hc with q | q
    · exact g.cps c q
    · exact h.cps c q
section
variable {X : Cx} {a b e : Expr} {f g : FE} {pos p : Pos}
theorem ve_int {i : Int} {j} : VE X (.Constant (.int i) j pos) (fC (.int i)) := ve_c pe_int fun _ => .int i
theorem ve_bl {b : Bool} {j} : VE X (.Constant (.bool b) j pos) (fC (.bl b)) := ve_c pe_bl fun _ => .bl b
theorem ve_non {j} : VE X (.Constant .none j pos) (fC .non) := ve_c pe_non fun _ => .non
theorem ve_str {x : Str} {j} (h : (decide (x.length ≤ sizeLine) && PyData.strOk x) = true) : VE X (.Constant (.str x) j pos) (fC (.str x)) := ve_c pe_str fun _ => .str (SG.of h)
/-- a constant of the module -/
theorem ve_gl {x : Str} {d : D} (hg : Gl X x) (h : ∃ u v, X.mg x = some u ∧ RelV v u ∧ ∀ H, Rep X.K H v d) (hd : (x == ("__debug__" : Str)) = false := by decide) : VE X (.Name x pos) (fC d) := by
  obtain ⟨u, v, h1, h2, h3⟩ := h
  exact ve_c (pe_glob hg h1 h2 hd) h3
/-! ### len -/
def lenD : D → Option D
  | .str x => some (.int x.length)
  | .lst xs => some (.int xs.length)
  | .tup xs => some (.int xs.length)
  | .ktp xs => some (.int xs.length)
  | .dct _ ks _ => some (.int ks.length)
  | _ => none
/-- len of a dict, locked or not -/
def rLenDR : List V → Hp → VK → Prop := fun xs H Q => ∃ a n, xs = [.ref a] ∧ ((∃ kvs : List (Key × V), Rd H a (.dK kvs) ∧ kvs.length = n) ∨ ∃ kvs : List (List Key × V), Rd H a (.dT kvs) ∧ kvs.length = n) ∧ Q (.int (n : Nat)) H
theorem call_lenDR : CallR X (.builtin "len") rLenDR := by
  intro pins s σ H xs us Q I r h
  obtain ⟨a, n, rfl, h, q⟩ := h
  obtain ⟨u, rfl, ru⟩ := vals1 r
  cases ru
  rcases h with ⟨kvs, e, rfl⟩ | ⟨kvs, e, rfl⟩
  · exact d_len I e fun t s' I' => ⟨.int kvs.length, H, I', ⟨t, rfl⟩, q⟩
  · obtain ⟨z, hd, ys, rel, dd⟩ := dt_rd I.hok e
    have hl : kvs.length = ys.length := Paired.length rel
    refine call_len_dictH hd dd (by rw [← hl]; rw [sizeLine_eq] at z; omega) ?_
    rw [← hl]
    exact ⟨.int ((kvs.length : Nat) : Int), H, I.tok _, ⟨_, rfl⟩, q⟩
theorem ve_len (hg : Gl X "len") (hb : X.mg "len" = none) (h : VP X a f) (he : starEach [a] X.env = (false, eval a X.env) :: starEach [] X.env := by rfl) : VE X (.Call (.Name "len" p) [a] [] pos) (fU lenD f) := by
  refine ve_unP (ι := Fin 3) (r := fun i x H Q => if i = 0 then rLenQ X.K [x] H Q else if i = 1 then AR.rLenT [x] H Q else rLenDR [x] H Q) (fun i => ?_) fun d d' ed => ?_
  · match i with
    | 0 => exact pe_callB (call_lenK X.K) hg hb (by decide +kernel) (pa_cons h pa_nil he) (he := he)
    | 1 => exact pe_callB call_lenT hg hb (by decide +kernel) (pa_cons h pa_nil he) (he := he)
    | 2 => exact pe_callB call_lenDR hg hb (by decide +kernel) (pa_cons h pa_nil he) (he := he)
  · cases d with
    | str x => cases ed; exact ⟨1, fun w ρ σ H v Q ok r k => by cases r with | str g => exact i_lenT g.1 (k _ w H (.refl _ _) ok (.int _))⟩
    | lst xs => cases ed; exact ⟨0, fun w ρ σ H v Q ok r k => by cases r with | lst q l t => exact i_lenL q (by rw [t.length]; exact k _ w H (.refl _ _) ok (.int _))⟩
    | tup xs => cases ed; exact ⟨0, fun w ρ σ H v Q ok r k => by cases r with | tup q l t => exact i_lenU (.of q) (by rw [t.length]; exact k _ w H (.refl _ _) ok (.int _))⟩
    | ktp xs => cases ed; exact ⟨0, fun w ρ σ H v Q ok r k => by cases r with | ktp q l t => exact i_lenU q (by rw [t.length]; exact k _ w H (.refl _ _) ok (.int _))⟩
    | dct t ks vs => cases ed; exact ⟨2, fun w ρ σ H v Q ok r k => by
        cases r with
        | dK q e t => exact ⟨_, _, rfl, .inl ⟨_, q, rfl⟩, by rw [e, List.length_map] at k; exact k _ w H (.refl _ _) ok (.int _)⟩
        | dT q e t => exact ⟨_, _, rfl, .inr ⟨_, q, rfl⟩, by rw [e, List.length_map] at k; exact k _ w H (.refl _ _) ok (.int _)⟩⟩
    | _ => cases ed
/-! ### keys -/
def keyOf : D → Option Key
  | .int i => some (.inl i)
  | .str x => some (.inr x)
  | _ => none
def keysOf : List D → Option (List Key)
  | [] => some []
  | d :: ds => (keyOf d).bind fun k => (keysOf ds).map fun ks => k :: ks
def keyTOf : D → Option (List Key)
  | .tup ds => keysOf ds
  | _ => none
theorem keyD_of {d : D} {k : Key} (h : keyOf d = some k) : d = keyD k := by cases d <;> cases h <;> rfl
theorem keyOf_D (k : Key) : keyOf (keyD k) = some k := by cases k <;> rfl
theorem keysD_of : ∀ {ds : List D} {ks : List Key}, keysOf ds = some ks → ds = ks.map keyD
  | [], ks, h => by cases h; rfl
  | d :: ds, ks, h => by
    obtain ⟨k, h1, h2⟩ := Option.bind_eq_some_iff.mp h
    obtain ⟨r, h3, h4⟩ := Option.map_eq_some_iff.mp h2
    subst h4
    rw [keyD_of h1, keysD_of h3]; rfl
theorem keyT_of {d : D} {k : List Key} (h : keyTOf d = some k) : d = keyT k := by
  cases d <;> try (cases h; done)
  rw [keysD_of h]; rfl
theorem keyD_inj {j k : Key} (h : keyD j = keyD k) : j = k := by
  have := congrArg keyOf h
  rw [keyOf_D, keyOf_D] at this
  exact Option.some.inj this
theorem mapKeyD_inj : ∀ {j k : List Key}, j.map keyD = k.map keyD → j = k
  | [], [], _ => rfl
  | [], _ :: _, h => nomatch h
  | _ :: _, [], h => nomatch h
  | a :: j, b :: k, h => by
    rw [List.map_cons, List.map_cons] at h
    injection h with h1 h2
    rw [keyD_inj h1, mapKeyD_inj h2]
theorem keyT_inj {j k : List Key} (h : keyT j = keyT k) : j = k := by
  unfold keyT at h
  injection h with h
  exact mapKeyD_inj h
theorem rep_key {K : PySem.W.Frag} {H : Hp} {v : V} {k : Key} (r : Rep K H v (keyD k)) : v = kV k := by
  cases k with
  | inl i => cases r; rfl
  | inr x => cases r; rfl
theorem rep_keys {K : PySem.W.Frag} {H : Hp} : ∀ {vs : List V} {ks : List Key}, RepAll K H vs (ks.map keyD) → vs = ks.map kV
  | [], [], .nil => rfl
  | _ :: _, k :: ks, .cons r t => by rw [rep_key r, rep_keys t]; rfl
theorem rep_keyT {K : PySem.W.Frag} {H : Hp} {v : V} {k : List Key} (r : Rep K H v (keyT k)) : ∃ b, v = .ref b ∧ H b = some (.tup (k.map kV)) := by
  unfold keyT at r
  cases r with
  | tup q l t => rw [rep_keys t] at q; exact ⟨_, rfl, q⟩
/-- what a dict holds -/
def dval : List D → List D → D → Option D
  | k' :: ks, v :: vs, k => if k' = k then some v else dval ks vs k
  | _, _, _ => none
section
variable {K : PySem.W.Frag} {H : Hp}
theorem dval_val {κ : Type} [DecidableEq κ] {kd : κ → D} (inj : ∀ a b, kd a = kd b → a = b) : ∀ {kvs : List (κ × V)} {vs : List D} (k : κ), RepAll K H (kvs.map (·.2)) vs →
    (dval (kvs.map fun p => kd p.1) vs (kd k) = none ∧ valV kvs k = none) ∨ ∃ d v, dval (kvs.map fun p => kd p.1) vs (kd k) = some d ∧ valV kvs k = some v ∧ Rep K H v d
  | [], _, _, .nil => .inl ⟨rfl, rfl⟩
  | (a, b) :: kvs, d :: vs, k, .cons r t => by
    by_cases e : a = k
    · subst e
      exact .inr ⟨d, b, by simp [dval], by simp [valV], r⟩
    · have ne : ¬ kd a = kd k := fun z => e (inj _ _ z)
      have e1 : dval (((a, b) :: kvs).map fun p => kd p.1) (d :: vs) (kd k) = dval (kvs.map fun p => kd p.1) vs (kd k) := by simp [dval, ne]
      have e2 : valV ((a, b) :: kvs) k = valV kvs k := by simp [valV, List.find?_cons, e]
      rw [e1, e2]
      exact dval_val inj k t
/-- in its place, or at the end -/
def dputK (ks : List D) (k : D) : List D := if k ∈ ks then ks else ks ++ [k]
def dmapV : List D → List D → D → D → List D
  | k' :: ks, v' :: vs, k, v => (if k' = k then v else v') :: dmapV ks vs k v
  | _, _, _, _ => []
def dputV (ks vs : List D) (k v : D) : List D := if k ∈ ks then dmapV ks vs k v else vs ++ [v]
theorem any_mem {κ : Type} [DecidableEq κ] {kd : κ → D} (inj : ∀ a b, kd a = kd b → a = b) {kvs : List (κ × V)} {k : κ} : (kvs.any fun kv => decide (kv.1 = k)) = true ↔ kd k ∈ kvs.map fun p => kd p.1 := by
  rw [List.any_eq_true, List.mem_map]
  constructor
  · rintro ⟨p, hp, e⟩; exact ⟨p, hp, by rw [of_decide_eq_true e]⟩
  · rintro ⟨p, hp, e⟩; exact ⟨p, hp, decide_eq_true (inj _ _ e)⟩
theorem dmap_rep {κ : Type} [DecidableEq κ] {kd : κ → D} (inj : ∀ a b, kd a = kd b → a = b) {y : V} {d : D} (r : Rep K H y d) : ∀ {kvs : List (κ × V)} {vs : List D} (k : κ), RepAll K H (kvs.map (·.2)) vs →
    RepAll K H ((kvs.map (fun kv => if kv.1 = k then (kv.1, y) else kv)).map (·.2)) (dmapV (kvs.map fun p => kd p.1) vs (kd k) d)
  | [], _, k, .nil => .nil
  | (a, b) :: kvs, e :: vs, k, .cons q t => by
    rw [List.map_cons, List.map_cons, List.map_cons]
    unfold dmapV
    refine .cons ?_ (dmap_rep inj r k t)
    by_cases ha : a = k
    · rw [if_pos (show (a, b).1 = k from ha), if_pos (show kd (a, b).1 = kd k by rw [← ha])]; exact r
    · rw [if_neg (show ¬ (a, b).1 = k from ha), if_neg (fun z => ha (inj _ _ z))]; exact q
theorem dput_put {κ : Type} [DecidableEq κ] {kd : κ → D} (inj : ∀ a b, kd a = kd b → a = b) {y : V} {d : D} (r : Rep K H y d) {kvs : List (κ × V)} {vs : List D} (k : κ) (t : RepAll K H (kvs.map (·.2)) vs) :
    dputK (kvs.map fun p => kd p.1) (kd k) = ((putK kvs k y).map fun p => kd p.1) ∧ RepAll K H ((putK kvs k y).map (·.2)) (dputV (kvs.map fun p => kd p.1) vs (kd k) d) := by
  unfold dputK dputV putK
  by_cases h : (kvs.any fun kv => decide (kv.1 = k)) = true
  · have h' := (any_mem inj).mp h
    rw [if_pos h, if_pos h', if_pos h']
    refine ⟨?_, dmap_rep inj r k t⟩
    rw [List.map_map]
    apply List.map_congr_left
    intro kv _
    show kd kv.1 = kd (if kv.1 = k then (kv.1, y) else kv).1
    split <;> rfl
  · have h' := fun z => h ((any_mem inj).mpr z)
    rw [if_neg h, if_neg h', if_neg h', List.map_append, List.map_append]
    exact ⟨rfl, t.append (.one r)⟩
end
/-! ### x[i] -/
def chD (x : Str) : List D := x.cps.toList.map fun c => D.str ⟨#[c]⟩
def getD : D → D → Option D
  | .lst xs, .int i => atI xs i
  | .tup xs, .int i => atI xs i
  | .ktp xs, .int i => atI xs i
  | .str z, .int i => (atI z.cps.toList i).map fun c => .str ⟨#[c]⟩
  | .dct 0 ks vs, k => (keyOf k).bind fun _ => dval ks vs k
  | .dct 1 ks vs, k => (keyTOf k).bind fun _ => dval ks vs k
  | _, _ => none
theorem atI_rep {K : PySem.W.Frag} {H : Hp} {vs : List V} {ds : List D} {i : Int} {d : D} (r : RepAll K H vs ds) (h : atI ds i = some d) : ∃ v, atI vs i = some v ∧ Rep K H v d := by
  unfold atI at h ⊢
  rw [← r.length] at h
  obtain ⟨j, h1, h2⟩ := Option.bind_eq_some_iff.mp h
  obtain ⟨v, h3, h4⟩ := r.get' j h2
  exact ⟨v, by rw [h1]; exact h3, h4⟩
theorem atI_mem {α : Type} {xs : List α} {i : Int} {x : α} (h : atI xs i = some x) : x ∈ xs := by
  obtain ⟨j, h1, h2⟩ := Option.bind_eq_some_iff.mp h
  exact List.mem_of_getElem? h2
def rDG : R2 := fun x y H Q => ∃ a v, x = .ref a ∧ DGet H a y (some v) ∧ Q v H
def rGet (K : PySem.W.Frag) : Bool → R2
  | false => rIxA K
  | true => rDG
theorem get_view {K : PySem.W.Frag} {x y z : D} (h : getD x y = some z) : ∃ i, ∀ (w : Wd) (ρ : En) (σ : L2.St) (H : Hp) (v u : V) (Q : VK), EnvOk K w ρ σ H → View K w.hs H v x → Rep K w.hs u y → (∀ v' w' H', Fr w H w' H' → EnvOk K w' ρ σ H' → Rep K w'.hs v' z → Q v' H') → rGet K i v u H Q := by
  cases x with
  | lst xs =>
    cases y <;> try (cases h; done)
    rename_i i
    refine ⟨false, fun w ρ σ H v u Q ok rv ru k => ?_⟩
    cases ru
    cases rv with
    | lst q l t =>
      obtain ⟨v', h1, h2⟩ := atI_rep t h
      exact .inl (i_ixL q h1 (k _ w H (.refl _ _) ok h2))
  | tup xs =>
    cases y <;> try (cases h; done)
    rename_i i
    refine ⟨false, fun w ρ σ H v u Q ok rv ru k => ?_⟩
    cases ru
    cases rv with
    | tup q l t =>
      obtain ⟨v', h1, h2⟩ := atI_rep t h
      exact .inr (.inl (i_ixT (.of q) h1 (k _ w H (.refl _ _) ok h2)))
  | ktp xs =>
    cases y <;> try (cases h; done)
    rename_i i
    refine ⟨false, fun w ρ σ H v u Q ok rv ru k => ?_⟩
    cases ru
    cases rv with
    | ktp q l t =>
      obtain ⟨v', h1, h2⟩ := atI_rep t h
      exact .inr (.inl (i_ixT q h1 (k _ w H (.refl _ _) ok h2)))
  | str s =>
    cases y <;> try (cases h; done)
    rename_i i
    refine ⟨false, fun w ρ σ H v u Q ok rv ru k => ?_⟩
    cases ru
    cases rv with
    | str g =>
      obtain ⟨c, h1, h2⟩ := Option.map_eq_some_iff.mp h
      subst h2
      exact .inr (.inr ⟨s, i, c, rfl, rfl, g.1, h1, k _ w H (.refl _ _) ok (.str (g.one (atI_mem h1)))⟩)
  | dct t ks vs =>
    refine ⟨true, fun w ρ σ H v u Q ok rv ru k => ?_⟩
    cases rv with
    | @dK a kvs ks vs q e t =>
      obtain ⟨ky, h1, h2⟩ := Option.bind_eq_some_iff.mp h
      have ey := keyD_of h1
      subst ey
      subst e
      rcases dval_val (kd := keyD) (fun _ _ => keyD_inj) ky t with ⟨n, _⟩ | ⟨d, v', e1, e2, r'⟩
      · rw [n] at h2; cases h2
      · rw [e1] at h2
        cases h2
        exact ⟨a, v', rfl, .inl ⟨kvs, ky, q, rep_key ru, e2.symm⟩, k _ w H (.refl _ _) ok r'⟩
    | @dT a kvs ks vs q e t =>
      obtain ⟨ky, h1, h2⟩ := Option.bind_eq_some_iff.mp h
      have ey := keyT_of h1
      subst ey
      subst e
      obtain ⟨b, rfl, hb⟩ := rep_keyT ru
      rcases dval_val (kd := keyT) (fun _ _ => keyT_inj) ky t with ⟨n, _⟩ | ⟨d, v', e1, e2, r'⟩
      · rw [n] at h2; cases h2
      · rw [e1] at h2
        cases h2
        exact ⟨a, v', rfl, .inr ⟨kvs, ky, b, q, rfl, ok.sub.tup hb, e2.symm⟩, k _ w H (.refl _ _) ok r'⟩
  | _ => cases h
theorem ve_sub (hu : X.A.units + 1 < cLine) (ha : VE X a f) (hb : VE X b g) (hs : PlainIx b) : VE X (.Subscript a b pos) (fB getD f g) := by
  refine ve_bin (r := rGet X.K) (fun i => ?_) fun x y z h => ?_
  · cases i with
    | false => exact pe_ix (ix_anyK X.K) ha hb hs
    | true => exact pe_dget hu ha hb hs
  · obtain ⟨i, ki⟩ := get_view (K := X.K) h
    exact ⟨i, fun w ρ σ H v u Q ok rv ru k => ki w ρ σ H v u Q ok (rv.view ok.sub) ru k⟩
def hasSl (ρ : En) (i : Nat) : Bool := match ρ[i]? with
  | some (Sl.s _) => true
  | some (Sl.o _) => true
  | _ => false
theorem EnvOk.has {K : PySem.W.Frag} {w : Wd} {ρ : En} {σ : L2.St} {H : Hp} {i : Nat} (ok : EnvOk K w ρ σ H) (h : hasSl ρ i = true) : ∃ v, σ[i]? = some (some v) := by
  unfold hasSl at h
  split at h
  · rename_i d e; obtain ⟨v, hv, _⟩ := ok.sh i d e; exact ⟨v, hv⟩
  · rename_i d e; obtain ⟨v, hv, _⟩ := ok.ow i d e; exact ⟨v, hv⟩
  · cases h
/-- a slot's thing, looked at behind the other operand -/
def fBN (op : D → D → Option D) (i : Nat) (g : FE) : FE := fun ρ => if hasSl ρ i then (g ρ).bind fun p => match p.2[i]? with
  | some (Sl.s d) => (op d p.1).map fun r => (r, p.2)
  | some (Sl.o d) => if d.isBox then none else (op d p.1).map fun r => (r, p.2)
  | _ => none
  else none
theorem ve_binN {ι : Type} {r : ι → R2} {op : D → D → Option D} {i : Nat} (h : ∀ j, PE X e (tOp (r j) (tVar i) (tV X.K g)))
    (k : ∀ (x y z : D), op x y = some z → ∃ j, ∀ (w : Wd) (ρ : En) (σ : L2.St) (H : Hp) (v u : V) (Q : VK), EnvOk X.K w ρ σ H → View X.K w.hs H v x → Rep X.K w.hs u y → (∀ v' w' H', Fr w H w' H' → EnvOk X.K w' ρ σ H' → Rep X.K w'.hs v' z → Q v' H') → r j v u H Q) : VE X e (fBN op i g) := by
  refine orE h fun σ H Q q => ?_
  obtain ⟨w, ρ, z, ρ', ok, ef, kk⟩ := q
  unfold fBN at ef
  split at ef
  case isFalse => cases ef
  rename_i hsl
  have hv0 := ok.has hsl
  obtain ⟨⟨y, ρ1⟩, e1, e2⟩ := Option.bind_eq_some_iff.mp ef
  have main : ∀ x, op x y = some z → ρ1 = ρ' → (∀ w1 H1, Fr w H w1 H1 → EnvOk X.K w1 ρ1 σ H1 → ∃ v, σ[i]? = some (some v) ∧ View X.K w1.hs H1 v x) → (∃ v, σ[i]? = some (some v)) → ∃ j, tOp (r j) (tVar i) (tV X.K g) σ H Q := fun x eo er hv hv0 => by
    obtain ⟨j, kj⟩ := k x y z eo
    obtain ⟨v, hv0⟩ := hv0
    subst er
    refine ⟨j, v, hv0, w, ρ, y, ρ1, ok, e1, fun u w1 H1 f1 ok1 r1 => ?_⟩
    obtain ⟨v', hv1, vw⟩ := hv w1 H1 f1 ok1
    rw [hv0] at hv1
    cases hv1
    exact kj w1 ρ1 σ H1 v u Q ok1 vw r1 fun v' w' H' f' ok' r' => kk v' w' H' (f1.trans f') ok' r'
  split at e2
  · rename_i d ed
    obtain ⟨z2, e3, e4⟩ := Option.map_eq_some_iff.mp e2
    cases e4
    exact main d e3 rfl (fun w1 H1 f1 ok1 => by
      obtain ⟨v, h1, h2⟩ := ok1.sh i d ed
      exact ⟨v, h1, h2.view ok1.sub⟩) hv0
  · rename_i d ed
    split at e2
    · cases e2
    · rename_i nb
      obtain ⟨z2, e3, e4⟩ := Option.map_eq_some_iff.mp e2
      cases e4
      exact main d e3 rfl (fun w1 H1 f1 ok1 => by
        obtain ⟨v, h1, h2⟩ := ok1.ow i d ed
        exact ⟨v, h1, h2.view (by simpa using nb)⟩) hv0
  · cases e2
theorem ve_subN {i : Nat} {x : Str} (hu : X.A.units + 1 < cLine) (ha : PE X (.Name x p) (tVar i)) (hb : VE X b g) (hs : PlainIx b) : VE X (.Subscript (.Name x p) b pos) (fBN getD i g) := by
  refine ve_binN (r := rGet X.K) (fun i => ?_) fun x y z h => get_view (K := X.K) h
  cases i with
  | false => exact pe_ix (ix_anyK X.K) ha hb hs
  | true => exact pe_dget hu ha hb hs
end
end VS
set_option autoImplicit false
namespace VS
open PySem PySem.Spec PyProof.Rows L2 AR
/-! ### == and != of data -/
mutual
def toP : D → Option PyData
  | .non => some .none
  | .bl b => some (.bool b)
  | .int i => some (.int i)
  | .str x => some (.str x)
  | .lst xs => (toPs xs).map .list
  | .tup xs => (toPs xs).map .tuple
  | _ => none
def toPs : List D → Option (List PyData)
  | [] => some []
  | x :: xs => (toP x).bind fun p => (toPs xs).map fun ps => p :: ps
end
mutual
theorem toP_rep {K : PySem.W.Frag} {H : Hp} : ∀ {v : V} {d : D} {p : PyData}, Rep K H v d → toP d = some p → Dp K H v p ∧ p.canLay0 = true
  | _, _, _, .non, h => by simp only [toP, Option.some.injEq] at h; subst h; exact ⟨.non, by simp [PyData.canLay0]⟩
  | _, _, _, .bl b, h => by simp only [toP, Option.some.injEq] at h; subst h; exact ⟨.bl b, by simp [PyData.canLay0]⟩
  | _, _, _, .int i, h => by simp only [toP, Option.some.injEq] at h; subst h; exact ⟨.int i, by simp [PyData.canLay0]⟩
  | _, _, _, .str g, h => by simp only [toP, Option.some.injEq] at h; subst h; exact ⟨.str _, by simp [PyData.canLay0]; exact g.2⟩
  | _, _, _, .lst q l t, h => by
    simp only [toP] at h
    obtain ⟨ps, h1, h2⟩ := Option.map_eq_some_iff.mp h
    subst h2
    obtain ⟨a, b⟩ := toPs_rep t h1
    exact ⟨.lst q a, by simp [PyData.canLay0]; exact b⟩
  | _, _, _, .tup q l t, h => by
    simp only [toP] at h
    obtain ⟨ps, h1, h2⟩ := Option.map_eq_some_iff.mp h
    subst h2
    obtain ⟨a, b⟩ := toPs_rep t h1
    exact ⟨.tup (.of q) a, by simp [PyData.canLay0]; exact b⟩
  | _, _, _, .ktp .., h => by simp [toP] at h
  | _, _, _, .dK .., h => by simp [toP] at h
  | _, _, _, .dT .., h => by simp [toP] at h
  | _, _, _, .ins .., h => by simp [toP] at h
theorem toPs_rep {K : PySem.W.Frag} {H : Hp} : ∀ {vs : List V} {ds : List D} {ps : List PyData}, RepAll K H vs ds → toPs ds = some ps → DpAll K H vs ps ∧ PyData.canLayAll0 ps = true
  | _, _, _, .nil, h => by simp only [toPs, Option.some.injEq] at h; subst h; exact ⟨.nil, by simp [PyData.canLayAll0]⟩
  | _, _, _, .cons r t, h => by
    simp only [toPs] at h
    obtain ⟨p, h1, h2⟩ := Option.bind_eq_some_iff.mp h
    obtain ⟨ps, h3, h4⟩ := Option.map_eq_some_iff.mp h2
    subst h4
    obtain ⟨a1, b1⟩ := toP_rep r h1
    obtain ⟨a2, b2⟩ := toPs_rep t h3
    exact ⟨.cons a1 a2, by simp [PyData.canLayAll0, b1, b2]⟩
end
/-- of a view -/
theorem toP_view {K : PySem.W.Frag} {hs H : Hp} {v : V} {d : D} {p : PyData} (r : View K hs H v d) (s : Sub hs H) (h : toP d = some p) : Dp K H v p ∧ p.canLay0 = true := by
  cases r with
  | non => exact toP_rep (H := H) .non h
  | bl b => exact toP_rep (H := H) (.bl b) h
  | int i => exact toP_rep (H := H) (.int i) h
  | str g => exact toP_rep (H := H) (.str g) h
  | lst q l t => exact toP_rep (H := H) (.lst q l (t.mono s)) h
  | tup q l t => exact toP_rep (H := H) (.tup q l (t.mono s)) h
  | ktp => simp [toP] at h
  | dK => simp [toP] at h
  | dT => simp [toP] at h
  | ins => simp [toP] at h
def eqB (x y : D) : Option Bool := match toP x, toP y with
  | some p, some q => if p.depth ≤ 64 ∧ q.depth ≤ 64 then some (PyData.eqv p q) else none
  | _, _ => none
def eqO (x y : D) : Option D := (eqB x y).map .bl
def neO (x y : D) : Option D := (eqB x y).map fun b => .bl (!b)
theorem eqB_inv {x y : D} {b : Bool} (h : eqB x y = some b) : ∃ p q, toP x = some p ∧ toP y = some q ∧ p.depth ≤ 64 ∧ q.depth ≤ 64 ∧ b = PyData.eqv p q := by
  unfold eqB at h
  split at h
  · rename_i p q h1 h2
    split at h
    · rename_i hd; cases h; exact ⟨p, q, h1, h2, hd.1, hd.2, rfl⟩
    · cases h
  · cases h
theorem shaped_of {p : PyData} (h1 : p.canLay0 = true) (h2 : p.depth ≤ 64) : SeqAt.shaped p = true := by
  unfold SeqAt.shaped
  rw [h1, decide_eq_true h2]; rfl
section
variable {X : Cx} {a b e : Expr} {f g : FE} {pos p : Pos}
theorem kb_eq {K : PySem.W.Frag} {x y z : D} (h : eqO x y = some z) (w : Wd) (ρ : En) (σ : L2.St) (H : Hp) (v u : V) (Q : VK) (ok : EnvOk K w ρ σ H) (rv : View K w.hs H v x) (ru : View K w.hs H u y) (k : ∀ v' w' H', Fr w H w' H' → EnvOk K w' ρ σ H' → Rep K w'.hs v' z → Q v' H') : rEqD K v u H Q := by
  obtain ⟨b, h1, h2⟩ := Option.map_eq_some_iff.mp h
  subst h2
  obtain ⟨p, q, e1, e2, d1, d2, rfl⟩ := eqB_inv h1
  obtain ⟨a1, b1⟩ := toP_view rv ok.sub e1
  obtain ⟨a2, b2⟩ := toP_view ru ok.sub e2
  exact ⟨p, q, a1, a2, shaped_of b1 d1, shaped_of b2 d2, k _ w H (.refl _ _) ok (.bl _)⟩
theorem kb_ne {K : PySem.W.Frag} {x y z : D} (h : neO x y = some z) (w : Wd) (ρ : En) (σ : L2.St) (H : Hp) (v u : V) (Q : VK) (ok : EnvOk K w ρ σ H) (rv : View K w.hs H v x) (ru : View K w.hs H u y) (k : ∀ v' w' H', Fr w H w' H' → EnvOk K w' ρ σ H' → Rep K w'.hs v' z → Q v' H') : rNeD K v u H Q := by
  obtain ⟨b, h1, h2⟩ := Option.map_eq_some_iff.mp h
  subst h2
  obtain ⟨p, q, e1, e2, d1, d2, rfl⟩ := eqB_inv h1
  obtain ⟨a1, b1⟩ := toP_view rv ok.sub e1
  obtain ⟨a2, b2⟩ := toP_view ru ok.sub e2
  exact ⟨p, q, a1, a2, shaped_of b1 d1, shaped_of b2 d2, k _ w H (.refl _ _) ok (.bl _)⟩
/-- a two-place rule of views gives the three forms -/
def KV2 (K : PySem.W.Frag) {ι : Type} (r : ι → R2) (op : D → D → Option D) : Prop :=
  ∀ (x y z : D), op x y = some z → ∃ i, ∀ (w : Wd) (ρ : En) (σ : L2.St) (H : Hp) (v u : V) (Q : VK), EnvOk K w ρ σ H → View K w.hs H v x → View K w.hs H u y → (∀ v' w' H', Fr w H w' H' → EnvOk K w' ρ σ H' → Rep K w'.hs v' z → Q v' H') → r i v u H Q
theorem KV2.kb {K : PySem.W.Frag} {ι : Type} {r : ι → R2} {op : D → D → Option D} (h : KV2 K r op) : KB K r op := fun x y z e => by
  obtain ⟨i, k⟩ := h x y z e
  exact ⟨i, fun w ρ σ H v u Q ok rv ru kk => k w ρ σ H v u Q ok (rv.view ok.sub) (ru.view ok.sub) kk⟩
theorem KV2.kbp {K : PySem.W.Frag} {ι : Type} {r : ι → R2} {op : D → D → Option D} (h : KV2 K r op) : KBP K r op := fun x y z e => by
  obtain ⟨i, k⟩ := h x y z e
  exact ⟨i, fun w ρ σ H v u Q ok rv ru kk => k w ρ σ H v u Q ok (rv.view ok.sub) ru kk⟩
theorem KV2.kbn {K : PySem.W.Frag} {ι : Type} {r : ι → R2} {op : D → D → Option D} (h : KV2 K r op) : ∀ (x y z : D), op x y = some z → ∃ j, ∀ (w : Wd) (ρ : En) (σ : L2.St) (H : Hp) (v u : V) (Q : VK), EnvOk K w ρ σ H → View K w.hs H v x → Rep K w.hs u y → (∀ v' w' H', Fr w H w' H' → EnvOk K w' ρ σ H' → Rep K w'.hs v' z → Q v' H') → r j v u H Q := fun x y z e => by
  obtain ⟨i, k⟩ := h x y z e
  exact ⟨i, fun w ρ σ H v u Q ok rv ru kk => k w ρ σ H v u Q ok rv (ru.view ok.sub) kk⟩
theorem kv_eq {K : PySem.W.Frag} : KV2 K (ι := Unit) (fun _ => rEqD K) eqO := fun x y z h => ⟨(), kb_eq h⟩
theorem kv_ne {K : PySem.W.Frag} : KV2 K (ι := Unit) (fun _ => rNeD K) neO := fun x y z h => ⟨(), kb_ne h⟩
/-- .. as a test, the left one a slot -/
theorem vt_binN {ι : Type} {r : ι → R2} {op : D → D → Option D} {i : Nat} (h : ∀ j, PT X e (tTest (tOp (r j) (tVar i) (tV X.K g))))
    (k : KV2 X.K r op) : VT X e (tF blD (fBN op i g)) := by
  refine ⟨fun pins s σ H Q I q => ?_⟩
  obtain ⟨w, ρ, b, ρ', ok, ef, kk⟩ := q
  obtain ⟨⟨z, ρ3⟩, e0, e9⟩ := Option.bind_eq_some_iff.mp ef
  obtain ⟨b2, e7, e8⟩ := Option.map_eq_some_iff.mp e9
  cases e8
  unfold fBN at e0
  split at e0
  case isFalse => cases e0
  rename_i hsl
  obtain ⟨v, hv0⟩ := ok.has hsl
  obtain ⟨⟨y, ρ1⟩, e1, e2⟩ := Option.bind_eq_some_iff.mp e0
  have main : ∀ x, op x y = some z → ρ1 = ρ3 → (∀ w1 H1, Fr w H w1 H1 → EnvOk X.K w1 ρ1 σ H1 → ∃ v, σ[i]? = some (some v) ∧ View X.K w1.hs H1 v x) → wpAny (model X.prog X.w) X.A (isTrue e X.env (eval e X.env)) (TP X pins σ Q) X.xe s := fun x eo er hv => by
    obtain ⟨j, kj⟩ := k.kbn x y z eo
    subst er
    refine (h j).run pins s σ H Q I ⟨v, hv0, w, ρ, y, ρ1, ok, e1, fun u w1 H1 f1 ok1 r1 => ?_⟩
    obtain ⟨v', hv1, vw⟩ := hv w1 H1 f1 ok1
    rw [hv0] at hv1
    cases hv1
    refine kj w1 ρ1 σ H1 v u _ ok1 vw r1 fun v' w' H' f' ok' r' => ?_
    cases z <;> cases e7
    cases r'
    exact ⟨b, rfl, kk w' H' (f1.trans f') ok'⟩
  split at e2
  · rename_i d ed
    obtain ⟨z2, e3, e4⟩ := Option.map_eq_some_iff.mp e2
    cases e4
    exact main d e3 rfl (fun w1 H1 f1 ok1 => by
      obtain ⟨v, h1, h2⟩ := ok1.sh i d ed
      exact ⟨v, h1, h2.view ok1.sub⟩)
  · rename_i d ed
    split at e2
    · cases e2
    · rename_i nb
      obtain ⟨z2, e3, e4⟩ := Option.map_eq_some_iff.mp e2
      cases e4
      exact main d e3 rfl (fun w1 H1 f1 ok1 => by
        obtain ⟨v, h1, h2⟩ := ok1.ow i d ed
        exact ⟨v, h1, h2.view (by simpa using nb)⟩)
  · cases e2
/-- the forms of a comparison: both values, the right one a look, the left one a slot; as a value, as a test -/
structure CmpV (X : Cx) (op : CmpOp) {ι : Type} (r : ι → R2) (o : D → D → Option D) : Prop where
  rule : ∀ i, OpR X (compareOp op) (r i)
  kv : KV2 X.K r o
variable {op : CmpOp} {ι : Type} {r : ι → R2} {o : D → D → Option D} {i : Nat}
theorem CmpV.ve (c : CmpV X op r o) (ha : VE X a f) (hb : VE X b g) (hm : behindInMarks op b = false) : VE X (.Compare a [op] [b] pos) (fB o f g) := ve_bin (fun i => pe_cmpR (c.rule i) ha hb hm) c.kv.kb
theorem CmpV.vep (c : CmpV X op r o) (ha : VE X a f) (hb : VP X b g) (hm : behindInMarks op b = false) : VE X (.Compare a [op] [b] pos) (fB o f g) := ve_binP (fun i => pe_cmpR (c.rule i) ha hb hm) c.kv.kbp
theorem CmpV.ven (c : CmpV X op r o) (ha : PE X a (tVar i)) (hb : VE X b g) (hm : behindInMarks op b = false) : VE X (.Compare a [op] [b] pos) (fBN o i g) := ve_binN (fun i => pe_cmpR (c.rule i) ha hb hm) c.kv.kbn
theorem CmpV.vt (c : CmpV X op r o) (ha : VE X a f) (hb : VE X b g) (hm : behindInMarks op b = false) : VT X (.Compare a [op] [b] pos) (tF blD (fB o f g)) := vt_bin (fun i => pt_cmpR (c.rule i) ha hb hm) c.kv.kb
theorem CmpV.vtp (c : CmpV X op r o) (ha : VE X a f) (hb : VP X b g) (hm : behindInMarks op b = false) : VT X (.Compare a [op] [b] pos) (tF blD (fB o f g)) := vt_binP (fun i => pt_cmpR (c.rule i) ha hb hm) c.kv.kbp
theorem CmpV.vtn (c : CmpV X op r o) (ha : PE X a (tVar i)) (hb : VE X b g) (hm : behindInMarks op b = false) : VT X (.Compare a [op] [b] pos) (tF blD (fBN o i g)) := vt_binN (fun i => pt_cmpR (c.rule i) ha hb hm) c.kv
theorem c_eq (hu : X.A.units + 64 < cLine) : CmpV X .Eq (ι := Unit) (fun _ => rEqD X.K) eqO := ⟨fun _ => op_eqD hu, kv_eq⟩
theorem c_ne (hu : X.A.units + 64 < cLine) : CmpV X .NotEq (ι := Unit) (fun _ => rNeD X.K) neO := ⟨fun _ => op_neD hu, kv_ne⟩
/-! ### order -/
def ltO : D → D → Option D
  | .int i, .int j => some (.bl (decide (i < j)))
  | .str x, .str y => some (.bl (decide (x.cps.toList < y.cps.toList)))
  | _, _ => none
def leO : D → D → Option D
  | .int i, .int j => some (.bl (decide (i ≤ j)))
  | .str x, .str y => some (.bl (!decide (y.cps.toList < x.cps.toList)))
  | _, _ => none
def gtO : D → D → Option D
  | .int i, .int j => some (.bl (decide (j < i)))
  | .str x, .str y => some (.bl (decide (y.cps.toList < x.cps.toList)))
  | _, _ => none
def geO : D → D → Option D
  | .int i, .int j => some (.bl (decide (j ≤ i)))
  | .str x, .str y => some (.bl (!decide (x.cps.toList < y.cps.toList)))
  | _, _ => none
def rOrd (p : Int → Int → Bool) (q : List Nat → List Nat → Bool) : Bool → R2
  | false => rI0 fun i j => .bl (p i j)
  | true => fun x y H Q => ∃ i j, x = .str i ∧ y = .str j ∧ Q (.bl (q i.cps.toList j.cps.toList)) H
theorem kv_ord {K : PySem.W.Frag} {p : Int → Int → Bool} {q : List Nat → List Nat → Bool} {o : D → D → Option D} (h1 : ∀ i j, o (.int i) (.int j) = some (.bl (p i j))) (h2 : ∀ i j : Str, o (.str i) (.str j) = some (.bl (q i.cps.toList j.cps.toList)))
    (h3 : ∀ x y z, o x y = some z → (∃ i j, x = .int i ∧ y = .int j) ∨ ∃ i j, x = .str i ∧ y = .str j) : KV2 K (rOrd p q) o := fun x y z h => by
  rcases h3 x y z h with ⟨i, j, rfl, rfl⟩ | ⟨i, j, rfl, rfl⟩
  · rw [h1] at h
    cases h
    refine ⟨false, fun w ρ σ H v u Q ok rv ru k => ?_⟩
    cases rv
    cases ru
    exact ⟨i, j, rfl, rfl, k _ w H (.refl _ _) ok (.bl _)⟩
  · rw [h2] at h
    cases h
    refine ⟨true, fun w ρ σ H v u Q ok rv ru k => ?_⟩
    cases rv
    cases ru
    exact ⟨i, j, rfl, rfl, k _ w H (.refl _ _) ok (.bl _)⟩
theorem ord_inv {o : D → D → Option D} (ho : ∀ x y z, o x y = some z → (∃ i, x = .int i) ∨ ∃ i, x = .str i) : True := trivial
theorem c_lt : CmpV X .Lt (rOrd (fun i j => decide (i < j)) (fun i j => decide (i < j))) ltO :=
  ⟨fun i => by cases i; exact op_lt; exact op_lt_str, kv_ord (fun _ _ => rfl) (fun _ _ => rfl) fun x y z h => by cases x <;> cases y <;> cases h; exact .inl ⟨_, _, rfl, rfl⟩; exact .inr ⟨_, _, rfl, rfl⟩⟩
theorem c_le : CmpV X .LtE (rOrd (fun i j => decide (i ≤ j)) (fun i j => !decide (j < i))) leO :=
  ⟨fun i => by cases i; exact op_le; exact op_le_str, kv_ord (fun _ _ => rfl) (fun _ _ => rfl) fun x y z h => by cases x <;> cases y <;> cases h; exact .inl ⟨_, _, rfl, rfl⟩; exact .inr ⟨_, _, rfl, rfl⟩⟩
theorem c_gt : CmpV X .Gt (rOrd (fun i j => decide (j < i)) (fun i j => decide (j < i))) gtO :=
  ⟨fun i => by cases i; exact op_gt; exact op_gt_str, kv_ord (fun _ _ => rfl) (fun _ _ => rfl) fun x y z h => by cases x <;> cases y <;> cases h; exact .inl ⟨_, _, rfl, rfl⟩; exact .inr ⟨_, _, rfl, rfl⟩⟩
theorem c_ge : CmpV X .GtE (rOrd (fun i j => decide (j ≤ i)) (fun i j => !decide (i < j))) geO :=
  ⟨fun i => by cases i; exact op_ge; exact op_ge_str, kv_ord (fun _ _ => rfl) (fun _ _ => rfl) fun x y z h => by cases x <;> cases y <;> cases h; exact .inl ⟨_, _, rfl, rfl⟩; exact .inr ⟨_, _, rfl, rfl⟩⟩
/-! ### is None -/
def isNO (x y : D) : Option D := if y = .non then some (.bl (decide (x = .non))) else none
def notNO (x y : D) : Option D := if y = .non then some (.bl (!decide (x = .non))) else none
theorem view_non {K : PySem.W.Frag} {hs H : Hp} {v : V} {d : D} (r : View K hs H v d) : decide (v = .non) = decide (d = .non) := by cases r <;> rfl
theorem c_isN : CmpV X .Is (ι := Unit) (fun _ x y H Q => y = .non ∧ Q (.bl (decide (x = .non))) H) isNO := ⟨fun _ => op_isN, fun x y z h => ⟨(), fun w ρ σ H v u Q ok rv ru k => by
  unfold isNO at h
  split at h
  · rename_i hy
    subst hy
    cases h
    cases ru
    exact ⟨rfl, by rw [view_non rv]; exact k _ w H (.refl _ _) ok (.bl _)⟩
  · cases h⟩⟩
theorem c_notN : CmpV X .IsNot (ι := Unit) (fun _ x y H Q => y = .non ∧ Q (.bl (!decide (x = .non))) H) notNO := ⟨fun _ => op_notN, fun x y z h => ⟨(), fun w ρ σ H v u Q ok rv ru k => by
  unfold notNO at h
  split at h
  · rename_i hy
    subst hy
    cases h
    cases ru
    exact ⟨rfl, by rw [view_non rv]; exact k _ w H (.refl _ _) ok (.bl _)⟩
  · cases h⟩⟩
end
end VS
set_option autoImplicit false
namespace VS
open PySem PySem.Spec PyProof.Rows L2 AR
/-! ### in -/
def flatD : D → Bool
  | .non => true
  | .bl _ => true
  | .int _ => true
  | .str _ => true
  | _ => false
def eqF : D → D → Bool
  | .non, .non => true
  | .bl a, .bl b => a == b
  | .bl a, .int b => (if a then 1 else 0) == b
  | .int a, .bl b => a == (if b then 1 else 0)
  | .int a, .int b => a == b
  | .str a, .str b => a == b
  | _, _ => false
def inB (x y : D) : Option Bool := match y with
  | .lst ys => (toP x).bind fun p => (toPs ys).bind fun ps => if p.depth ≤ 64 ∧ (PyData.list ps).depth ≤ 64 then some (ps.any fun z => PyData.eqv z p) else none
  | .tup ys => if flatD x && ys.all flatD then some (ys.any fun z => eqF z x) else none
  | .ktp ys => if flatD x && ys.all flatD then some (ys.any fun z => eqF z x) else none
  | .str z => match x with
    | .str t => some (match t.cps.toList with
      | [c] => decide (c ∈ z.cps.toList)
      | _ => !(Builtin.Str.occurrences z t 0 z.length 1).isEmpty)
    | _ => none
  | .dct 0 ks _ => (keyOf x).map fun _ => decide (x ∈ ks)
  | .dct 1 ks _ => (keyTOf x).map fun _ => decide (x ∈ ks)
  | _ => none
def inO (x y : D) : Option D := (inB x y).map .bl
def notInO (x y : D) : Option D := (inB x y).map fun b => .bl (!b)
theorem flat_rep {K : PySem.W.Frag} {H : Hp} {v : V} {d : D} (r : Rep K H v d) (h : flatD d = true) : flatV v = true := by cases r <;> first | rfl | cases h
theorem flat_view {K : PySem.W.Frag} {hs H : Hp} {v : V} {d : D} (r : View K hs H v d) (h : flatD d = true) : flatV v = true := by cases r <;> first | rfl | cases h
theorem flat_all {K : PySem.W.Frag} {H : Hp} : ∀ {vs : List V} {ds : List D}, RepAll K H vs ds → ds.all flatD = true → vs.all flatV = true
  | _, _, .nil, _ => rfl
  | _, _, .cons r t, h => by
    rw [List.all_cons, Bool.and_eq_true] at h ⊢
    exact ⟨flat_rep r h.1, flat_all t h.2⟩
theorem eqF_V {K : PySem.W.Frag} {H hs H' : Hp} {v u : V} {x y : D} (r : Rep K H v x) (q : View K hs H' u y) (h1 : flatD x = true) (h2 : flatD y = true) : eqV v u = eqF x y := by
  cases r <;> first | (cases h1; done) | (cases q <;> first | (cases h2; done) | rfl)
theorem any_eqF {K : PySem.W.Frag} {H hs H' : Hp} {u : V} {y : D} (q : View K hs H' u y) (h2 : flatD y = true) : ∀ {vs : List V} {ds : List D}, RepAll K H vs ds → ds.all flatD = true → (vs.any fun z => eqV z u) = ds.any fun z => eqF z y
  | _, _, .nil, _ => rfl
  | _, _, .cons r t, h => by
    rw [List.all_cons, Bool.and_eq_true] at h
    rw [List.any_cons, List.any_cons, eqF_V r q h.1 h2, any_eqF q h2 t h.2]
section
variable {X : Cx} {a b e : Expr} {f g : FE} {pos p : Pos}
/-- in, by cases -/
inductive InK where
  | deep | flat | sign | text | dict
def rInK (K : PySem.W.Frag) (neg : Bool) : InK → R2
  | .deep => if neg then rNotInD K else rInD K
  | .flat => rIn K neg
  | .sign => fun x y H Q => ∃ (c : Nat) (z : Str), x = .str ⟨#[c]⟩ ∧ y = .str z ∧ Q (.bl (if neg then !decide (c ∈ z.cps.toList) else decide (c ∈ z.cps.toList))) H
  | .text => fun x y H Q => ∃ i j, x = .str i ∧ y = .str j ∧ Q (.bl (if neg then !(!(Builtin.Str.occurrences j i 0 j.length 1).isEmpty) else !(Builtin.Str.occurrences j i 0 j.length 1).isEmpty)) H
  | .dict => fun x y H Q => ∃ a o, y = .ref a ∧ DGet H a x o ∧ Q (.bl (if neg then !o.isSome else o.isSome)) H
theorem op_inDict (hu : X.A.units + 1 < cLine) : OpR X (compareOp .In) (rInK X.K false .dict) := by
  intro pins s σ H x y v u Q I rx ry h
  obtain ⟨a, o, rfl, g, q⟩ := h
  cases ry
  exact d_in hu I g rx fun s' I' => ⟨.bl _, H, I', rfl, q⟩
theorem op_notInDict (hu : X.A.units + 1 < cLine) : OpR X (compareOp .NotIn) (rInK X.K true .dict) := by
  intro pins s σ H x y v u Q I rx ry h
  obtain ⟨a, o, rfl, g, q⟩ := h
  cases ry
  exact d_notIn hu I g rx fun s' I' => ⟨.bl _, H, I', rfl, q⟩
theorem dval_mem {ks vs : List D} {k : D} (hl : ks.length = vs.length) : (dval ks vs k).isSome = decide (k ∈ ks) := by
  induction ks generalizing vs with
  | nil => simp [dval]
  | cons a ks ih =>
    cases vs with
    | nil => cases hl
    | cons b vs =>
      unfold dval
      by_cases e : a = k
      · subst e; simp
      · rw [if_neg e, ih (by simpa using hl)]
        have : ¬ k = a := fun z => e z.symm
        simp [this]
theorem sole {t : Str} {c : Nat} (h : t.cps.toList = [c]) : t = ⟨#[c]⟩ := by
  have : t.cps = #[c] := by
    apply Array.toList_inj.mp
    rw [h]
  rw [← this]
theorem in_view {K : PySem.W.Frag} (neg : Bool) {x y : D} {b : Bool} (h : inB x y = some b) : ∃ i, ∀ (w : Wd) (ρ : En) (σ : L2.St) (H : Hp) (v u : V) (Q : VK), EnvOk K w ρ σ H → View K w.hs H v x → View K w.hs H u y → Q (.bl (if neg then !b else b)) H → rInK K neg i v u H Q := by
  cases y with
  | lst ys =>
    obtain ⟨p, e1, e2⟩ := Option.bind_eq_some_iff.mp h
    obtain ⟨ps, e3, e4⟩ := Option.bind_eq_some_iff.mp e2
    split at e4
    · rename_i hd
      cases e4
      refine ⟨.deep, fun w ρ σ H v u Q ok rv ru k => ?_⟩
      obtain ⟨a1, b1⟩ := toP_view rv ok.sub e1
      obtain ⟨a2, b2⟩ := toP_view (p := .list ps) ru ok.sub (by simp [toP, e3])
      cases neg with
      | true => exact ⟨p, ps, a1, a2, shaped_of b1 hd.1, shaped_of b2 hd.2, k⟩
      | false => exact ⟨p, ps, a1, a2, shaped_of b1 hd.1, shaped_of b2 hd.2, k⟩
    · cases e4
  | tup ys =>
    have h' : (if flatD x && ys.all flatD then some (ys.any fun z => eqF z x) else none) = some b := h
    split at h'
    · rename_i hf
      rw [Bool.and_eq_true] at hf
      cases h'
      refine ⟨.flat, fun w ρ σ H v u Q ok rv ru k => ?_⟩
      cases ru with
      | tup q l t => exact ⟨_, _, rfl, .inr (.of q), flat_view rv hf.1, flat_all t hf.2, by unfold inV; rw [any_eqF rv hf.1 t hf.2]; exact k⟩
    · cases h'
  | ktp ys =>
    have h' : (if flatD x && ys.all flatD then some (ys.any fun z => eqF z x) else none) = some b := h
    split at h'
    · rename_i hf
      rw [Bool.and_eq_true] at hf
      cases h'
      refine ⟨.flat, fun w ρ σ H v u Q ok rv ru k => ?_⟩
      cases ru with
      | ktp q l t => exact ⟨_, _, rfl, .inr q, flat_view rv hf.1, flat_all t hf.2, by unfold inV; rw [any_eqF rv hf.1 t hf.2]; exact k⟩
    · cases h'
  | str z =>
    cases x <;> try (cases h; done)
    rename_i t
    have h' : (match t.cps.toList with
      | [c] => decide (c ∈ z.cps.toList)
      | _ => !(Builtin.Str.occurrences z t 0 z.length 1).isEmpty) = b := Option.some.inj h
    split at h'
    · rename_i c hc
      refine ⟨.sign, fun w ρ σ H v u Q ok rv ru k => ?_⟩
      cases rv
      cases ru
      subst h'
      exact ⟨c, z, by rw [sole hc], rfl, k⟩
    · refine ⟨.text, fun w ρ σ H v u Q ok rv ru k => ?_⟩
      cases rv
      cases ru
      subst h'
      exact ⟨t, z, rfl, rfl, k⟩
  | dct t ks vs =>
    refine ⟨.dict, fun w ρ σ H v u Q ok rv ru k => ?_⟩
    cases ru with
    | @dK a kvs ks vs q e t =>
      obtain ⟨ky, h1, h2⟩ := Option.map_eq_some_iff.mp h
      have ey := keyD_of h1
      subst ey
      have hv : v = kV ky := by cases ky <;> cases rv <;> rfl
      refine ⟨a, valV kvs ky, rfl, .inl ⟨kvs, ky, q, hv, rfl⟩, ?_⟩
      have : (valV kvs ky).isSome = b := by
        rw [← h2, e]
        rw [← dval_mem (vs := vs) (by rw [List.length_map, ← t.length, List.length_map])]
        rcases dval_val (kd := keyD) (fun _ _ => keyD_inj) ky t with ⟨n1, n2⟩ | ⟨d, v', e1, e2, r'⟩
        · rw [n1, n2]; rfl
        · rw [e1, e2]; rfl
      rw [this]; exact k
    | @dT a kvs ks vs q e t =>
      obtain ⟨ky, h1, h2⟩ := Option.map_eq_some_iff.mp h
      have ey := keyT_of h1
      subst ey
      have hv : ∃ b, v = .ref b ∧ H b = some (.tup (ky.map kV)) := by
        unfold keyT at rv
        cases rv with
        | tup q l t => rw [rep_keys t] at q; exact ⟨_, rfl, q⟩
      obtain ⟨b', rfl, hb⟩ := hv
      refine ⟨a, valV kvs ky, rfl, .inr ⟨kvs, ky, b', q, rfl, hb, rfl⟩, ?_⟩
      have : (valV kvs ky).isSome = b := by
        rw [← h2, e]
        rw [← dval_mem (vs := vs) (by rw [List.length_map, ← t.length, List.length_map])]
        rcases dval_val (kd := keyT) (fun _ _ => keyT_inj) ky t with ⟨n1, n2⟩ | ⟨d, v', e1, e2, r'⟩
        · rw [n1, n2]; rfl
        · rw [e1, e2]; rfl
      rw [this]; exact k
  | _ => cases h
theorem c_in (hu : X.A.units + 65 < cLine) : CmpV X .In (rInK X.K false) inO :=
  ⟨fun i => match i with
    | .deep => op_inD hu
    | .flat => op_in_seq
    | .sign => op_in_sign
    | .text => op_in_str
    | .dict => op_inDict (by omega), fun x y z h => by
    obtain ⟨b, h1, h2⟩ := Option.map_eq_some_iff.mp h
    subst h2
    obtain ⟨i, k⟩ := in_view (K := X.K) false h1
    exact ⟨i, fun w ρ σ H v u Q ok rv ru kk => k w ρ σ H v u Q ok rv ru (kk _ w H (.refl _ _) ok (.bl _))⟩⟩
theorem c_notIn (hu : X.A.units + 65 < cLine) : CmpV X .NotIn (rInK X.K true) notInO :=
  ⟨fun i => match i with
    | .deep => op_notInD hu
    | .flat => op_notIn_seq
    | .sign => op_notIn_sign
    | .text => op_notin_str
    | .dict => op_notInDict (by omega), fun x y z h => by
    obtain ⟨b, h1, h2⟩ := Option.map_eq_some_iff.mp h
    subst h2
    obtain ⟨i, k⟩ := in_view (K := X.K) true h1
    exact ⟨i, fun w ρ σ H v u Q ok rv ru kk => k w ρ σ H v u Q ok rv ru (kk _ w H (.refl _ _) ok (.bl _))⟩⟩
/-! ### + - * // % -/
/-- list + list, wherever they stand -/
def rCatS (K : PySem.W.Frag) : R2 := fun x y H Q => ∃ l b xs zs, x = .ref l ∧ y = .ref b ∧ SqL K H l xs ∧ SqL K H b zs ∧ xs.length + zs.length ≤ sizeLine ∧ ∀ p, H p = none → Q (.ref p) (upd H p (.lst (xs ++ zs)))
theorem op_catS : OpR X (binaryOp .Add) (rCatS X.K) := by
  intro pins s σ H x y v u Q I rx ry h
  obtain ⟨l, b, xs, zs, rfl, rfl, hH, hB, hz, q⟩ := h
  cases rx
  cases ry
  obtain ⟨its, r, pl, _⟩ := I.list hH
  obtain ⟨its2, r2, pl2, _⟩ := I.list hB
  obtain ⟨⟨cls, dd, data, sl⟩, n, ho, hc, _, hd⟩ := pl
  obtain ⟨⟨cls2, dd2, data2, sl2⟩, n2, ho2, hc2, _, hd2⟩ := pl2
  simp only at hc hd hc2 hd2
  subst hc hd hc2 hd2
  have e : its.toArray ++ its2.toArray = (its ++ its2).toArray := by simp
  have h1 := r.length
  have h2 := r2.length
  refine concat_meets ⟨_, ho, rfl⟩ ⟨_, ho2, rfl⟩ noFill_list_add seq_list_add PySem.F.slot_list_add PySem.F.entry_list_add (PySem.F.args_list_add_2 _ _) (list_addW l b its.toArray its2.toArray n n2 dd dd2 sl sl2 (by simp; omega)) ⟨ho, ho2, ?_⟩
  rw [e]
  exact ⟨.ref _, _, I.lnew (t' := s.toks) (r.append r2) (by rw [List.length_append]; omega), rfl, q _ I.fresh⟩
def addO : D → D → Option D
  | .int i, .int j => some (.int (i + j))
  | .str x, .str y => if x.length + y.length ≤ sizeLine then some (.str (x ++ y)) else none
  | .tup xs, .tup ys => if xs.length + ys.length ≤ sizeLine then some (.tup (xs ++ ys)) else none
  | _, _ => none
def rAddK (K : PySem.W.Frag) : Fin 3 → R2
  | 0 => rI0 fun i j => .int (i + j)
  | 1 => fun x y H Q => ∃ i j, x = .str i ∧ y = .str j ∧ i.length + j.length ≤ sizeLine ∧ Q (.str (i ++ j)) H
  | 2 => rCatA K
theorem kv_add {K : PySem.W.Frag} : KB K (rAddK K) addO := fun x y z h => by
  cases x with
  | int i =>
    cases y <;> cases h
    exact ⟨0, fun w ρ σ H v u Q ok rv ru k => by cases rv; cases ru; exact ⟨_, _, rfl, rfl, k _ w H (.refl _ _) ok (.int _)⟩⟩
  | str s =>
    cases y <;> try (cases h; done)
    rename_i t
    have h' : (if s.length + t.length ≤ sizeLine then some (D.str (s ++ t)) else none) = some z := h
    split at h'
    · rename_i hl
      cases h'
      exact ⟨1, fun w ρ σ H v u Q ok rv ru k => by
        cases rv with
        | str g1 =>
          cases ru with
          | str g2 => exact ⟨_, _, rfl, rfl, hl, k _ w H (.refl _ _) ok (.str (g1.app g2 hl))⟩⟩
    · cases h'
  | tup xs =>
    cases y <;> try (cases h; done)
    rename_i ys
    have h' : (if xs.length + ys.length ≤ sizeLine then some (D.tup (xs ++ ys)) else none) = some z := h
    split at h'
    · rename_i hl
      cases h'
      exact ⟨2, fun w ρ σ H v u Q ok rv ru k => by
        cases rv with
        | @tup a vs _ q1 l1 t1 =>
          cases ru with
          | @tup b us _ q2 l2 t2 =>
            have e1 := t1.length
            have e2 := t2.length
            refine ⟨a, b, vs, us, rfl, rfl, .of (ok.sub.tup q1), .of (ok.sub.tup q2), by omega, fun hn => ?_, fun hn hn2 => ?_, fun hn hn2 => ?_⟩
            · subst hn
              cases t1
              exact k _ w H (.refl _ _) ok (.tup q2 l2 t2)
            · subst hn2
              cases t2
              rw [List.append_nil] at k
              exact k _ w H (.refl _ _) ok (.tup q1 l1 t1)
            · exact new_tup ok (t1.append t2) (by rw [List.length_append]; omega) k⟩
    · cases h'
  | _ => cases h
theorem ve_add (ha : VE X a f) (hb : VE X b g) : VE X (.BinOp a .Add b pos) (fB addO f g) := ve_bin (r := rAddK X.K) (fun i => match i with
  | 0 => pe_op op_add ha hb
  | 1 => pe_op op_add_str ha hb
  | 2 => pe_op op_catA ha hb) kv_add
/-- list + list -/
def catO : D → D → Option D
  | .lst xs, .lst ys => mkL (xs ++ ys)
  | _, _ => none
theorem vn_cat (ha : VE X a f) (hb : VE X b g) : VN X (.BinOp a .Add b pos) (fB catO f g) := by
  refine weakE (pe_op (r := rCatS X.K) op_catS ha hb) fun σ H Q q => ?_
  obtain ⟨w, ρ, z, ρ', ok, ef, kk⟩ := q
  obtain ⟨⟨x, ρ1⟩, e1, e2⟩ := Option.bind_eq_some_iff.mp ef
  obtain ⟨⟨y, ρ2⟩, e3, e4⟩ := Option.bind_eq_some_iff.mp e2
  obtain ⟨z2, e5, e6⟩ := Option.map_eq_some_iff.mp e4
  cases e6
  refine ⟨w, ρ, x, ρ1, ok, e1, fun v w1 H1 f1 ok1 r1 => ⟨w1, ρ1, y, ρ2, ok1, e3, fun u w2 H2 f2 ok2 r2 => ?_⟩⟩
  cases r1 with
  | lst q1 l1 t1 =>
    cases r2 with
    | lst q2 l2 t2 =>
      have t1' := t1.mono (.of f2.sh)
      have e5' : mkL _ = some z := e5
      unfold mkL at e5'
      split at e5'
      · rename_i hl
        cases e5'
        have x1 := t1.length
        have x2 := t2.length
        rw [List.length_append] at hl
        refine ⟨_, _, _, _, rfl, rfl, ok2.sub.sqL ((Sub.of f2.sh).sqL q1), ok2.sub.sqL q2, by omega, new_lst ok2 (t1'.append t2) (by rw [List.length_append]; omega) fun v' w' H' f' ok' r' => ?_⟩
        exact kk v' w' H' (f1.trans (f2.trans f')) ok' ((r'.old f2).old f1)
      · cases e5'
    | _ => cases e5
  | _ => cases e5
theorem cat_nb : ∀ ρ d ρ', fB catO f g ρ = some (d, ρ') → d.isBox = false := fun ρ d ρ' h => by
  obtain ⟨⟨x, ρ1⟩, e1, e2⟩ := Option.bind_eq_some_iff.mp h
  obtain ⟨⟨y, ρ2⟩, e3, e4⟩ := Option.bind_eq_some_iff.mp e2
  obtain ⟨z2, e5, e6⟩ := Option.map_eq_some_iff.mp e4
  cases e6
  cases x <;> try (cases e5; done)
  cases y <;> try (cases e5; done)
  have e5' : mkL _ = some d := e5
  unfold mkL at e5'
  split at e5' <;> cases e5'
  rfl
theorem ve_cat (ha : VE X a f) (hb : VE X b g) : VE X (.BinOp a .Add b pos) (fB catO f g) := VN.ve (vn_cat ha hb) cat_nb
def subO : D → D → Option D
  | .int i, .int j => some (.int (i - j))
  | _, _ => none
def mulO : D → D → Option D
  | .int i, .int j => if (-(2 ^ 64) < i ∧ i < 2 ^ 64) ∨ (-(2 ^ 64) < j ∧ j < 2 ^ 64) then some (.int (i * j)) else none
  | _, _ => none
def modO : D → D → Option D
  | .int i, .int j => if 0 < j then some (.int (i % j)) else none
  | _, _ => none
def fdivO : D → D → Option D
  | .int i, .int j => if 0 < j ∧ j < 1073741824 then some (.int (i / j)) else none
  | _, _ => none
theorem ve_subI (ha : VE X a f) (hb : VE X b g) : VE X (.BinOp a .Sub b pos) (fB subO f g) := ve_bin (ι := Unit) (r := fun _ => rI0 fun i j => .int (i - j)) (fun _ => pe_op op_sub ha hb) fun x y z h => by
  cases x <;> try (cases h; done)
  cases y <;> try (cases h; done)
  cases h
  exact ⟨(), fun w ρ σ H v u Q ok rv ru k => by cases rv; cases ru; exact ⟨_, _, rfl, rfl, k _ w H (.refl _ _) ok (.int _)⟩⟩
theorem ve_mul (ha : VE X a f) (hb : VE X b g) : VE X (.BinOp a .Mult b pos) (fB mulO f g) := ve_bin (ι := Unit) (r := fun _ => rI CMul fun i j => .int (i * j)) (fun _ => pe_op op_mul ha hb) fun x y z h => by
  cases x <;> try (cases h; done)
  cases y <;> try (cases h; done)
  rename_i i j
  have h' : (if (-(2 ^ 64) < i ∧ i < 2 ^ 64) ∨ (-(2 ^ 64) < j ∧ j < 2 ^ 64) then some (D.int (i * j)) else none) = some z := h
  split at h'
  · rename_i hc
    cases h'
    exact ⟨(), fun w ρ σ H v u Q ok rv ru k => by cases rv; cases ru; exact ⟨_, _, rfl, rfl, hc, k _ w H (.refl _ _) ok (.int _)⟩⟩
  · cases h'
theorem ve_mod (ha : VE X a f) (hb : VE X b g) : VE X (.BinOp a .Mod b pos) (fB modO f g) := ve_bin (ι := Unit) (r := fun _ => rI (fun _ j => 0 < j) fun i j => .int (i % j)) (fun _ => pe_op op_mod ha hb) fun x y z h => by
  cases x <;> try (cases h; done)
  cases y <;> try (cases h; done)
  rename_i i j
  have h' : (if 0 < j then some (D.int (i % j)) else none) = some z := h
  split at h'
  · rename_i hc
    cases h'
    exact ⟨(), fun w ρ σ H v u Q ok rv ru k => by cases rv; cases ru; exact ⟨_, _, rfl, rfl, hc, k _ w H (.refl _ _) ok (.int _)⟩⟩
  · cases h'
theorem ve_fdiv (ha : VE X a f) (hb : VE X b g) : VE X (.BinOp a .FloorDiv b pos) (fB fdivO f g) := ve_bin (ι := Unit) (r := fun _ => rI CDiv fun i j => .int (i / j)) (fun _ => pe_op op_fdiv ha hb) fun x y z h => by
  cases x <;> try (cases h; done)
  cases y <;> try (cases h; done)
  rename_i i j
  have h' : (if 0 < j ∧ j < 1073741824 then some (D.int (i / j)) else none) = some z := h
  split at h'
  · rename_i hc
    cases h'
    exact ⟨(), fun w ρ σ H v u Q ok rv ru k => by cases rv; cases ru; exact ⟨_, _, rfl, rfl, hc, k _ w H (.refl _ _) ok (.int _)⟩⟩
  · cases h'
end
end VS
set_option autoImplicit false
namespace VS
open PySem PySem.Spec PyProof.Rows L2 AR
section
variable {X : Cx} {a b e tg : Expr} {f g : FE} {pos p : Pos}
/-! ### what is walked -/
def itD : D → Option (List D)
  | .lst xs => some xs
  | .tup xs => some xs
  | .ktp xs => some xs
  | .str x => some (chD x)
  | _ => none
def iS (f : FE) : FI := fun ρ => (f ρ).bind fun p => (itD p.1).map fun ds => (ds, p.2)
theorem orI {ι : Type} {t : ι → TI} {t' : TI} (h : ∀ i, PI X tg e (t i)) (k : ∀ σ H R, t' σ H R → ∃ i, t i σ H R) : PI X tg e t' := ⟨fun pins s σ H R I q => by
  obtain ⟨i, q'⟩ := k σ H R q
  exact (h i).run pins s σ H R I q'⟩
theorem chD_rep {K : PySem.W.Frag} {H : Hp} {x : Str} (g : SG x) : RepAll K H (chV x) (chD x) := by
  unfold chV chD
  have : ∀ l : List Nat, (∀ c ∈ l, c ∈ x.cps.toList) → RepAll K H (l.map fun c => V.str ⟨#[c]⟩) (l.map fun c => D.str ⟨#[c]⟩) := fun l => by
    induction l with
    | nil => intro _; exact .nil
    | cons c l ih => intro h; exact .cons (.str (g.one (h c List.mem_cons_self))) (ih fun d hd => h d (List.mem_cons_of_mem _ hd))
  exact this _ fun c hc => hc
theorem ity_at {K : PySem.W.Frag} {J : It} {w : Wd} {xs : List V} {ds : List D} {G : Hp → Prop} (wk : Walk J xs.length G (YAt xs)) (hG : ∀ H, Sub w.hs H → G H) (r : RepAll K w.hs xs ds) : Ity K J w ds := by
  refine ⟨G, YAt xs, by rw [← r.length]; exact wk, hG, fun i H x H' d y hd => .inl ⟨y.1, ?_⟩⟩
  obtain ⟨d', h1, h2⟩ := r.get i y.2
  rw [hd] at h1; cases h1; exact h2
theorem vi_seq (h : VE X e f) : VI X tg e (iS f) := by
  refine orI (ι := Fin 3) (t := fun i => if i = 0 then iList X.K (tV X.K f) else if i = 1 then iTup X.K (tV X.K f) else iStr (tV X.K f)) (fun i => ?_) fun σ H R q => ?_
  · match i with
    | 0 => exact pi_list h
    | 1 => exact pi_tup h
    | 2 => exact pi_str h
  · obtain ⟨w, ρ, ds, ρ', ok, ef, k⟩ := q
    obtain ⟨⟨d, ρ1⟩, e1, e2⟩ := Option.bind_eq_some_iff.mp ef
    obtain ⟨ds', e3, e4⟩ := Option.map_eq_some_iff.mp e2
    cases e4
    cases d with
    | lst xs =>
      cases e3
      refine ⟨0, w, ρ, _, _, ok, e1, fun v w1 H1 f1 ok1 r1 => ?_⟩
      cases r1 with
      | @lst a vs _ q l t => exact ⟨a, rfl, ⟨_, ok1.sub.sqL q⟩, k _ w1 H1 f1 ok1 (ity_at (walk_list (xs := vs)) (fun H' s => s.sqL q) t)⟩
    | tup xs =>
      cases e3
      refine ⟨1, w, ρ, _, _, ok, e1, fun v w1 H1 f1 ok1 r1 => ?_⟩
      cases r1 with
      | @tup a vs _ q l t => exact ⟨a, rfl, ⟨_, .of (ok1.sub.tup q)⟩, k _ w1 H1 f1 ok1 (ity_at (walk_tup (xs := vs)) (fun H' s => .of (s.tup q)) t)⟩
    | ktp xs =>
      cases e3
      refine ⟨1, w, ρ, _, _, ok, e1, fun v w1 H1 f1 ok1 r1 => ?_⟩
      cases r1 with
      | @ktp a vs _ q l t => exact ⟨a, rfl, ⟨_, ok1.sub.sqT q⟩, k _ w1 H1 f1 ok1 (ity_at (walk_tup (xs := vs)) (fun H' s => s.sqT q) t)⟩
    | str x =>
      cases e3
      refine ⟨2, w, ρ, _, _, ok, e1, fun v w1 H1 f1 ok1 r1 => ?_⟩
      cases r1 with
      | str g =>
        have hr : RepAll X.K w1.hs (chV x) (chD x) := chD_rep g
        refine ⟨x, rfl, k _ w1 H1 f1 ok1 ⟨fun _ => True, fun i H v H' => H' = H ∧ ∃ c, x.cps[i]? = some c ∧ v = .str ⟨#[c]⟩, ?_, fun _ _ => trivial, fun i H x' H' d y hd => ?_⟩⟩
        · have : (chD x).length = x.cps.size := by unfold chD; rw [List.length_map]; simp
          rw [this]; exact walk_str
        · obtain ⟨rfl, c, hc, rfl⟩ := y
          refine .inl ⟨rfl, ?_⟩
          have : (chV x)[i]? = some (.str ⟨#[c]⟩) := by
            unfold chV
            rw [List.getElem?_map, Array.getElem?_toList, hc]; rfl
          obtain ⟨d', h1, h2⟩ := hr.get i this
          rw [hd] at h1; cases h1; exact h2
    | _ => cases e3
/-- range -/
def rngD (lo hi : Int) : List D := (List.range (hi - lo).toNat).map fun i => D.int (lo + (i : Nat))
def iR1 (a : FA) : FI := fun ρ => (a ρ).bind fun p => match p.1 with
  | [.int j] => if -(2 ^ 62) ≤ j ∧ j < 2 ^ 62 then some (rngD 0 j, p.2) else none
  | _ => none
def iR2 (a : FA) : FI := fun ρ => (a ρ).bind fun p => match p.1 with
  | [.int i, .int j] => if -(2 ^ 62) ≤ i ∧ i < 2 ^ 62 ∧ -(2 ^ 62) ≤ j ∧ j < 2 ^ 62 then some (rngD i j, p.2) else none
  | _ => none
theorem ity_rng {K : PySem.W.Frag} {w : Wd} {lo hi : Int} : Ity K (Itr lo (hi - lo).toNat) w (rngD lo hi) := by
  have hl : (rngD lo hi).length = (hi - lo).toNat := by unfold rngD; simp
  refine ⟨fun _ => True, YFn fun i => .int (lo + i), by rw [hl]; exact walk_range, fun _ _ => trivial, fun i H x H' d y hd => .inl ⟨y.1, ?_⟩⟩
  rw [y.2]
  unfold rngD at hd
  rw [List.getElem?_map] at hd
  obtain ⟨j, h1, h2⟩ := Option.map_eq_some_iff.mp hd
  rw [← h2]
  obtain ⟨h3, h4⟩ := List.getElem?_eq_some_iff.mp h1
  rw [List.getElem_range] at h4
  subst h4
  exact .int _
variable {ga : FA} {es : List Expr}
theorem vi_rng1 (hg : Gl X "range") (hm : X.mg "range" = none) (ha : VA X [a] ga) (hs : starEach [a] X.env = [(false, eval a X.env)] := by rfl) : VI X tg (.Call (.Name "range" p) [a] [] pos) (iR1 ga) := by
  refine orI (ι := Unit) (fun _ => pi_range1 hg hm ha hs) fun σ H R q => ⟨(), ?_⟩
  obtain ⟨w, ρ, ds, ρ', ok, ef, k⟩ := q
  obtain ⟨⟨as, ρ1⟩, e1, e2⟩ := Option.bind_eq_some_iff.mp ef
  refine ⟨w, ρ, as, ρ1, ok, e1, fun vs w1 H1 f1 ok1 r1 => ?_⟩
  split at e2
  · rename_i j ej
    split at e2
    · rename_i hj
      cases e2
      cases (show as = [.int j] from ej)
      cases r1 with
      | cons r t =>
        cases r
        cases t
        have hk := k _ w1 H1 f1 ok1 (ity_rng (lo := 0) (hi := j))
        rw [Int.sub_zero] at hk
        exact ⟨j, rfl, hj.1, hj.2, hk⟩
    · cases e2
  · cases e2
theorem vi_rng2 (hg : Gl X "range") (hm : X.mg "range" = none) (ha : VA X [a, b] ga) (hs : starEach [a, b] X.env = [(false, eval a X.env), (false, eval b X.env)] := by rfl) (hs2 : starEach [b] X.env = [(false, eval b X.env)] := by rfl) : VI X tg (.Call (.Name "range" p) [a, b] [] pos) (iR2 ga) := by
  refine orI (ι := Unit) (fun _ => pi_range2 hg hm ha hs hs2) fun σ H R q => ⟨(), ?_⟩
  obtain ⟨w, ρ, ds, ρ', ok, ef, k⟩ := q
  obtain ⟨⟨as, ρ1⟩, e1, e2⟩ := Option.bind_eq_some_iff.mp ef
  refine ⟨w, ρ, as, ρ1, ok, e1, fun vs w1 H1 f1 ok1 r1 => ?_⟩
  split at e2
  · rename_i i j ej
    split at e2
    · rename_i hj
      cases e2
      cases (show as = [.int i, .int j] from ej)
      cases r1 with
      | cons r t =>
        cases r
        cases t with
        | cons r t =>
          cases r
          cases t
          exact ⟨i, j, rfl, hj, k _ w1 H1 f1 ok1 (ity_rng (lo := i) (hi := j))⟩
    · cases e2
  · cases e2
/-! ### zip, enumerate -/
theorem src_of {K : PySem.W.Frag} {hs : Hp} {v : V} {d : D} {ds : List D} (r : Rep K hs v d) (h : itD d = some ds) : ∃ (s : Src) (xs : List V), v = s.v ∧ (∀ H, Sub hs H → s.has K H xs) ∧ RepAll K hs xs ds := by
  cases r with
  | @lst a xs _ q l t => cases h; exact ⟨.lst a, xs, rfl, fun H s => s.sqL q, t⟩
  | @tup a xs _ q l t => cases h; exact ⟨.tup a, xs, rfl, fun H s => .of (s.tup q), t⟩
  | @ktp a xs _ q l t => cases h; exact ⟨.tup a, xs, rfl, fun H s => s.sqT q, t⟩
  | @str x g => cases h; exact ⟨.txt x, chV x, rfl, fun H s => rfl, chD_rep g⟩
  | _ => cases h
def zipD (xs ys : List D) : List D := List.zipWith (fun x y => D.tup [x, y]) xs ys
def iZp (a : FA) : FI := fun ρ => (a ρ).bind fun p => match p.1 with
  | [x, y] => (itD x).bind fun xs => (itD y).map fun ys => (zipD xs ys, p.2)
  | _ => none
theorem zipD_get {xs ys : List D} {i : Nat} {d : D} (h : (zipD xs ys)[i]? = some d) : ∃ x y, xs[i]? = some x ∧ ys[i]? = some y ∧ d = .tup [x, y] := by
  unfold zipD at h
  rw [List.getElem?_zipWith] at h
  split at h
  · rename_i x y h1 h2; cases h; exact ⟨x, y, h1, h2, rfl⟩
  · cases h
theorem vi_zip {elts : List Expr} {kk : Nat} {tpos : Pos} (hg : Gl X "zip") (hm : X.mg "zip" = none) (ha : VA X [a, b] ga) (hs : starEach [a, b] X.env = (false, eval a X.env) :: starEach [b] X.env := by rfl) (hpl : (backTo pos (starEach [b] X.env)).any (·.1) = false := by rfl) :
    VI X (.Tuple elts kk tpos) (.Call (.Name "zip" p) [a, b] [] pos) (iZp ga) := by
  refine orI (ι := Unit) (fun _ => pi_Z hg hm ha hs hpl) fun σ H R q => ⟨(), ?_⟩
  obtain ⟨w, ρ, ds, ρ', ok, ef, k⟩ := q
  obtain ⟨⟨as, ρ1⟩, e1, e2⟩ := Option.bind_eq_some_iff.mp ef
  refine ⟨w, ρ, as, ρ1, ok, e1, fun vs w1 H1 f1 ok1 r1 => ?_⟩
  split at e2
  · rename_i x y ej
    cases (show as = [x, y] from ej)
    obtain ⟨xs, e3, e4⟩ := Option.bind_eq_some_iff.mp e2
    obtain ⟨ys, e5, e6⟩ := Option.map_eq_some_iff.mp e4
    cases e6
    cases r1 with
    | cons rx t =>
      cases t with
      | cons ry t =>
        cases t
        obtain ⟨s1, us, rfl, h1, t1⟩ := src_of rx e3
        obtain ⟨s2, ws, rfl, h2, t2⟩ := src_of ry e5
        refine ⟨s1, s2, us, ws, rfl, h1 _ ok1.sub, h2 _ ok1.sub, k _ w1 H1 f1 ok1 ⟨fun H => s1.has X.K H us ∧ s2.has X.K H ws, YPair (fun i => us[i]?) (fun i => ws[i]?), ?_, fun H s => ⟨h1 H s, h2 H s⟩, fun i H x' H' d y hd => .inr ?_⟩⟩
        · have : (zipD xs ys).length = min us.length ws.length := by unfold zipD; rw [List.length_zipWith, t1.length, t2.length]
          rw [this]; exact walk_Z
        · obtain ⟨T, u, v, rfl, hT, rfl, hu, hv⟩ := y
          obtain ⟨d1, d2, g1, g2, rfl⟩ := zipD_get hd
          obtain ⟨d1', g3, r3⟩ := t1.get i hu
          obtain ⟨d2', g4, r4⟩ := t2.get i hv
          rw [g1] at g3; cases g3
          rw [g2] at g4; cases g4
          exact ⟨T, [u, v], [d1, d2], rfl, hT, rfl, by show 2 ≤ sizeLine; decide, .cons r3 (.cons r4 .nil), rfl⟩
  · cases e2
def enuD (xs : List D) : List D := (List.range xs.length).zipWith (fun i x => D.tup [.int (i : Nat), x]) xs
def iEn (f : FE) : FI := fun ρ => (f ρ).bind fun p => match p.1 with
  | .lst xs => some (enuD xs, p.2)
  | .tup xs => some (enuD xs, p.2)
  | .str x => some (enuD (chD x), p.2)
  | _ => none
theorem enuD_length (xs : List D) : (enuD xs).length = xs.length := by unfold enuD; simp
theorem enuD_get {xs : List D} {i : Nat} {d : D} (h : (enuD xs)[i]? = some d) : ∃ x, xs[i]? = some x ∧ d = .tup [.int (i : Nat), x] := by
  unfold enuD at h
  rw [List.getElem?_zipWith] at h
  split at h
  · rename_i j x h1 h2
    cases h
    obtain ⟨h3, h4⟩ := List.getElem?_eq_some_iff.mp h1
    rw [List.getElem_range] at h4
    subst h4
    exact ⟨x, h2, rfl⟩
  · cases h
theorem vi_enu {elts : List Expr} {kk : Nat} {tpos : Pos} (hg : Gl X "enumerate") (hm : X.mg "enumerate" = none) (h : VE X a f) (hs : starEach [a] X.env = [(false, eval a X.env)] := by rfl) (hs' : starEach [a] X.env = (false, eval a X.env) :: starEach [] X.env := by rfl) :
    VI X (.Tuple elts kk tpos) (.Call (.Name "enumerate" p) [a] [] pos) (iEn f) := by
  refine orI (ι := Fin 3) (t := fun i => if i = 1 then iEnumT X.K (tCons (tV X.K f) tNil) else if i = 0 then iEnum X.K (tCons (tV X.K f) tNil) else iEnumU X.K (tCons (tV X.K f) tNil)) (fun i => ?_) fun σ H R q => ?_
  · match i with
    | 1 => exact pi_enumT X.K hg hm (pa_cons h pa_nil hs') rfl hs
    | 0 => exact pi_enum hg hm (pa_cons h pa_nil hs') hs
    | 2 => exact pi_enumU X.K hg hm (pa_cons h pa_nil hs') rfl hs
  · obtain ⟨w, ρ, ds, ρ', ok, ef, k⟩ := q
    obtain ⟨⟨d, ρ1⟩, e1, e2⟩ := Option.bind_eq_some_iff.mp ef
    cases d with
    | lst xs =>
      cases e2
      refine ⟨0, w, ρ, _, _, ok, e1, fun v w1 H1 f1 ok1 r1 => ?_⟩
      cases r1 with
      | @lst a vs _ q l t =>
        refine ⟨a, vs, rfl, ok1.sub.sqL q, k _ w1 H1 f1 ok1 ⟨fun H => SqL X.K H a vs, YPair (fun i => some (.int (i : Nat))) (fun i => vs[i]?), ?_, fun H s => s.sqL q, fun i H x' H' d y hd => .inr ?_⟩⟩
        · rw [enuD_length, ← t.length]; exact walk_enum
        · obtain ⟨T, u, v, rfl, hT, rfl, hu, hv⟩ := y
          obtain ⟨d2, g2, rfl⟩ := enuD_get hd
          obtain ⟨d2', g4, r4⟩ := t.get i hv
          rw [g2] at g4; cases g4
          cases hu
          exact ⟨T, _, _, rfl, hT, rfl, by show 2 ≤ sizeLine; decide, .cons (.int _) (.cons r4 .nil), rfl⟩
    | str x =>
      cases e2
      refine ⟨1, w, ρ, _, _, ok, e1, fun v w1 H1 f1 ok1 r1 => ?_⟩
      cases r1 with
      | str g =>
        have t : RepAll X.K w1.hs (chV x) (chD x) := chD_rep g
        refine ⟨x, rfl, k _ w1 H1 f1 ok1 ⟨fun H => (Src.txt x).has X.K H (chV x), YEnum (chV x), ?_, fun H s => rfl, fun i H x' H' d y hd => .inr ?_⟩⟩
        · rw [enuD_length, ← t.length]; exact walk_E
        · obtain ⟨T, v, rfl, hT, rfl, hv⟩ := y
          obtain ⟨d2, g2, rfl⟩ := enuD_get hd
          obtain ⟨d2', g4, r4⟩ := t.get i hv
          rw [g2] at g4; cases g4
          exact ⟨T, _, _, rfl, hT, rfl, by show 2 ≤ sizeLine; decide, .cons (.int _) (.cons r4 .nil), rfl⟩
    | tup xs =>
      cases e2
      refine ⟨2, w, ρ, _, _, ok, e1, fun v w1 H1 f1 ok1 r1 => ?_⟩
      cases r1 with
      | @tup a vs _ q l t =>
        refine ⟨a, vs, rfl, .of (ok1.sub.tup q), k _ w1 H1 f1 ok1 ⟨fun H => (Src.tup a).has X.K H vs, YEnum vs, ?_, fun H s => .of (s.tup q), fun i H x' H' d y hd => .inr ?_⟩⟩
        · rw [enuD_length, ← t.length]; exact walk_E
        · obtain ⟨T, v, rfl, hT, rfl, hv⟩ := y
          obtain ⟨d2, g2, rfl⟩ := enuD_get hd
          obtain ⟨d2', g4, r4⟩ := t.get i hv
          rw [g2] at g4; cases g4
          exact ⟨T, _, _, rfl, hT, rfl, by show 2 ≤ sizeLine; decide, .cons (.int _) (.cons r4 .nil), rfl⟩
    | _ => cases e2
end
end VS
set_option autoImplicit false
namespace VS
open PySem PySem.Spec PyProof.Rows L2 AR
section
variable {X : Cx} {a b e : Expr} {f g : FE} {pos p apos : Pos} {ga : FA} {es : List Expr}
/-! ### calls of one shared thing -/
/-- T(a) or f(a) by values, the answer shared -/
theorem ve_call1 {r : List V → Hp → VK → Prop} {op : D → Option D} (h : PE X e (tCB r (tCons (tV X.K f) tNil)))
    (k : ∀ (w : Wd) (ρ : En) (σ : L2.St) (H : Hp) (v : V) (d d' : D) (Q : VK), EnvOk X.K w ρ σ H → Rep X.K w.hs v d → op d = some d' → (∀ v' w' H', Fr w H w' H' → EnvOk X.K w' ρ σ H' → Rep X.K w'.hs v' d' → Q v' H') → r [v] H Q) : VE X e (fU op f) :=
  ve_un (r := fun x H Q => r [x] H Q) h k
/-- .. the answer new -/
theorem vn_un {ι : Type} {r : ι → V → Hp → VK → Prop} {op : D → Option D} (h : ∀ i, PE X e (fun σ H Q => tV X.K f σ H fun x H1 => r i x H1 Q))
    (k : ∀ (d d' : D), op d = some d' → ∃ i, ∀ (w : Wd) (ρ : En) (σ : L2.St) (H : Hp) (v : V) (Q : VK), EnvOk X.K w ρ σ H → Rep X.K w.hs v d → (∀ v' w' H', Fr w H w' H' → EnvOk X.K w' ρ σ H' → Fresh X.K w' H H' v' d' → Q v' H') → r i v H Q) : VN X e (fU op f) := by
  refine orE h fun σ H Q q => ?_
  obtain ⟨w, ρ, d', ρ', ok, ef, kk⟩ := q
  obtain ⟨⟨d, ρ1⟩, e1, e2⟩ := Option.bind_eq_some_iff.mp ef
  obtain ⟨d2, e3, e4⟩ := Option.map_eq_some_iff.mp e2
  cases e4
  obtain ⟨i, ki⟩ := k d d' e3
  refine ⟨i, w, ρ, d, ρ1, ok, e1, fun v w1 H1 f1 ok1 r1 => ?_⟩
  exact ki w1 ρ1 σ H1 v Q ok1 r1 fun v' w' H' f' ok' r' => kk v' w' H' (f1.trans f') ok' (r'.old f1)
def tupO : D → Option D
  | .lst ds => some (.tup ds)
  | .tup ds => some (.tup ds)
  | _ => none
theorem ve_tuple (hg : Gl X "tuple") (hb : X.mg "tuple" = none) (h : VE X a f) (he : starEach [a] X.env = (false, eval a X.env) :: starEach [] X.env := by rfl) : VE X (.Call (.Name "tuple" p) [a] [] pos) (fU tupO f) := by
  refine ve_call1 (pe_callTy (call_tupK X.K) hg hb (by decide +kernel) (pa_cons h pa_nil he) (he := he)) fun w ρ σ H v d d' Q ok r ed k => ?_
  cases r with
  | lst q l t => cases ed; exact ⟨_, _, rfl, .inl ⟨ok.sub.sqL q, new_tup ok t l k⟩⟩
  | tup q l t => cases ed; exact ⟨_, _, rfl, .inr ⟨.of (ok.sub.tup q), k _ w H (.refl _ _) ok (.tup q l t)⟩⟩
  | _ => cases ed
def lstO : D → Option D
  | .lst ds => some (.lst ds)
  | .tup ds => some (.lst ds)
  | .ktp ds => some (.lst ds)
  | .str x => some (.lst (chD x))
  | _ => none
theorem vn_listOf (hc : X.calm = true) (hg : Gl X "list") (hb : X.mg "list" = none) (h : VE X a f) (he : starEach [a] X.env = (false, eval a X.env) :: starEach [] X.env := by rfl) : VN X (.Call (.Name "list" p) [a] [] pos) (fU lstO f) := by
  refine vn_un (ι := Bool) (r := fun i x H Q => if i then rListT [x] H Q else rListQ X.K [x] H Q) (fun i => ?_) fun d d' ed => ?_
  · cases i with
    | true => exact pe_callTy (call_listT hc) hg hb (by decide +kernel) (pa_cons h pa_nil he) (he := he)
    | false => exact pe_callTy (call_listK X.K) hg hb (by decide +kernel) (pa_cons h pa_nil he) (he := he)
  · cases d with
    | lst xs => cases ed; exact ⟨false, fun w ρ σ H v Q ok r k => by cases r with | lst q l t => exact ⟨_, _, rfl, .inl (ok.sub.sqL q), new_lst ok t l k⟩⟩
    | tup xs => cases ed; exact ⟨false, fun w ρ σ H v Q ok r k => by cases r with | tup q l t => exact ⟨_, _, rfl, .inr (.of (ok.sub.tup q)), new_lst ok t l k⟩⟩
    | ktp xs => cases ed; exact ⟨false, fun w ρ σ H v Q ok r k => by cases r with | ktp q l t => exact ⟨_, _, rfl, .inr (ok.sub.sqT q), new_lst ok t l k⟩⟩
    | str x => cases ed; exact ⟨true, fun w ρ σ H v Q ok r k => by
        cases r with
        | str g => exact ⟨x, rfl, g.1, new_lst ok (chD_rep g) (by unfold chV; rw [List.length_map]; exact g.1) k⟩⟩
    | _ => cases ed
theorem lstO_nb : ∀ ρ d ρ', fU lstO f ρ = some (d, ρ') → d.isBox = false := fun ρ d ρ' h => by
  obtain ⟨⟨d, ρ1⟩, e1, e2⟩ := Option.bind_eq_some_iff.mp h
  obtain ⟨d2, e3, e4⟩ := Option.map_eq_some_iff.mp e2
  cases e4
  cases d <;> cases e3 <;> rfl
theorem ve_listOf (hc : X.calm = true) (hg : Gl X "list") (hb : X.mg "list" = none) (h : VE X a f) (he : starEach [a] X.env = (false, eval a X.env) :: starEach [] X.env := by rfl) : VE X (.Call (.Name "list" p) [a] [] pos) (fU lstO f) := VN.ve (vn_listOf hc hg hb h he) lstO_nb
/-! ### all, any, sum -/
def blsOf : List D → Option (List Bool)
  | [] => some []
  | .bl b :: ds => (blsOf ds).map fun bs => b :: bs
  | _ => none
def intsOf : List D → Option (List Int)
  | [] => some []
  | .int b :: ds => (intsOf ds).map fun bs => b :: bs
  | _ => none
theorem bls_rep {K : PySem.W.Frag} {H : Hp} : ∀ {vs : List V} {ds : List D} {bs : List Bool}, RepAll K H vs ds → blsOf ds = some bs → vs = bs.map V.bl
  | _, _, _, .nil, h => by cases h; rfl
  | _, _, _, .cons r t, h => by
    cases r with
    | bl b =>
      obtain ⟨r, h1, h2⟩ := Option.map_eq_some_iff.mp h
      subst h2
      rw [bls_rep t h1]; rfl
    | _ => cases h
theorem ints_rep {K : PySem.W.Frag} {H : Hp} : ∀ {vs : List V} {ds : List D} {bs : List Int}, RepAll K H vs ds → intsOf ds = some bs → vs = bs.map V.int
  | _, _, _, .nil, h => by cases h; rfl
  | _, _, _, .cons r t, h => by
    cases r with
    | int b =>
      obtain ⟨r, h1, h2⟩ := Option.map_eq_some_iff.mp h
      subst h2
      rw [ints_rep t h1]; rfl
    | _ => cases h
def allO : D → Option D
  | .lst ds => (blsOf ds).map fun bs => .bl (bs.all id)
  | _ => none
def anyO : D → Option D
  | .lst ds => (blsOf ds).map fun bs => .bl (bs.any id)
  | _ => none
def sumO : D → Option D
  | .lst ds => (intsOf ds).map fun bs => .int bs.sum
  | _ => none
theorem ve_all (hc : X.calm = true) (hg : Gl X "all") (hb : X.mg "all" = none) (h : VE X a f) (he : starEach [a] X.env = (false, eval a X.env) :: starEach [] X.env := by rfl) : VE X (.Call (.Name "all" p) [a] [] pos) (fU allO f) := by
  refine ve_call1 (pe_callB (cr_all hc) hg hb (by decide +kernel) (pa_cons h pa_nil he) (he := he)) fun w ρ σ H v d d' Q ok r ed k => ?_
  cases r with
  | lst q l t =>
    obtain ⟨bs, h1, h2⟩ := Option.map_eq_some_iff.mp ed
    subst h2
    rw [bls_rep t h1] at q
    exact ⟨_, bs, rfl, ok.sub.sqL q, k _ w H (.refl _ _) ok (.bl _)⟩
  | _ => cases ed
theorem ve_any (hc : X.calm = true) (hg : Gl X "any") (hb : X.mg "any" = none) (h : VE X a f) (he : starEach [a] X.env = (false, eval a X.env) :: starEach [] X.env := by rfl) : VE X (.Call (.Name "any" p) [a] [] pos) (fU anyO f) := by
  refine ve_call1 (pe_callB (cr_any hc) hg hb (by decide +kernel) (pa_cons h pa_nil he) (he := he)) fun w ρ σ H v d d' Q ok r ed k => ?_
  cases r with
  | lst q l t =>
    obtain ⟨bs, h1, h2⟩ := Option.map_eq_some_iff.mp ed
    subst h2
    rw [bls_rep t h1] at q
    exact ⟨_, bs, rfl, ok.sub.sqL q, k _ w H (.refl _ _) ok (.bl _)⟩
  | _ => cases ed
theorem ve_sum (hc : X.calm = true) (hg : Gl X "sum") (hb : X.mg "sum" = none) (h : VE X a f) (he : starEach [a] X.env = (false, eval a X.env) :: starEach [] X.env := by rfl) : VE X (.Call (.Name "sum" p) [a] [] pos) (fU sumO f) := by
  refine ve_call1 (pe_callB (cr_sum hc) hg hb (by decide +kernel) (pa_cons h pa_nil he) (he := he)) fun w ρ σ H v d d' Q ok r ed k => ?_
  cases r with
  | lst q l t =>
    obtain ⟨bs, h1, h2⟩ := Option.map_eq_some_iff.mp ed
    subst h2
    rw [ints_rep t h1] at q
    exact ⟨_, bs, rfl, ok.sub.sqL q, k _ w H (.refl _ _) ok (.int _)⟩
  | _ => cases ed
/-! ### int, abs, max, min -/
def intO : D → Option D
  | .int i => some (.int i)
  | .bl b => some (.int (if b then 1 else 0))
  | _ => none
def absO : D → Option D
  | .int i => some (.int (if i < 0 then -i else i))
  | _ => none
def maxO : D → D → Option D
  | .int i, .int j => some (.int (if j > i then j else i))
  | _, _ => none
def minO : D → D → Option D
  | .int i, .int j => some (.int (if j < i then j else i))
  | _, _ => none
theorem ve_intOf (hg : Gl X "int") (hb : X.mg "int" = none) (h : VE X a f) (he : starEach [a] X.env = (false, eval a X.env) :: starEach [] X.env := by rfl) : VE X (.Call (.Name "int" p) [a] [] pos) (fU intO f) := by
  refine ve_call1 (pe_callTy call_int1 hg hb (by decide +kernel) (pa_cons h pa_nil he) (he := he)) fun w ρ σ H v d d' Q ok r ed k => ?_
  cases r with
  | int i => cases ed; exact .inl ⟨_, rfl, k _ w H (.refl _ _) ok (.int _)⟩
  | bl b => cases ed; exact .inr ⟨_, rfl, k _ w H (.refl _ _) ok (.int _)⟩
  | _ => cases ed
theorem ve_abs (hg : Gl X "abs") (hb : X.mg "abs" = none) (h : VE X a f) (he : starEach [a] X.env = (false, eval a X.env) :: starEach [] X.env := by rfl) : VE X (.Call (.Name "abs" p) [a] [] pos) (fU absO f) := by
  refine ve_call1 (pe_callB call_abs hg hb (by decide +kernel) (pa_cons h pa_nil he) (he := he)) fun w ρ σ H v d d' Q ok r ed k => ?_
  cases r with
  | int i => cases ed; exact ⟨_, rfl, k _ w H (.refl _ _) ok (.int _)⟩
  | _ => cases ed
theorem ve_max2 (hc : X.calm = true) (hg : Gl X "max") (hb : X.mg "max" = none) (h : VE X a f) (h2 : VE X b g) (he : starEach [a, b] X.env = (false, eval a X.env) :: starEach [b] X.env := by rfl) (he2 : starEach [b] X.env = (false, eval b X.env) :: starEach [] X.env := by rfl) (hpl : (backTo pos (starEach [b] X.env)).any (·.1) = false := by rfl) : VE X (.Call (.Name "max" p) [a, b] [] pos) (fB maxO f g) := by
  refine ve_bin (ι := Unit) (r := fun _ x y H Q => ∃ i j, [x, y] = [V.int i, V.int j] ∧ Q (.int (if j > i then j else i)) H) (fun _ => pe_callB (call_max2 hc) hg hb (by decide +kernel) (pa_cons h (pa_cons h2 pa_nil he2) he) (he := he) (hpl := hpl)) fun x y z ed => ⟨(), fun w ρ σ H v u Q ok rv ru k => ?_⟩
  cases x <;> try (cases ed; done)
  cases y <;> try (cases ed; done)
  cases ed
  cases rv
  cases ru
  exact ⟨_, _, rfl, k _ w H (.refl _ _) ok (.int _)⟩
theorem ve_min2 (hc : X.calm = true) (hg : Gl X "min") (hb : X.mg "min" = none) (h : VE X a f) (h2 : VE X b g) (he : starEach [a, b] X.env = (false, eval a X.env) :: starEach [b] X.env := by rfl) (he2 : starEach [b] X.env = (false, eval b X.env) :: starEach [] X.env := by rfl) (hpl : (backTo pos (starEach [b] X.env)).any (·.1) = false := by rfl) : VE X (.Call (.Name "min" p) [a, b] [] pos) (fB minO f g) := by
  refine ve_bin (ι := Unit) (r := fun _ x y H Q => ∃ i j, [x, y] = [V.int i, V.int j] ∧ Q (.int (if j < i then j else i)) H) (fun _ => pe_callB (call_min2 hc) hg hb (by decide +kernel) (pa_cons h (pa_cons h2 pa_nil he2) he) (he := he) (hpl := hpl)) fun x y z ed => ⟨(), fun w ρ σ H v u Q ok rv ru k => ?_⟩
  cases x <;> try (cases ed; done)
  cases y <;> try (cases ed; done)
  cases ed
  cases rv
  cases ru
  exact ⟨_, _, rfl, k _ w H (.refl _ _) ok (.int _)⟩
/-! ### isinstance of built-in classes -/
def tyN : D → Option String
  | .non => some "NoneType"
  | .bl _ => some "bool"
  | .int _ => some "int"
  | .str _ => some "str"
  | .lst _ => some "list"
  | .tup _ => some "tuple"
  | .ktp _ => some "tuple"
  | _ => none
theorem ty_view {K : PySem.W.Frag} {hs H : Hp} {v : V} {d : D} {T : String} (r : View K hs H v d) (h : tyN d = some T) : TyX K H v (.type T) := by
  cases r with
  | non => cases h; exact .base .non
  | bl b => cases h; exact .base (.bl b)
  | int i => cases h; exact .base (.int i)
  | str g => cases h; exact .base (.str _)
  | lst q l t =>
    cases h
    rcases q with (q | ⟨o, q⟩) | ⟨o, its, n, hk, hc, _⟩
    · exact .base (.lst q)
    · exact .base (.frz q)
    · exact .kList hk hc
  | tup q l t => cases h; exact .base (.tup q)
  | ktp q l t =>
    cases h
    rcases q with (q | ⟨o, q⟩) | ⟨o, its, n, hk, hc, _⟩
    · exact .base (.tup q)
    · exact .fTuple q
    · exact .kTuple hk hc
  | _ => cases h
def isO (T : String) (d : D) : Option D := (tyN d).bind fun t => (kitB t T).map .bl
theorem ve_isT {T : Str} {Ts : String} {p2 : Pos} (hT : bootBuiltins T = some (.type Ts)) (hg : Gl X "isinstance") (hb : X.mg "isinstance" = none) (h : VP X a f) (hgT : Gl X T) (hbT : X.mg T = none) (hn : T ≠ "__name__") (hd : (T == ("__debug__" : Str)) = false)
    (he : starEach [a, .Name T p2] X.env = (false, eval a X.env) :: starEach [.Name T p2] X.env := by rfl) (he2 : starEach [.Name T p2] X.env = (false, eval (.Name T p2) X.env) :: starEach [] X.env := by rfl) (hpl : (backTo pos (starEach [.Name T p2] X.env)).any (·.1) = false := by rfl) :
    VE X (.Call (.Name "isinstance" p) [a, .Name T p2] [] pos) (fU (isO Ts) f) := by
  refine ve_unP (ι := Unit) (r := fun _ x H Q => rIsi X.K [x, .ty Ts] H Q) (fun _ => pe_callB call_isi hg hb (by decide +kernel) (pa_cons h (pa_cons (pe_bltn (v := .ty Ts) hgT hbT hT rfl hn hd) pa_nil he2) he) (he := he) (hpl := hpl)) fun d d' ed => ⟨(), fun w ρ σ H v Q ok r k => ?_⟩
  obtain ⟨t, h1, h2⟩ := Option.bind_eq_some_iff.mp ed
  obtain ⟨b, h3, h4⟩ := Option.map_eq_some_iff.mp h2
  subst h4
  exact ⟨_, _, _, _, b, rfl, .ty _, ty_view r h1, kit_ty h3, k _ w H (.refl _ _) ok (.bl _)⟩
/-- of two built-in classes -/
def isO2 (T U : String) (d : D) : Option D := (tyN d).bind fun t => (kitB t T).bind fun b => if b then some (.bl true) else (kitB t U).map .bl
theorem ve_isT2 {T U : Str} {Ts Us : String} {p2 p3 p4 : Pos} {kk} (hT : bootBuiltins T = some (.type Ts)) (hU : bootBuiltins U = some (.type Us)) (hg : Gl X "isinstance") (hb : X.mg "isinstance" = none) (h : VP X a f) (hgT : Gl X T) (hbT : X.mg T = none) (hn : T ≠ "__name__") (hd : (T == ("__debug__" : Str)) = false)
    (hgU : Gl X U) (hbU : X.mg U = none) (hnU : U ≠ "__name__") (hdU : (U == ("__debug__" : Str)) = false)
    (he : starEach [a, .Tuple [.Name T p2, .Name U p3] kk p4] X.env = (false, eval a X.env) :: starEach [.Tuple [.Name T p2, .Name U p3] kk p4] X.env := by rfl) (he2 : starEach [.Tuple [.Name T p2, .Name U p3] kk p4] X.env = (false, eval (.Tuple [.Name T p2, .Name U p3] kk p4) X.env) :: starEach [] X.env := by rfl)
    (hpl : (backTo pos (starEach [.Tuple [.Name T p2, .Name U p3] kk p4] X.env)).any (·.1) = false := by rfl)
    (he3 : starEach [.Name T p2, .Name U p3] X.env = (false, eval (.Name T p2) X.env) :: starEach [.Name U p3] X.env := by rfl) (he4 : starEach [.Name U p3] X.env = (false, eval (.Name U p3) X.env) :: starEach [] X.env := by rfl) :
    VE X (.Call (.Name "isinstance" p) [a, .Tuple [.Name T p2, .Name U p3] kk p4] [] pos) (fU (isO2 Ts Us) f) := by
  refine ve_unP (ι := Unit) (r := fun _ x H Q => [V.ty Ts, V.ty Us].length ≤ sizeLine ∧ ∀ p, H p = none → rIsiT X.K [x, .ref p] (upd H p (.tup [V.ty Ts, V.ty Us])) Q)
    (fun _ => pe_callB call_isiT hg hb (by decide +kernel) (pa_cons h (pa_cons (pe_tup (pa_cons (pe_bltn (v := .ty Ts) hgT hbT hT rfl hn hd) (pa_cons (pe_bltn (v := .ty Us) hgU hbU hU rfl hnU hdU) pa_nil he4) he3)) pa_nil he2) he) (he := he) (hpl := hpl)) fun d d' ed => ⟨(), fun w ρ σ H v Q ok r k => ⟨by show 2 ≤ sizeLine; decide, fun q hq => ?_⟩⟩
  obtain ⟨t, h1, h2⟩ := Option.bind_eq_some_iff.mp ed
  obtain ⟨b, h3, h4⟩ := Option.bind_eq_some_iff.mp h2
  obtain ⟨f1, ok1, _⟩ := ok.new (o := .tup [V.ty Ts, V.ty Us]) hq
  have ty : TyX X.K (upd H q (.tup [V.ty Ts, V.ty Us])) v (.type t) := by
    have old : ∀ a o, H a = some o → upd H q (.tup [V.ty Ts, V.ty Us]) a = some o := fun a o z => by rw [upd_ne (ne_of_none z hq)]; exact z
    cases ty_view r h1 with
    | base b =>
      cases b with
      | non => exact .base .non
      | bl b => exact .base (.bl b)
      | int b => exact .base (.int b)
      | str b => exact .base (.str b)
      | flt b => exact .base (.flt b)
      | lst e => exact .base (.lst (old _ _ e))
      | frz e => exact .base (.frz (old _ _ e))
      | tup e => exact .base (.tup (old _ _ e))
      | dK e => exact .base (.dK (old _ _ e))
      | dT e => exact .base (.dT (old _ _ e))
    | byt b => exact .byt b
    | set e => exact .set (old _ _ e)
    | kList e c => exact .kList e c
    | kTuple e c => exact .kTuple e c
    | kDict e c => exact .kDict e c
    | fTuple e => exact .fTuple (old _ _ e)
    | fDict e => exact .fDict (old _ _ e)
  cases b with
  | true =>
    rw [if_pos rfl] at h4
    cases h4
    exact ⟨v, q, _, _, [.type Ts, .type Us], true, rfl, upd_same, .cons (.ty _) (.cons (.ty _) .nil), ty, kitAny_cons (kit_ty h3) (fun z => nomatch z) (fun _ => rfl), k _ _ _ f1 ok1 (.bl _)⟩
  | false =>
    rw [if_neg Bool.false_ne_true] at h4
    obtain ⟨c, h5, h6⟩ := Option.map_eq_some_iff.mp h4
    subst h6
    exact ⟨v, q, _, _, [.type Ts, .type Us], c, rfl, upd_same, .cons (.ty _) (.cons (.ty _) .nil), ty, kitAny_cons (kit_ty h3) (fun _ => kitAny_cons (kit_ty h5) (fun z => by rw [z]; rfl) (fun z => z)) (fun z => nomatch z), k _ _ _ f1 ok1 (.bl _)⟩
/-! ### join -/
def strsOf : List D → Option (List Str)
  | [] => some []
  | .str b :: ds => (strsOf ds).map fun bs => b :: bs
  | _ => none
theorem strs_rep {K : PySem.W.Frag} {H : Hp} : ∀ {vs : List V} {ds : List D} {bs : List Str}, RepAll K H vs ds → strsOf ds = some bs → vs = bs.map V.str ∧ ∀ b ∈ bs, SG b
  | _, _, _, .nil, h => by cases h; exact ⟨rfl, fun b hb => nomatch hb⟩
  | _, _, _, .cons r t, h => by
    cases r with
    | str g =>
      obtain ⟨r, h1, h2⟩ := Option.map_eq_some_iff.mp h
      subst h2
      obtain ⟨e1, e2⟩ := strs_rep t h1
      refine ⟨by rw [e1]; rfl, fun b hb => ?_⟩
      rcases List.mem_cons.mp hb with rfl | hb
      · exact g
      · exact e2 b hb
    | _ => cases h
def joinB (s : Str) (ys : List Str) : Option D := if (ys.map (·.length)).sum + ys.length * s.length ≤ 16777216 then some (.str (Txt.join s ys)) else none
def joinO : D → D → Option D
  | .str s, .lst ds => (strsOf ds).bind fun ys => joinB s ys
  | .str s, .tup ds => (strsOf ds).bind fun ys => joinB s ys
  | _, _ => none
theorem joinL_mem {s : List Nat} : ∀ {ys : List (List Nat)} {c : Nat}, c ∈ TL.joinL s ys → c ∈ s ∨ ∃ y ∈ ys, c ∈ y
  | [], c, h => by simp [TL.joinL] at h
  | [y], c, h => by
    simp [TL.joinL] at h
    exact .inr ⟨y, by simp, h⟩
  | y :: z :: r, c, h => by
    have h' : c ∈ y ++ s ++ TL.joinL s (z :: r) := by simpa [TL.joinL] using h
    rw [List.mem_append, List.mem_append] at h'
    rcases h' with (h' | h') | h'
    · exact .inr ⟨y, by simp, h'⟩
    · exact .inl h'
    · rcases joinL_mem h' with q | ⟨x, hx, q⟩
      · exact .inl q
      · exact .inr ⟨x, List.mem_cons_of_mem _ hx, q⟩
theorem joinL_len {s : List Nat} : ∀ {ys : List (List Nat)}, (TL.joinL s ys).length ≤ (ys.map (·.length)).sum + ys.length * s.length
  | [] => by simp [TL.joinL]
  | [y] => by simp [TL.joinL]
  | y :: z :: r => by
    have ih := joinL_len (s := s) (ys := z :: r)
    have : (TL.joinL s (y :: z :: r)).length = y.length + s.length + (TL.joinL s (z :: r)).length := by simp [TL.joinL]; omega
    rw [this]
    simp only [List.map_cons, List.sum_cons, List.length_cons] at ih ⊢
    rw [Nat.add_mul, Nat.one_mul]
    omega
theorem SG.join {s : Str} {ys : List Str} (g : SG s) (h : ∀ y ∈ ys, SG y) (hl : (ys.map (·.length)).sum + ys.length * s.length ≤ 16777216) : SG (Txt.join s ys) := by
  have e : (Txt.join s ys).cps.toList = TL.joinL s.cps.toList (ys.map fun y => y.cps.toList) := (congrArg TL.tl (TL.join_eq s ys)).trans (TL.tl_join s ys)
  refine .mk ?_ fun c hc => ?_
  · have h1 : (Txt.join s ys).length = (Txt.join s ys).cps.toList.length := by simp [Str.length]
    rw [h1, e]
    refine Nat.le_trans joinL_len ?_
    rw [List.map_map, List.length_map]
    have e2 : (ys.map ((fun l : List Nat => l.length) ∘ fun y : Str => y.cps.toList)) = ys.map (·.length) := by
      apply List.map_congr_left
      intro y _
      simp [Str.length]
    have e3 : s.cps.toList.length = s.length := by simp [Str.length]
    rw [e2, e3]
    exact hl
  · rw [e] at hc
    rcases joinL_mem hc with q | ⟨y, hy, q⟩
    · exact g.cps c q
    · obtain ⟨z, hz, rfl⟩ := List.mem_map.mp hy
      exact (h z hz).cps c q
theorem ve_join (ha : VE X a f) (hb : VE X b g) (hs : starEach [b] X.env = [(false, eval b X.env)] := by rfl) (hbase : attributeBase a "join" X.env (eval a X.env) = eval a X.env := by rfl) (hline : (apos.endLine == pos.line) = true := by rfl) :
    VE X (.Call (.Attribute a "join" apos) [b] [] pos) (fB joinO f g) := by
  refine weakE (pe_join ha hb hs hbase hline) fun σ H Q q => ?_
  obtain ⟨w, ρ, z, ρ', ok, ef, kk⟩ := q
  obtain ⟨⟨x, ρ1⟩, e1, e2⟩ := Option.bind_eq_some_iff.mp ef
  obtain ⟨⟨y, ρ2⟩, e3, e4⟩ := Option.bind_eq_some_iff.mp e2
  obtain ⟨z2, e5, e6⟩ := Option.map_eq_some_iff.mp e4
  cases e6
  refine ⟨w, ρ, x, ρ1, ok, e1, fun v w1 H1 f1 ok1 r1 => ?_⟩
  cases r1 with
  | @str s gs =>
    refine ⟨⟨_, rfl⟩, w1, ρ1, y, ρ2, ok1, e3, fun u w2 H2 f2 ok2 r2 => ?_⟩
    have main : ∀ ds ys, strsOf ds = some ys → joinB s ys = some z → ∀ {vs : List V}, RepAll X.K w2.hs vs ds → vs = ys.map V.str ∧ (ys.map (·.length)).sum + ys.length * s.length ≤ 16777216 ∧ Q (.str (Txt.join s ys)) H2 := fun ds ys h1 h2 vs t => by
      obtain ⟨q1, q2⟩ := strs_rep t h1
      unfold joinB at h2
      split at h2
      · rename_i hl
        cases h2
        exact ⟨q1, hl, kk _ w2 H2 (f1.trans f2) ok2 (.str (gs.join q2 hl))⟩
      · cases h2
    cases r2 with
    | lst q l t =>
      obtain ⟨ys, h1, h2⟩ := Option.bind_eq_some_iff.mp e5
      obtain ⟨m1, m2, m3⟩ := main _ ys h1 h2 t
      rw [m1] at q
      exact ⟨_, _, ys, rfl, rfl, .inl (ok2.sub.sqL q), m2, m3⟩
    | tup q l t =>
      obtain ⟨ys, h1, h2⟩ := Option.bind_eq_some_iff.mp e5
      obtain ⟨m1, m2, m3⟩ := main _ ys h1 h2 t
      rw [m1] at q
      exact ⟨_, _, ys, rfl, rfl, .inr (.of (ok2.sub.tup q)), m2, m3⟩
    | _ => cases e5
  | _ => cases e5
end
end VS
set_option autoImplicit false
namespace VS
open PySem PySem.Spec PyProof.Rows L2 AR
section
variable {X : Cx} {a b e o value : Expr} {f g : FE} {pos p apos pos' p2 : Pos} {ga : FA} {es : List Expr} {i : Nat} {x : Str}
/-! ### slices -/
abbrev FO := En → Option (Option Int × En)
def tOp' (K : PySem.W.Frag) (f : FO) : TO := fun σ H Q => ∃ w ρ d ρ', EnvOk K w ρ σ H ∧ f ρ = some (d, ρ') ∧ ∀ w' H', Fr w H w' H' → EnvOk K w' ρ' σ H' → Q d H'
abbrev VPt (X : Cx) (e : Option Expr) (f : FO) : Prop := PO X e (tOp' X.K f)
def oNo : FO := fun ρ => some (none, ρ)
def oSo (f : FE) : FO := fun ρ => (f ρ).bind fun p => match p.1 with
  | .int i => some (some i, p.2)
  | _ => none
theorem vo_none : VPt X none oNo := ⟨fun pins s σ H Q I q => by
  obtain ⟨w, ρ, d, ρ', ok, ef, k⟩ := q
  cases ef
  exact po_none.run pins s σ H Q I (k w H (.refl _ _) ok)⟩
theorem vo_some (h : VE X e f) : VPt X (some e) (oSo f) := ⟨fun pins s σ H Q I q => by
  obtain ⟨w, ρ, d, ρ', ok, ef, k⟩ := q
  obtain ⟨⟨x, ρ1⟩, e1, e2⟩ := Option.bind_eq_some_iff.mp ef
  refine (po_some h).run pins s σ H Q I ⟨w, ρ, x, ρ1, ok, e1, fun v w1 H1 f1 ok1 r1 => ?_⟩
  cases r1 with
  | int i => cases e2; exact ⟨i, rfl, k w1 H1 f1 ok1⟩
  | _ => cases e2⟩
def cutL {α : Type} (xs : List α) (lo hi : Option Int) : List α := (xs.drop (HT.sIx xs.length 0 lo)).take (HT.sIx xs.length xs.length hi - HT.sIx xs.length 0 lo)
theorem RepAll.cut {K : PySem.W.Frag} {H : Hp} {vs : List V} {ds : List D} (r : RepAll K H vs ds) (lo hi : Option Int) : RepAll K H (cutV vs lo hi) (cutL ds lo hi) := by
  unfold cutV cutL
  rw [r.length]
  exact (r.drop _).take _
theorem SG.cut {z : Str} (g : SG z) (lo hi : Option Int) : SG (cutS z lo hi) := by
  refine .mk ?_ fun c hc => ?_
  · have h1 : (cutS z lo hi).length ≤ z.length := by
      unfold cutS
      show (List.toArray _).size ≤ z.cps.size
      rw [List.size_toArray, List.length_take, List.length_drop, Array.length_toList]
      omega
    exact Nat.le_trans h1 g.1
  · unfold cutS at hc
    have hc' : c ∈ ((z.cps.toList.drop (HT.sIx z.length 0 lo)).take (HT.sIx z.length z.length hi - HT.sIx z.length 0 lo)) := by simpa using hc
    exact g.cps c (List.mem_of_mem_drop (List.mem_of_mem_take hc'))
def slD : D → Option Int → Option Int → Option D
  | .str z, lo, hi => some (.str (cutS z lo hi))
  | .tup xs, lo, hi => some (.tup (cutL xs lo hi))
  | .lst xs, lo, hi => some (.lst (cutL xs lo hi))
  | _, _, _ => none
def fSl (f : FE) (lo hi : FO) : FE := fun ρ => (f ρ).bind fun p => (lo p.2).bind fun q => (hi q.2).bind fun r => (slD p.1 q.1 r.1).map fun d => (d, r.2)
def fSlL (f : FE) (lo hi : FO) : FE := fun ρ => (f ρ).bind fun p => (lo p.2).bind fun q => (hi q.2).bind fun r => match p.1 with
  | .lst xs => some (.lst (cutL xs q.1 r.1), r.2)
  | _ => none
variable {lo hi : Option Expr} {fl fh : FO}
theorem cutV_le (xs : List V) (lo hi : Option Int) (h : xs.length ≤ sizeLine) : (cutV xs lo hi).length ≤ sizeLine := Nat.le_trans (cutV_length xs lo hi) h
theorem cut_whole {α : Type} {xs : List α} {lo hi : Option Int} (h : HT.sIx xs.length 0 lo = 0 ∧ HT.sIx xs.length xs.length hi = xs.length) : cutL xs lo hi = xs := by
  unfold cutL
  rw [h.1, h.2]
  simp
theorem ve_slice (h : VE X e f) (hl : VPt X lo fl) (hh : VPt X hi fh) : VE X (.Subscript e (.Slice lo hi none p2) pos) (fSl f fl fh) := by
  refine orE (ι := Fin 3) (t := fun i => if i = 0 then tSl rSlS (tV X.K f) (tOp' X.K fl) (tOp' X.K fh) else if i = 1 then tSl (rSlA X.K) (tV X.K f) (tOp' X.K fl) (tOp' X.K fh) else tSl (rSlL X.K) (tV X.K f) (tOp' X.K fl) (tOp' X.K fh)) (fun i => ?_) fun σ H Q q => ?_
  · match i with
    | 0 => exact pe_slice sl_str h hl hh
    | 1 => exact pe_slice sl_tupA h hl hh
    | 2 => exact pe_slice sl_list h hl hh
  · obtain ⟨w, ρ, z, ρ', ok, ef, kk⟩ := q
    obtain ⟨⟨x, ρ1⟩, e1, e2⟩ := Option.bind_eq_some_iff.mp ef
    obtain ⟨⟨l, ρ2⟩, e3, e4⟩ := Option.bind_eq_some_iff.mp e2
    obtain ⟨⟨u, ρ3⟩, e5, e6⟩ := Option.bind_eq_some_iff.mp e4
    obtain ⟨z2, e7, e8⟩ := Option.map_eq_some_iff.mp e6
    cases e8
    cases x with
    | str s =>
      cases e7
      refine ⟨0, w, ρ, _, _, ok, e1, fun v w1 H1 f1 ok1 r1 => ⟨w1, _, _, _, ok1, e3, fun w2 H2 f2 ok2 => ⟨w2, _, _, _, ok2, e5, fun w3 H3 f3 ok3 => ?_⟩⟩⟩
      cases r1 with
      | str g => exact ⟨_, rfl, g.1, kk _ w3 H3 (f1.trans (f2.trans f3)) ok3 (.str (g.cut l u))⟩
    | tup xs =>
      cases e7
      refine ⟨1, w, ρ, _, _, ok, e1, fun v w1 H1 f1 ok1 r1 => ⟨w1, _, _, _, ok1, e3, fun w2 H2 f2 ok2 => ⟨w2, _, _, _, ok2, e5, fun w3 H3 f3 ok3 => ?_⟩⟩⟩
      have r3 := r1.mono (.of (f2.trans f3).sh)
      cases r3 with
      | @tup a vs _ q l' t =>
        have e := t.length
        refine ⟨_, _, rfl, .of (ok3.sub.tup q), fun hw => ?_, fun _ => ?_⟩
        · have : cutL xs l u = xs := cut_whole (by rw [← e]; exact hw)
          rw [this] at kk
          exact kk _ w3 H3 (f1.trans (f2.trans f3)) ok3 (.tup q l' t)
        · exact new_tup ok3 (t.cut l u) (cutV_le _ _ _ l') fun v' w' H' f' ok' r' => kk v' w' H' ((f1.trans (f2.trans f3)).trans f') ok' r'
    | lst xs =>
      cases e7
      refine ⟨2, w, ρ, _, _, ok, e1, fun v w1 H1 f1 ok1 r1 => ⟨w1, _, _, _, ok1, e3, fun w2 H2 f2 ok2 => ⟨w2, _, _, _, ok2, e5, fun w3 H3 f3 ok3 => ?_⟩⟩⟩
      have r3 := r1.mono (.of (f2.trans f3).sh)
      cases r3 with
      | @lst a vs _ q l' t =>
        refine ⟨_, _, rfl, ok3.sub.sqL q, new_lst ok3 (t.cut l u) (cutV_le _ _ _ l') fun v' w' H' f' ok' r' => ?_⟩
        obtain ⟨w4, f4, ok4, r4⟩ := r'.share (fun p c z => nomatch z) ok' f'
        exact kk v' w4 H' ((f1.trans (f2.trans f3)).trans f4) ok4 r4
    | _ => cases e7
/-- a list's slice is new -/
theorem vn_slice (h : VE X e f) (hl : VPt X lo fl) (hh : VPt X hi fh) : VN X (.Subscript e (.Slice lo hi none p2) pos) (fSlL f fl fh) := by
  refine weakE (pe_slice sl_list h hl hh) fun σ H Q q => ?_
  obtain ⟨w, ρ, z, ρ', ok, ef, kk⟩ := q
  obtain ⟨⟨x, ρ1⟩, e1, e2⟩ := Option.bind_eq_some_iff.mp ef
  obtain ⟨⟨l, ρ2⟩, e3, e4⟩ := Option.bind_eq_some_iff.mp e2
  obtain ⟨⟨u, ρ3⟩, e5, e6⟩ := Option.bind_eq_some_iff.mp e4
  cases x with
  | lst xs =>
    cases e6
    refine ⟨w, ρ, _, _, ok, e1, fun v w1 H1 f1 ok1 r1 => ⟨w1, _, _, _, ok1, e3, fun w2 H2 f2 ok2 => ⟨w2, _, _, _, ok2, e5, fun w3 H3 f3 ok3 => ?_⟩⟩⟩
    have r3 := r1.mono (.of (f2.trans f3).sh)
    have f13 := f1.trans (f2.trans f3)
    cases r3 with
    | @lst a vs _ q l' t => exact ⟨_, _, rfl, ok3.sub.sqL q, new_lst ok3 (t.cut l u) (cutV_le _ _ _ l') fun v' w' H' f' ok' r' => kk v' w' H' (f13.trans f') ok' (r'.old f13)⟩
  | _ => cases e6
/-! ### x.append(e), x.extend(e), x.pop(), x.pop(i) -/
/-- a method that changes the slot's own list: what it gives and what is left -/
def fMuL (op : List D → List D → Option (D × List D)) (i : Nat) (a : FA) : FE := fun ρ => match ρ[i]? with
  | some (Sl.o (.lst _)) => (a ρ).bind fun p => match p.2[i]? with
    | some (Sl.o (.lst ds)) => (op ds p.1).map fun r => (r.1, p.2.set i (Sl.o (.lst r.2)))
    | _ => none
  | _ => none
def appO (ds as : List D) : Option (D × List D) := match as with
  | [d] => if ds.length < sizeLine then some (.non, ds ++ [d]) else none
  | _ => none
theorem ty_list {K : PySem.W.Frag} {H : Hp} {a : Addr} {xs : List V} (h : SqL K H a xs) : tyV K "list" (.ref a) H := .inl ⟨rfl, xs, h⟩
/-- the core of such a rule: the receiver is a list at the start -/
theorem mu_core {K : PySem.W.Frag} {op : List D → List D → Option (D × List D)} {r : V → List V → Hp → VK → Prop} {ta : TA} (hta : ta = tAs K ga) {σ : L2.St} {H : Hp} {Q : VK}
    (k : ∀ (w : Wd) (ρ : En) (H : Hp) (b : Addr) (xs : List V) (ds as : List D) (vs : List V) (d : D) (ds' : List D) (Q : VK), EnvOk K w ρ σ H → w.own b = some i → H b = some (.lst xs) → xs.length ≤ sizeLine → RepAll K w.hs xs ds → RepAll K w.hs vs as → op ds as = some (d, ds') →
      (∀ v xs', xs'.length ≤ sizeLine → RepAll K w.hs xs' ds' → Rep K w.hs v d → Q v (upd H b (.lst xs'))) → r (.ref b) vs H Q)
    (q : tV K (fMuL op i ga) σ H Q) : tBM K "list" r (tVar i) ta σ H Q := by
  subst hta
  obtain ⟨w, ρ, d, ρ', ok, ef, kk⟩ := q
  unfold fMuL at ef
  split at ef
  case h_2 => cases ef
  rename_i ds0 e0
  obtain ⟨v0, hv0, ro0⟩ := ok.ow i _ e0
  cases ro0 with
  | @lst b xs0 _ hb0 hx0 hl0 ht0 =>
    refine ⟨_, hv0, ty_list (.of hx0), ?_⟩
    obtain ⟨⟨as, ρ1⟩, e1, e2⟩ := Option.bind_eq_some_iff.mp ef
    refine ⟨w, ρ, as, ρ1, ok, e1, fun vs w1 H1 f1 ok1 r1 => ?_⟩
    split at e2
    · rename_i ds e3
      obtain ⟨⟨d', ds'⟩, e4, e5⟩ := Option.map_eq_some_iff.mp e2
      cases e5
      obtain ⟨v, hv, ro⟩ := ok1.ow i _ e3
      rw [hv0] at hv
      cases hv
      cases ro with
      | @lst b xs _ hb hx hl ht =>
        refine k w1 ρ1 H1 _ xs ds as vs d' ds' Q ok1 hb hx hl ht r1 e4 fun v xs' hl' ht' rv => ?_
        obtain ⟨f2, ok2⟩ := ok1.mut (o := .lst xs') (d := .lst ds') hb hv0 (.lst hb upd_same hl' ht') (fun _ z => nomatch z)
        exact kk v w1 _ (f1.trans f2) ok2 rv
    · cases e2
theorem ve_append (ha : PE X (.Name x p) (tVar i)) (hb : VA X [b] ga) (hbase : attributeBase (.Name x p) "append" X.env (eval (.Name x p) X.env) = eval (.Name x p) X.env := by rfl)
    (hfew : ((backTo pos (starEach [b] X.env)).all (fun x => !x.1) && (backToKw pos (keywordEach [] X.env)).all (fun x => x.1.isSome)
      && decide (([b] : List Expr).length + ([] : List Keyword).length + (if ([] : List Keyword).isEmpty then 0 else 1) < 30)) = true := by rfl)
    (hline : (apos.endLine == pos.line) = true := by rfl) (hs : starEach [b] X.env = (false, eval b X.env) :: starEach [] X.env := by rfl) (hpl : (backTo pos (starEach [] X.env)).any (·.1) = false := by rfl) :
    VE X (.Call (.Attribute (.Name x p) "append" apos) [b] [] pos) (fMuL appO i ga) := by
  refine weakE (pe_bm PySem.F.plainAttrs_list PySem.F.slot_list_append PySem.F.type_list_append mt_append ha hb hbase hfew hline hs hpl) fun σ H Q q => ?_
  refine mu_core rfl (fun w ρ H b xs ds as vs d ds' Q ok hb hx hl ht hr eo k => ?_) q
  unfold appO at eo
  split at eo
  · split at eo
    · rename_i hlt
      cases eo
      cases hr with
      | @cons v vs d ds r t =>
        cases t
        have e := ht.length
        exact ⟨b, xs, v, rfl, rfl, hx, by omega, k .non (xs ++ [v]) (by rw [List.length_append, List.length_singleton]; omega) (ht.append (.one r)) .non⟩
    · cases eo
  · cases eo
def extO (ds as : List D) : Option (D × List D) := match as with
  | [.lst es] => if ds.length + es.length ≤ sizeLine then some (.non, ds ++ es) else none
  | _ => none
def popO (ds as : List D) : Option (D × List D) := match as with
  | [] => (ds[ds.length - 1]?).map fun d => (d, ds.dropLast)
  | _ => none
theorem RepAll.dropLast {K : PySem.W.Frag} {H : Hp} {vs : List V} {ds : List D} (r : RepAll K H vs ds) : RepAll K H vs.dropLast ds.dropLast := by
  rw [List.dropLast_eq_take, List.dropLast_eq_take, r.length]
  exact r.take _
theorem RepAll.erase {K : PySem.W.Frag} {H : Hp} : ∀ {vs : List V} {ds : List D} (k : Nat), RepAll K H vs ds → RepAll K H (vs.eraseIdx k) (ds.eraseIdx k)
  | _, _, _, .nil => .nil
  | _, _, 0, .cons _ t => t
  | _, _, k + 1, .cons r t => .cons r (RepAll.erase k t)
def popAtO (ds as : List D) : Option (D × List D) := match as with
  | [.int i] => if 0 ≤ i ∧ i < ds.length ∧ ds.length ≤ 1000000 then (ds[i.toNat]?).map fun d => (d, ds.eraseIdx i.toNat) else none
  | _ => none
theorem ve_pop (ha : PE X (.Name x p) (tVar i)) (hbase : attributeBase (.Name x p) "pop" X.env (eval (.Name x p) X.env) = eval (.Name x p) X.env := by rfl) (hline : (apos.endLine == pos.line) = true := by rfl) :
    VE X (.Call (.Attribute (.Name x p) "pop" apos) [] [] pos) (fMuL popO i aN) := by
  refine weakE (pe_bm0 PySem.F.plainAttrs_list PySem.F.slot_list_pop PySem.F.type_list_pop mt_pop ha hbase hline) fun σ H Q q => ?_
  have := mu_core (ga := aN) (ta := tAs X.K aN) (r := rPop) (i := i) rfl (fun w ρ H b xs ds as vs d ds' Q ok hb hx hl ht hr eo k => ?_) q
  · obtain ⟨v, hv, ty, w, ρ, as, ρ1, ok, e1, k⟩ := this
    cases e1
    exact ⟨v, hv, ty, k [] w H (.refl _ _) ok .nil⟩
  · unfold popO at eo
    split at eo
    · obtain ⟨d', h1, h2⟩ := Option.map_eq_some_iff.mp eo
      cases h2
      cases hr
      obtain ⟨v, h3, h4⟩ := ht.get' _ h1
      rw [← ht.length] at h3
      exact ⟨b, xs, v, rfl, rfl, hx, h3, k v xs.dropLast (by rw [List.length_dropLast]; omega) ht.dropLast h4⟩
    · cases eo
theorem ve_popAt (ha : PE X (.Name x p) (tVar i)) (hb : VA X [b] ga) (hbase : attributeBase (.Name x p) "pop" X.env (eval (.Name x p) X.env) = eval (.Name x p) X.env := by rfl)
    (hfew : ((backTo pos (starEach [b] X.env)).all (fun x => !x.1) && (backToKw pos (keywordEach [] X.env)).all (fun x => x.1.isSome)
      && decide (([b] : List Expr).length + ([] : List Keyword).length + (if ([] : List Keyword).isEmpty then 0 else 1) < 30)) = true := by rfl)
    (hline : (apos.endLine == pos.line) = true := by rfl) (hs : starEach [b] X.env = (false, eval b X.env) :: starEach [] X.env := by rfl) (hpl : (backTo pos (starEach [] X.env)).any (·.1) = false := by rfl) :
    VE X (.Call (.Attribute (.Name x p) "pop" apos) [b] [] pos) (fMuL popAtO i ga) := by
  refine weakE (pe_bm PySem.F.plainAttrs_list PySem.F.slot_list_pop PySem.F.type_list_pop mt_popAt ha hb hbase hfew hline hs hpl) fun σ H Q q => ?_
  refine mu_core rfl (fun w ρ H b xs ds as vs d ds' Q ok hb hx hl ht hr eo k => ?_) q
  unfold popAtO at eo
  split at eo
  · rename_i j
    split at eo
    · rename_i hj
      obtain ⟨d', h1, h2⟩ := Option.map_eq_some_iff.mp eo
      cases h2
      cases hr with
      | cons r t =>
        cases t
        cases r
        have e := ht.length
        obtain ⟨v, h3, h4⟩ := ht.get' _ h1
        refine ⟨b, xs, j, j.toNat, v, rfl, rfl, hx, by omega, by omega, ?_, h3, k v (xs.eraseIdx j.toNat) (Nat.le_trans (List.length_eraseIdx_le _ _) hl) (ht.erase _) h4⟩
        have : ixN xs.length j = some j.toNat := by unfold ixN; rw [if_pos hj.1, if_pos (by omega)]
        exact (ixN_seq this).1
    · cases eo
  · cases eo
/-- extend by a list, wherever it stands -/
def rExtS (K : PySem.W.Frag) : V → List V → Hp → VK → Prop := fun x vs H Q => ∃ l b xs zs, x = .ref l ∧ vs = [.ref b] ∧ b ≠ l ∧ H l = some (.lst xs) ∧ H b = some (.lst zs) ∧ xs.length + zs.length ≤ sizeLine ∧ Q .non (upd H l (.lst (xs ++ zs)))
end
end VS
set_option autoImplicit false
namespace VS
open PySem PySem.Spec PyProof.Rows L2 AR
section
variable {X : Cx} {a b e o value : Expr} {f g fk fv : FE} {pos p apos pos' p2 : Pos} {ga : FA} {es : List Expr} {i : Nat} {x : Str}
/-! ### {} -/
theorem new_dK {K : PySem.W.Frag} {w : Wd} {ρ : En} {σ : L2.St} {H : Hp} {kvs : List (Key × V)} {ks vs : List D} {Q : VK} (ok : EnvOk K w ρ σ H) (hk : ks = (kvs.map fun p => keyD p.1)) (r : RepAll K w.hs (kvs.map (·.2)) vs)
    (k : ∀ v' w' H', Fr w H w' H' → EnvOk K w' ρ σ H' → Fresh K w' H H' v' (.dct 0 ks vs) → Q v' H') : ∀ p, H p = none → Q (.ref p) (upd H p (.dK kvs)) := fun p hp => by
  obtain ⟨h1, h2⟩ := ok.free hp
  obtain ⟨f1, ok1⟩ := ok.tmp (o := .dK kvs) hp (fun _ z => nomatch z)
  exact k _ w _ f1 ok1 (.dK hp h2 h1 upd_same hk r)
theorem vn_dnew0 : VN X (.Dict [] [] pos) (fC (.dct 0 [] [])) := weakE pe_dnewK fun σ H Q q => by
  obtain ⟨w, ρ, d', ρ', ok, ef, k⟩ := q
  cases ef
  exact new_dK (kvs := []) ok rfl .nil k
theorem vn_dnew1 : VN X (.Dict [] [] pos) (fC (.dct 1 [] [])) := weakE pe_dnewT fun σ H Q q => by
  obtain ⟨w, ρ, d', ρ', ok, ef, k⟩ := q
  cases ef
  intro p hp
  obtain ⟨h1, h2⟩ := ok.free hp
  obtain ⟨f1, ok1⟩ := ok.tmp (o := .dT []) hp (fun _ z => nomatch z)
  exact k _ w _ f1 ok1 (.dT (kvs := []) hp h2 h1 upd_same rfl .nil)
/-- {k: v}, the key a tuple -/
def fD1 (f g : FE) : FE := fun ρ => (f ρ).bind fun p => (g p.2).bind fun q => (keyTOf p.1).map fun _ => (.dct 1 [p.1] [q.1], q.2)
theorem vn_disp1 (hu : X.A.units < cLine) (ha : VE X a f) (hb : VE X b g) : VN X (.Dict [some a] [b] pos) (fD1 f g) := weakE (pe_disp1 hu ha hb) fun σ H Q q => by
  obtain ⟨w, ρ, z, ρ', ok, ef, kk⟩ := q
  obtain ⟨⟨x, ρ1⟩, e1, e2⟩ := Option.bind_eq_some_iff.mp ef
  obtain ⟨⟨y, ρ2⟩, e3, e4⟩ := Option.bind_eq_some_iff.mp e2
  obtain ⟨ky, e5, e6⟩ := Option.map_eq_some_iff.mp e4
  cases e6
  intro p hp
  obtain ⟨h1, h2⟩ := ok.free hp
  obtain ⟨f0, ok0⟩ := ok.tmp (o := .dT []) hp (fun _ z => nomatch z)
  refine ⟨w, ρ, x, ρ1, ok0, e1, fun v w1 H1 f1 ok1 r1 => ⟨w1, ρ1, y, ρ2, ok1, e3, fun u w2 H2 f2 ok2 r2 => ?_⟩⟩
  obtain ⟨k1, k2, k3⟩ := (f1.trans f2).kp p _ upd_same h2
  have ex := keyT_of e5
  subst ex
  obtain ⟨q, rfl, hq⟩ := rep_keyT (r1.mono (.of f2.sh))
  refine ⟨q, ky, rfl, ok2.sub.tup hq, k1, ?_⟩
  exact kk _ w2 _ ((f0.trans (f1.trans f2)).chg hp) (ok2.chg k1 k2 (k3 h1) (fun _ z => nomatch z)) (.dT (kvs := [(ky, u)]) hp k2 (k3 h1) upd_same rfl (.one r2))
/-- {k: v, ..}, the keys ints and texts -/
abbrev FPs := En → Option ((List D × List D) × En)
def pN0 : FPs := fun ρ => some (([], []), ρ)
def pCo (f g : FE) (r : FPs) : FPs := fun ρ => (f ρ).bind fun p => (g p.2).bind fun q => (r q.2).map fun s => ((p.1 :: s.1.1, q.1 :: s.1.2), s.2)
def tPs (K : PySem.W.Frag) (f : FPs) : L2.St → Hp → (List (V × V) → Hp → Prop) → Prop := fun σ H Q => ∃ w ρ d ρ', EnvOk K w ρ σ H ∧ f ρ = some (d, ρ') ∧ ∀ ps w' H', Fr w H w' H' → EnvOk K w' ρ' σ H' → RepAll K w'.hs (ps.map (·.1)) d.1 → RepAll K w'.hs (ps.map (·.2)) d.2 → Q ps H'
structure VPs (X : Cx) (pos : Pos) (keys : List (Option Expr)) (values : List Expr) (f : FPs) : Prop where
  ex : ∃ trs, PPs X pos keys values trs ∧ ∀ σ H Q, tPs X.K f σ H Q → tPairs trs σ H Q
theorem vps_nil : VPs X pos [] [] pN0 := ⟨[], pps_nil, fun σ H Q q => by
  obtain ⟨w, ρ, d, ρ', ok, ef, k⟩ := q
  cases ef
  exact k [] w H (.refl _ _) ok .nil .nil⟩
theorem vps_cons {ks : List (Option Expr)} {vs : List Expr} {r : FPs} (ha : VE X a f) (hb : VE X b g) (hr : VPs X pos ks vs r) : VPs X pos (some a :: ks) (b :: vs) (pCo f g r) := by
  obtain ⟨trs, h1, h2⟩ := hr.ex
  refine ⟨_, pps_cons ha hb h1, fun σ H Q q => ?_⟩
  obtain ⟨w, ρ, d, ρ', ok, ef, k⟩ := q
  obtain ⟨⟨x, ρ1⟩, e1, e2⟩ := Option.bind_eq_some_iff.mp ef
  obtain ⟨⟨y, ρ2⟩, e3, e4⟩ := Option.bind_eq_some_iff.mp e2
  obtain ⟨⟨ds, ρ3⟩, e5, e6⟩ := Option.map_eq_some_iff.mp e4
  cases e6
  refine ⟨w, ρ, x, ρ1, ok, e1, fun v w1 H1 f1 ok1 r1 => ⟨w1, ρ1, y, ρ2, ok1, e3, fun u w2 H2 f2 ok2 r2 => h2 σ H2 _ ⟨w2, ρ2, ds, ρ3, ok2, e5, fun ps w3 H3 f3 ok3 r3 r4 => ?_⟩⟩⟩
  exact k _ w3 H3 (f1.trans (f2.trans f3)) ok3 (.cons (r1.mono (.of (f2.trans f3).sh)) r3) (.cons (r2.mono (.of f3.sh)) r4)
/-- the pairs one behind another -/
def dmerge : List D → List D → List D → List D → List D × List D
  | k :: ks, v :: vs, aks, avs => dmerge ks vs (dputK aks k) (dputV aks avs k v)
  | _, _, aks, avs => (aks, avs)
theorem merge_rep {K : PySem.W.Frag} {H : Hp} : ∀ {kvs acc : List (Key × V)} {vs avs : List D}, RepAll K H (kvs.map (·.2)) vs → RepAll K H (acc.map (·.2)) avs →
    (dmerge (kvs.map fun p => keyD p.1) vs (acc.map fun p => keyD p.1) avs).1 = ((mergeK acc kvs).map fun p => keyD p.1) ∧ RepAll K H ((mergeK acc kvs).map (·.2)) (dmerge (kvs.map fun p => keyD p.1) vs (acc.map fun p => keyD p.1) avs).2
  | [], acc, _, avs, .nil, t => ⟨rfl, t⟩
  | (k, v) :: kvs, acc, d :: vs, avs, .cons r t, ta => by
    obtain ⟨h1, h2⟩ := dput_put (kd := keyD) (fun _ _ => keyD_inj) r k ta
    have := merge_rep (kvs := kvs) (acc := putK acc k v) t h2
    rw [List.map_cons]
    unfold dmerge
    rw [h1]
    exact this
def fDs (r : FPs) : FE := fun ρ => (r ρ).bind fun p => (keysOf p.1.1).bind fun ks => if ks.length ≤ 15 then some (.dct 0 (dmerge p.1.1 p.1.2 [] []).1 (dmerge p.1.1 p.1.2 [] []).2, p.2) else none
theorem pairs_keys {K : PySem.W.Frag} {H : Hp} : ∀ {ps : List (V × V)} {ks : List Key}, RepAll K H (ps.map (·.1)) (ks.map keyD) → ∃ kvs : List (Key × V), ps = kvs.map (fun kv => (kV kv.1, kv.2)) ∧ kvs.map (·.1) = ks
  | [], [], .nil => ⟨[], rfl, rfl⟩
  | (a, b) :: ps, k :: ks, .cons r t => by
    obtain ⟨kvs, h1, h2⟩ := pairs_keys t
    have er : a = kV k := rep_key r
    exact ⟨(k, b) :: kvs, by rw [h1, er]; rfl, by rw [List.map_cons, h2]⟩
theorem vn_disp {keys : List (Option Expr)} {values : List Expr} {r : FPs} (h : VPs X pos keys values r) (hall : keys.all (·.isSome) = true) (hl : keys.length = values.length) (h0 : keys ≠ []) (h15 : keys.length ≤ 15) : VN X (.Dict keys values pos) (fDs r) := by
  obtain ⟨trs, h1, h2⟩ := h.ex
  refine weakE (pe_disp h1 hall hl h0 h15) fun σ H Q q => ?_
  obtain ⟨w, ρ, z, ρ', ok, ef, kk⟩ := q
  obtain ⟨⟨⟨dk, dv⟩, ρ1⟩, e1, e2⟩ := Option.bind_eq_some_iff.mp ef
  obtain ⟨ks, e3, e4⟩ := Option.bind_eq_some_iff.mp e2
  split at e4
  case isFalse => cases e4
  rename_i hl15
  cases e4
  intro p hp
  obtain ⟨g1, g2⟩ := ok.free hp
  obtain ⟨f0, ok0⟩ := ok.tmp (o := .dK []) hp (fun _ z => nomatch z)
  refine h2 σ _ _ ⟨w, ρ, _, ρ1, ok0, e1, fun ps w1 H1 f1 ok1 r1 r2 => ?_⟩
  obtain ⟨k1, k2, k3⟩ := f1.kp p _ upd_same g2
  have ed := keysD_of e3
  have r1' : RepAll X.K w1.hs (ps.map (·.1)) (ks.map keyD) := by rw [← ed]; exact r1
  obtain ⟨kvs, e5, e6⟩ := pairs_keys r1'
  have hlen : kvs.length = ks.length := by rw [← e6, List.length_map]
  have r2' : RepAll X.K w1.hs (kvs.map (·.2)) dv := by
    have : ps.map (·.2) = kvs.map (·.2) := by rw [e5, List.map_map]; rfl
    rw [← this]; exact r2
  have edk : dk = kvs.map fun p => keyD p.1 := by
    have : dk = ks.map keyD := ed
    rw [this, ← e6, List.map_map]; rfl
  obtain ⟨m1, m2⟩ := merge_rep (acc := []) r2' .nil
  refine ⟨k1, kvs, e5, by omega, kk _ w1 _ ((f0.trans f1).chg hp) (ok1.chg k1 k2 (k3 g1) (fun _ z => nomatch z)) (.dK hp k2 (k3 g1) upd_same ?_ ?_)⟩
  · show (dmerge dk dv [] []).1 = _
    rw [edk]; exact m1
  · show RepAll _ _ _ (dmerge dk dv [] []).2
    rw [edk]; exact m2
/-! ### x[k] = v -/
def putSl (t : Nat) (ks vs : List D) (k v : D) : Option D := if ks.length < sizeLine then match t with
  | 0 => (keyOf k).map fun _ => .dct 0 (dputK ks k) (dputV ks vs k v)
  | 1 => (keyTOf k).map fun _ => .dct 1 (dputK ks k) (dputV ks vs k v)
  | _ => none
  else none
def sPut (i : Nat) (fk fv : FE) : FS := fun ρ => (fv ρ).bind fun p => if hasSl p.2 i then (fk p.2).bind fun q => match q.2[i]? with
  | some (Sl.o (.dct t ks vs)) => (putSl t ks vs q.1 p.1).map fun d => .nx (q.2.set i (Sl.o d))
  | _ => none
  else none
theorem vs_put (hu : X.A.units + 1 < cLine) (ho : PE X (.Name x p) (tVar i)) (hk : VE X b fk) (hv : VE X value fv) (hs : swapsWith value (some (.Subscript (.Name x p) b pos')) pos.line X.env = pure false) : VS1 X (.Assign [.Subscript (.Name x p) b pos'] value pos) (sPut i fk fv) := by
  refine weakS (ps_dput hu ho hk hv hs) fun E σ H q => ?_
  obtain ⟨w, ρ, ot, ok, ef, k⟩ := q
  obtain ⟨⟨y, ρ1⟩, e1, e2⟩ := Option.bind_eq_some_iff.mp ef
  split at e2
  case isFalse => cases e2
  rename_i hsl
  obtain ⟨⟨z, ρ2⟩, e3, e4⟩ := Option.bind_eq_some_iff.mp e2
  refine ⟨w, ρ, y, ρ1, ok, e1, fun u w1 H1 f1 ok1 r1 => ?_⟩
  obtain ⟨v0, hv0⟩ := ok1.has hsl
  refine ⟨v0, hv0, w1, ρ1, z, ρ2, ok1, e3, fun kv w2 H2 f2 ok2 r2 => ?_⟩
  split at e4
  · rename_i t ks vs e5
    obtain ⟨d, e6, e7⟩ := Option.map_eq_some_iff.mp e4
    cases e7
    obtain ⟨v, hv', ro⟩ := ok2.ow i _ e5
    rw [hv0] at hv'
    cases hv'
    unfold putSl at e6
    split at e6
    case isFalse => cases e6
    rename_i hlt
    have r1' := r1.mono (.of f2.sh)
    cases ro with
    | @dK a kvs _ _ ho' hH hks ht =>
      obtain ⟨ky, h1, h2⟩ := Option.map_eq_some_iff.mp e6
      subst h2
      have ez := keyD_of h1
      subst ez
      subst hks
      obtain ⟨m1, m2⟩ := dput_put (kd := keyD) (fun _ _ => keyD_inj) r1' ky ht
      obtain ⟨f3, ok3⟩ := ok2.mut (o := .dK (putK kvs ky u)) (d := .dct 0 (dputK (kvs.map fun p => keyD p.1) (keyD ky)) (dputV (kvs.map fun p => keyD p.1) vs (keyD ky) y)) ho' hv0 (.dK ho' upd_same m1 m2) (fun _ z => nomatch z)
      exact ⟨a, _, rfl, .inl ⟨kvs, ky, hH, rep_key r2, by rw [List.length_map] at hlt; exact hlt, rfl⟩, k σ w2 _ (f1.trans (f2.trans f3)) ok3⟩
    | @dT a kvs _ _ ho' hH hks ht =>
      obtain ⟨ky, h1, h2⟩ := Option.map_eq_some_iff.mp e6
      subst h2
      have ez := keyT_of h1
      subst ez
      subst hks
      obtain ⟨bq, rfl, hbq⟩ := rep_keyT r2
      obtain ⟨m1, m2⟩ := dput_put (kd := keyT) (fun _ _ => keyT_inj) r1' ky ht
      obtain ⟨f3, ok3⟩ := ok2.mut (o := .dT (putK kvs ky u)) (d := .dct 1 (dputK (kvs.map fun p => keyT p.1) (keyT ky)) (dputV (kvs.map fun p => keyT p.1) vs (keyT ky) y)) ho' hv0 (.dT ho' upd_same m1 m2) (fun _ z => nomatch z)
      exact ⟨a, _, rfl, .inr ⟨kvs, ky, bq, hH, rfl, ok2.sub.tup hbq, by rw [List.length_map] at hlt; exact hlt, rfl⟩, k σ w2 _ (f1.trans (f2.trans f3)) ok3⟩
  · cases e4
/-! ### dict(zip(a, b)) -/
def dzO (ds : List D) : Option D := match ds with
  | [x, .tup ys] => (itD x).bind fun xs => if xs.length ≤ sizeLine then (keysOf (xs.take ys.length)).map fun _ => .dct 0 (dmerge (xs.take ys.length) (ys.take xs.length) [] []).1 (dmerge (xs.take ys.length) (ys.take xs.length) [] []).2 else none
  | _ => none
theorem dmerge_take {ks vs aks avs : List D} : dmerge ks vs aks avs = dmerge (ks.take vs.length) (vs.take ks.length) aks avs := by
  induction ks generalizing vs aks avs with
  | nil => cases vs <;> rfl
  | cons k ks ih =>
    cases vs with
    | nil => rfl
    | cons v vs =>
      show dmerge ks vs _ _ = dmerge (ks.take vs.length) (vs.take ks.length) _ _
      exact ih
theorem vn_dictZ {p3 pos2 : Pos} (hc : X.calm = true) (hg : Gl X "dict") (hm : X.mg "dict" = none) (hg2 : Gl X "zip") (hm2 : X.mg "zip" = none) (ha : VA X [a, b] ga)
    (hs : starEach [.Call (.Name "zip" p2) [a, b] [] pos2] X.env = (false, eval (.Call (.Name "zip" p2) [a, b] [] pos2) X.env) :: starEach [] X.env := by rfl)
    (hs2 : starEach [a, b] X.env = (false, eval a X.env) :: starEach [b] X.env := by rfl) (hpl : (backTo pos2 (starEach [b] X.env)).any (·.1) = false := by rfl) :
    VN X (.Call (.Name "dict" p) [.Call (.Name "zip" p2) [a, b] [] pos2] [] pos) (fAp dzO ga) := by
  refine weakE (pe_dictZ hc hg hm hg2 hm2 ha hs hs2 hpl) fun σ H Q q => ?_
  obtain ⟨w, ρ, z, ρ', ok, ef, kk⟩ := q
  obtain ⟨⟨ds, ρ1⟩, e1, e2⟩ := Option.bind_eq_some_iff.mp ef
  obtain ⟨d2, e3, e4⟩ := Option.map_eq_some_iff.mp e2
  cases e4
  refine ⟨w, ρ, ds, ρ1, ok, e1, fun vs w1 H1 f1 ok1 r1 => ?_⟩
  unfold dzO at e3
  split at e3
  case h_2 => cases e3
  rename_i xd ys heq
  cases (show ds = [xd, .tup ys] from heq)
  obtain ⟨xs, h1, h2⟩ := Option.bind_eq_some_iff.mp e3
  split at h2
  case isFalse => cases h2
  rename_i hxl
  obtain ⟨ks, h3, h4⟩ := Option.map_eq_some_iff.mp h2
  cases r1 with
  | cons rx t =>
    cases t with
    | cons ry t =>
      cases t
      obtain ⟨s, us, rfl, hs', t1⟩ := src_of rx h1
      cases ry with
      | @tup bq ws _ q2 l2 t2 =>
        have x1 := t1.length
        have x2 := t2.length
        -- the keys and values side by side
        have tk : RepAll X.K w1.hs (us.take ys.length) (ks.map keyD) := by rw [← keysD_of h3]; exact t1.take _
        have hu : us.take ys.length = ks.map kV := rep_keys tk
        have kl : ks.length = min xs.length ys.length := by
          have := tk.length
          rw [List.length_take, List.length_map] at this
          omega
        have zl : (ks.zip (ws.take xs.length)).length = min xs.length ys.length := by
          rw [List.length_zip, List.length_take]; omega
        have z1 : (ks.zip (ws.take xs.length)).map (·.1) = ks := by
          rw [List.map_fst_zip]
          rw [List.length_take]; omega
        have z2 : (ks.zip (ws.take xs.length)).map (·.2) = ws.take xs.length := by
          by_cases hle : xs.length ≤ ys.length
          · rw [List.map_snd_zip]
            rw [List.length_take]; omega
          · rw [List.map_snd_zip]
            rw [List.length_take]; omega
        refine ⟨s, bq, us, ws, ks.zip (ws.take xs.length), rfl, hs' _ ok1.sub, .of (ok1.sub.tup q2), by omega, by rw [zl]; omega, fun j k v hj => ?_, ?_⟩
        · rw [List.getElem?_zip_eq_some] at hj
          obtain ⟨j1, j2⟩ := hj
          constructor
          · have : (us.take ys.length)[j]? = some (kV k) := by rw [hu, List.getElem?_map, j1]; rfl
            rw [List.getElem?_take] at this
            split at this
            · exact this
            · cases this
          · rw [List.getElem?_take] at j2
            split at j2
            · exact j2
            · cases j2
        · have rv : RepAll X.K w1.hs ((ks.zip (ws.take xs.length)).map (·.2)) (ys.take xs.length) := by rw [z2]; exact t2.take _
          obtain ⟨m1, m2⟩ := merge_rep (acc := []) rv .nil
          have ekd : ((ks.zip (ws.take xs.length)).map fun p => keyD p.1) = xs.take ys.length := by
            rw [keysD_of h3, ← z1, List.map_map, z1]; rfl
          rw [ekd] at m1 m2
          subst h4
          exact new_dK ok1 m1 m2 fun v' w' H' f' ok' r' => kk v' w' H' (f1.trans f') ok' (r'.old f1)
end
end VS
set_option autoImplicit false
namespace VS
open PySem PySem.Spec PyProof.Rows L2 AR
/-! ### a, b = x, y -/
/-- a value that waits to be stored -/
def Pend (K : PySem.W.Frag) (o : Bool) (w : Wd) (H0 H : Hp) (v : V) (d : D) (as : List Addr) : Prop := match o with
  | false => as = [] ∧ Rep K w.hs v d
  | true => (∀ a ∈ as, H0 a = none ∧ w.own a = none ∧ w.hs a = none ∧ ∃ o, H a = some o) ∧ ∀ (w' : Wd) (i : Nat), Same w.hs w'.hs → RepO K (w'.take i as) H i v d
section
variable {K : PySem.W.Frag} {w w' w0 : Wd} {ρ : En} {σ : L2.St} {H H' H0 : Hp} {v : V} {d : D} {as : List Addr} {o : Bool}
theorem Fresh.pend (r : Fresh K w H0 H v d) : ∃ as, Pend K true w H0 H v d as := by
  have one : ∀ {a : Addr} {P : Addr → Prop}, P a → ∀ b ∈ [a], P b := fun {a P} h b hb => by rw [List.mem_singleton.mp hb]; exact h
  cases r with
  | @lst a xs ds h0 hn hs h hl r => exact ⟨[a], one ⟨h0, hn, hs, _, h⟩, fun w' i s => .lst (Wd.take_in (List.mem_singleton_self a)) h hl (r.mono (.of s))⟩
  | @dK a kvs ks vs h0 hn hs h hk r => exact ⟨[a], one ⟨h0, hn, hs, _, h⟩, fun w' i s => .dK (Wd.take_in (List.mem_singleton_self a)) h hk (r.mono (.of s))⟩
  | @dT a kvs ks vs h0 hn hs h hk r => exact ⟨[a], one ⟨h0, hn, hs, _, h⟩, fun w' i s => .dT (Wd.take_in (List.mem_singleton_self a)) h hk (r.mono (.of s))⟩
  | @nums a xs h0 hn hs h => exact ⟨[a], one ⟨h0, hn, hs, _, h⟩, fun w' i s => .nums (fun z => nomatch z) (Wd.take_in (List.mem_singleton_self a)) h⟩
  | @flow b l ns s c b0 l0 bn ln bs ls ne hb hl hz =>
    refine ⟨[b, l], fun a ha => ?_, fun w' i s => .flow (fun z => nomatch z) (Wd.take_in (by simp)) (Wd.take_in (by simp)) ne hb hl hz⟩
    rcases List.mem_cons.mp ha with q | q
    · rw [q]; exact ⟨b0, bn, bs, _, hb⟩
    · rw [List.mem_singleton.mp q]; exact ⟨l0, ln, ls, _, hl⟩
theorem RepO.heap {i : Nat} {as : List Addr} (r : RepO K (w.take i as) H i v d) (h : ∀ a ∈ as, H' a = H a) (hn : ∀ a, w.own a = some i → H' a = H a) : RepO K (w.take i as) H' i v d :=
  r.keep ⟨rfl, rfl⟩ (Same.refl _) fun a ha => ⟨ha, by
    by_cases z : a ∈ as
    · exact h a z
    · rw [Wd.take_out z] at ha; exact hn a ha⟩
theorem Pend.fr (p : Pend K o w H0 H v d as) (f : Fr w H w' H') : Pend K o w' H0 H' v d as := by
  cases o with
  | false => exact ⟨p.1, p.2.mono (.of f.sh)⟩
  | true =>
    refine ⟨fun a ha => ?_, fun w2 i s => ?_⟩
    · obtain ⟨h1, h2, h3, u, h4⟩ := p.1 a ha
      obtain ⟨k1, k2, k3⟩ := f.kp a u h4 h2
      exact ⟨h1, k2, k3 h3, u, k1⟩
    · have r := p.2 ⟨w2.hs, fun _ => none, w2.me, w2.me2⟩ i (f.sh.trans s)
      have r' : RepO K (Wd.take ⟨w2.hs, fun _ => none, w2.me, w2.me2⟩ i as) H' i v d := r.heap (fun a ha => by
        obtain ⟨h1, h2, h3, u, h4⟩ := p.1 a ha
        rw [h4, (f.kp a u h4 h2).1]) fun a ha => nomatch ha
      refine r'.keep ⟨rfl, rfl⟩ (Same.refl _) fun a ha => ⟨?_, rfl⟩
      by_cases z : a ∈ as
      · exact Wd.take_in z
      · rw [Wd.take_out z] at ha; cases ha
/-- the slot's word -/
def slot (o : Bool) (d : D) : Sl := if o then .o d else .s d
theorem Pend.store (p : Pend K o w H0 H v d as) (i : Nat) (e : EnvOk K w ρ σ H) (f : Fr w0 H0 w H) : ∃ w', Fr w0 H0 w' H ∧ EnvOk K w' (ρ.set i (slot o d)) (σ.set i (some v)) H ∧ w'.hs = w.hs ∧ ∀ a, a ∉ as → w'.own a = w.own a := by
  cases o with
  | false => exact ⟨w, f, e.setS p.2, rfl, fun _ _ => rfl⟩
  | true =>
    obtain ⟨h1, h2⟩ := e.taken (i := i) f (fun a ha => (p.1 a ha).1) (fun a ha => (p.1 a ha).2.1) (fun a ha => (p.1 a ha).2.2.1) (fun a ha => (p.1 a ha).2.2.2) (p.2 w i (Same.refl _))
    exact ⟨w.take i as, h1, h2, rfl, fun a ha => Wd.take_out ha⟩
theorem Pend.own (p : Pend K o w H0 H v d as) (hs : w'.hs = w.hs) (ho : ∀ a ∈ as, w'.own a = w.own a) : Pend K o w' H0 H v d as := by
  cases o with
  | false => exact ⟨p.1, by rw [hs]; exact p.2⟩
  | true =>
    refine ⟨fun a ha => ?_, fun w2 i s => p.2 w2 i (by rw [← hs]; exact s)⟩
    obtain ⟨h1, h2, h3, h4⟩ := p.1 a ha
    exact ⟨h1, by rw [ho a ha]; exact h2, by rw [hs]; exact h3, h4⟩
theorem Pend.old {w1 : Wd} {H1 : Hp} (p : Pend K o w H1 H v d as) (f : Fr w0 H0 w1 H1) : Pend K o w H0 H v d as := by
  cases o with
  | false => exact p
  | true => exact ⟨fun a ha => ⟨f.free (p.1 a ha).1, (p.1 a ha).2⟩, p.2⟩
theorem Pend.apart {H1 : Hp} {o2 : Bool} {w2 : Wd} {H2 : Hp} {v2 : V} {d2 : D} {as2 : List Addr} (p : Pend K o w H0 H1 v d as) (q : Pend K o2 w2 H1 H2 v2 d2 as2) : ∀ a ∈ as2, a ∉ as := fun a ha hb => by
  cases o with
  | false => rw [p.1] at hb; cases hb
  | true =>
    cases o2 with
    | false => rw [q.1] at ha; cases ha
    | true =>
      obtain ⟨_, _, _, u, h⟩ := p.1 a hb
      rw [(q.1 a ha).1] at h; cases h
end
/-- new or shared -/
def tG (K : PySem.W.Frag) (o : Bool) (f : FE) : TE := fun σ H Q => ∃ w ρ d ρ', EnvOk K w ρ σ H ∧ f ρ = some (d, ρ') ∧ ∀ v as w' H', Fr w H w' H' → EnvOk K w' ρ' σ H' → Pend K o w' H H' v d as → Q v H'
abbrev VX (X : Cx) (e : Expr) (o : Bool) (f : FE) : Prop := PE X e (tG X.K o f)
section
variable {X : Cx} {a b c e : Expr} {f g h : FE} {pos : Pos} {i j l : Nat} {x y z : Str} {o1 o2 o3 : Bool}
theorem VE.vx (h : VE X e f) : VX X e false f := weakE h fun σ H Q q => by
  obtain ⟨w, ρ, d, ρ', ok, ef, k⟩ := q
  exact ⟨w, ρ, d, ρ', ok, ef, fun v w' H' fr ok' r => k v [] w' H' fr ok' ⟨rfl, r⟩⟩
theorem VN.vx (h : VN X e f) : VX X e true f := weakE h fun σ H Q q => by
  obtain ⟨w, ρ, d, ρ', ok, ef, k⟩ := q
  refine ⟨w, ρ, d, ρ', ok, ef, fun v w' H' fr ok' r => ?_⟩
  obtain ⟨as, p⟩ := r.pend
  exact k v as w' H' fr ok' p
def sPar (i j : Nat) (o1 o2 : Bool) (f g : FE) : FS := fun ρ => (f ρ).bind fun p => (g p.2).map fun q => .nx ((q.2.set i (slot o1 p.1)).set j (slot o2 q.1))
theorem vs_par {px py pt : Pos} {kt k2 pt2} (hc : X.calm = true) (hN : X.N.Nodup) (hi : X.N[i]? = some x) (hj : X.N[j]? = some y) (hij : i ≠ j)
    (hx : X.env.scope.names.lookup x = some .local) (hy : X.env.scope.names.lookup y = some .local) (ha : VX X a o1 f) (hb : VX X b o2 g)
    (hw : swappedStores [.Tuple [.Name x px, .Name y py] kt pt] (.Tuple [a, b] k2 pt2) X.env = pure (some [x, y]))
    (hs : swapsWithSole [.Tuple [.Name x px, .Name y py] kt pt] (.Tuple [a, b] k2 pt2) pos.line X.env = pure false := by rfl)
    (s1 : starEach [a, b] X.env = (false, eval a X.env) :: starEach [b] X.env := by rfl) (s2 : starEach [b] X.env = (false, eval b X.env) :: starEach [] X.env := by rfl) :
    VS1 X (.Assign [.Tuple [.Name x px, .Name y py] kt pt] (.Tuple [a, b] k2 pt2) pos) (sPar i j o1 o2 f g) := by
  refine weakS (ps_par hc hN hi hj hij hx hy (pa_cons ha (pa_cons hb pa_nil s2) s1) hw hs) fun E σ H q => ?_
  obtain ⟨w, ρ, ot, ok, ef, k⟩ := q
  obtain ⟨⟨d1, ρ1⟩, e1, e2⟩ := Option.bind_eq_some_iff.mp ef
  obtain ⟨⟨d2, ρ2⟩, e3, e4⟩ := Option.map_eq_some_iff.mp e2
  cases e4
  refine ⟨w, ρ, d1, ρ1, ok, e1, fun v as w1 H1 f1 ok1 p1 => ⟨w1, ρ1, d2, ρ2, ok1, e3, fun u bs w2 H2 f2 ok2 p2 => ⟨v, u, rfl, ?_⟩⟩⟩
  obtain ⟨w3, f3, ok3, h3, n3⟩ := (p1.fr f2).store i ok2 (f1.trans f2)
  obtain ⟨w4, f4, ok4, _, _⟩ := ((p2.old f1).own h3 fun a ha => n3 a (p1.apart p2 a ha)).store j ok3 f3
  exact k _ w4 H2 f4 ok4
def sPar3 (i j l : Nat) (o1 o2 o3 : Bool) (f g h : FE) : FS := fun ρ => (f ρ).bind fun p => (g p.2).bind fun q => (h q.2).map fun r => .nx (((r.2.set i (slot o1 p.1)).set j (slot o2 q.1)).set l (slot o3 r.1))
theorem vs_par3 {px py pz pt : Pos} {kt k2 pt2} (hc : X.calm = true) (hN : X.N.Nodup) (hi : X.N[i]? = some x) (hj : X.N[j]? = some y) (hl : X.N[l]? = some z) (hij : i ≠ j) (hil : i ≠ l) (hjl : j ≠ l)
    (hx : X.env.scope.names.lookup x = some .local) (hy : X.env.scope.names.lookup y = some .local) (hz : X.env.scope.names.lookup z = some .local) (ha : VX X a o1 f) (hb : VX X b o2 g) (hd : VX X c o3 h)
    (hw : swappedStores [.Tuple [.Name x px, .Name y py, .Name z pz] kt pt] (.Tuple [a, b, c] k2 pt2) X.env = pure (some [x, y, z]))
    (hs : swapsWithSole [.Tuple [.Name x px, .Name y py, .Name z pz] kt pt] (.Tuple [a, b, c] k2 pt2) pos.line X.env = pure false := by rfl)
    (s1 : starEach [a, b, c] X.env = (false, eval a X.env) :: starEach [b, c] X.env := by rfl) (s2 : starEach [b, c] X.env = (false, eval b X.env) :: starEach [c] X.env := by rfl) (s3 : starEach [c] X.env = (false, eval c X.env) :: starEach [] X.env := by rfl) :
    VS1 X (.Assign [.Tuple [.Name x px, .Name y py, .Name z pz] kt pt] (.Tuple [a, b, c] k2 pt2) pos) (sPar3 i j l o1 o2 o3 f g h) := by
  refine weakS (ps_par3 hc hN hi hj hl hij hil hjl hx hy hz (pa_cons ha (pa_cons hb (pa_cons hd pa_nil s3) s2) s1) hw hs) fun E σ H q => ?_
  obtain ⟨w, ρ, ot, ok, ef, k⟩ := q
  obtain ⟨⟨d1, ρ1⟩, e1, e2⟩ := Option.bind_eq_some_iff.mp ef
  obtain ⟨⟨d2, ρ2⟩, e3, e4⟩ := Option.bind_eq_some_iff.mp e2
  obtain ⟨⟨d3, ρ3⟩, e5, e6⟩ := Option.map_eq_some_iff.mp e4
  cases e6
  refine ⟨w, ρ, d1, ρ1, ok, e1, fun v as w1 H1 f1 ok1 p1 => ⟨w1, ρ1, d2, ρ2, ok1, e3, fun u bs w2 H2 f2 ok2 p2 => ⟨w2, ρ2, d3, ρ3, ok2, e5, fun t cs w3 H3 f3 ok3 p3 => ⟨v, u, t, rfl, ?_⟩⟩⟩⟩
  have p1' := p1.fr f2
  have f12 := f1.trans f2
  obtain ⟨w4, f4, ok4, h4, n4⟩ := (p1'.fr f3).store i ok3 (f12.trans f3)
  have q2 : Pend X.K o2 w3 H H3 u d2 bs := (p2.old f1).fr f3
  have q3 : Pend X.K o3 w3 H H3 t d3 cs := p3.old f12
  obtain ⟨w5, f5, ok5, h5, n5⟩ := (q2.own h4 fun a ha => n4 a (p1.apart p2 a ha)).store j ok4 f4
  obtain ⟨w6, f6, ok6, _, _⟩ := (q3.own (h5.trans h4) fun a ha => (n5 a (p2.apart p3 a ha)).trans (n4 a (p1'.apart p3 a ha))).store l ok5 f5
  exact k _ w6 H3 f6 ok6
/-! ### x += e -/
def sAug (op : D → D → Option D) (i : Nat) (f : FE) : FS := fun ρ => if hasSl ρ i then (f ρ).bind fun p => match p.2[i]? with
  | some (Sl.s d) => (op d p.1).map fun r => .nx (p.2.set i (Sl.s r))
  | _ => none
  else none
def addI : D → D → Option D
  | .int i, .int j => some (.int (i + j))
  | _, _ => none
theorem vs_augI {pos' : Pos} (hN : X.N.Nodup) (hi : X.N[i]? = some x) (hx : Loc X.env.scope x) (h : VE X e f) (hf : X.fn x = true ∨ X.env.scope.names.lookup x = some .local := by first | exact .inl rfl | exact .inr rfl | assumption) :
    VS1 X (.AugAssign (.Name x pos') .Add e pos) (sAug addI i f) := by
  refine weakS (ps_aug hN hi hx h ip_add hf) fun E σ H q => ?_
  obtain ⟨w, ρ, ot, ok, ef, k⟩ := q
  unfold sAug at ef
  split at ef
  case isFalse => cases ef
  rename_i hsl
  obtain ⟨v0, hv0⟩ := ok.has hsl
  obtain ⟨⟨d, ρ1⟩, e1, e2⟩ := Option.bind_eq_some_iff.mp ef
  refine ⟨v0, hv0, w, ρ, d, ρ1, ok, e1, fun u w1 H1 f1 ok1 r1 => ?_⟩
  split at e2
  · rename_i d0 e3
    obtain ⟨r, e4, e5⟩ := Option.map_eq_some_iff.mp e2
    cases e5
    obtain ⟨v, hv, rv⟩ := ok1.sh i _ e3
    rw [hv0] at hv
    cases hv
    cases d0 <;> try (cases e4; done)
    cases d <;> try (cases e4; done)
    cases e4
    cases rv
    cases r1
    exact ⟨_, _, rfl, rfl, k _ w1 H1 f1 (ok1.setS (.int _))⟩
  · cases e2
/-! ### a < b < c -/
def fCh (o o' : D → D → Option D) (f g h : FE) : FE := fun ρ => (f ρ).bind fun p => (g p.2).bind fun q => (o p.1 q.1).bind fun d => match d with
  | .bl true => (h q.2).bind fun r => (o' q.1 r.1).map fun d => (d, r.2)
  | .bl false => some (.bl false, q.2)
  | _ => none
theorem ve_chain {op op' : CmpOp} {ι ι' : Type} {r : ι → R2} {r' : ι' → R2} {o o' : D → D → Option D} (c1 : CmpV X op r o) (c2 : CmpV X op' r' o') [Inhabited ι'] (ha : VE X a f) (hb : VE X b g) (hd : VE X c h) (hm : lastMarks [op, op'] [b, c] = false := by with_unfolding_all rfl) :
    VE X (.Compare a [op, op'] [b, c] pos) (fCh o o' f g h) := by
  refine orE (ι := ι × ι') (fun i => pe_chain (c1.rule i.1) (c2.rule i.2) ha hb hd hm) fun σ H Q q => ?_
  obtain ⟨w, ρ, d, ρ', ok, ef, k⟩ := q
  obtain ⟨⟨d1, ρ1⟩, e1, e2⟩ := Option.bind_eq_some_iff.mp ef
  obtain ⟨⟨d2, ρ2⟩, e3, e4⟩ := Option.bind_eq_some_iff.mp e2
  obtain ⟨d12, e5, e6⟩ := Option.bind_eq_some_iff.mp e4
  obtain ⟨i1, k1⟩ := c1.kv.kb d1 d2 d12 e5
  split at e6
  · obtain ⟨⟨d3, ρ3⟩, e7, e8⟩ := Option.bind_eq_some_iff.mp e6
    obtain ⟨d', e9, e10⟩ := Option.map_eq_some_iff.mp e8
    cases e10
    obtain ⟨i2, k2⟩ := c2.kv.kb d2 d3 d e9
    refine ⟨(i1, i2), w, ρ, d1, ρ1, ok, e1, fun v w1 H1 f1 ok1 r1 => ⟨w1, ρ1, d2, ρ2, ok1, e3, fun u w2 H2 f2 ok2 r2 => k1 w2 ρ2 σ H2 v u _ ok2 (r1.mono (.of f2.sh)) r2 fun b w3 H3 f3 ok3 r3 => ?_⟩⟩
    cases r3
    refine ⟨true, rfl, ?_⟩
    rw [if_pos rfl]
    exact ⟨w3, ρ2, d3, ρ3, ok3, e7, fun t w4 H4 f4 ok4 r4 => k2 w4 ρ3 σ H4 u t Q ok4 (r2.mono (.of (f3.trans f4).sh)) r4 fun v' w' H' f' ok' r' => k v' w' H' (f1.trans (f2.trans (f3.trans (f4.trans f')))) ok' r'⟩
  · cases e6
    refine ⟨(i1, default), w, ρ, d1, ρ1, ok, e1, fun v w1 H1 f1 ok1 r1 => ⟨w1, ρ1, d2, ρ2, ok1, e3, fun u w2 H2 f2 ok2 r2 => k1 w2 ρ2 σ H2 v u _ ok2 (r1.mono (.of f2.sh)) r2 fun b w3 H3 f3 ok3 r3 => ?_⟩⟩
    cases r3
    refine ⟨false, rfl, ?_⟩
    rw [if_neg (by decide)]
    exact k _ w3 H3 (f1.trans (f2.trans f3)) ok3 (.bl _)
  · cases e6
theorem vt_chain {op op' : CmpOp} {ι ι' : Type} {r : ι → R2} {r' : ι' → R2} {o o' : D → D → Option D} (c1 : CmpV X op r o) (c2 : CmpV X op' r' o') [Inhabited ι'] (ha : VE X a f) (hb : VE X b g) (hd : VE X c h) (hm : lastMarks [op, op'] [b, c] = false := by with_unfolding_all rfl) :
    VT X (.Compare a [op, op'] [b, c] pos) (tF blD (fCh o o' f g h)) := by
  refine ⟨fun pins s σ H Q I q => ?_⟩
  obtain ⟨w, ρ, bb, ρ', ok, ef, k⟩ := q
  obtain ⟨⟨d, ρ9⟩, e0, e99⟩ := Option.bind_eq_some_iff.mp ef
  obtain ⟨b2, e97, e98⟩ := Option.map_eq_some_iff.mp e99
  cases e98
  obtain ⟨⟨d1, ρ1⟩, e1, e2⟩ := Option.bind_eq_some_iff.mp e0
  obtain ⟨⟨d2, ρ2⟩, e3, e4⟩ := Option.bind_eq_some_iff.mp e2
  obtain ⟨d12, e5, e6⟩ := Option.bind_eq_some_iff.mp e4
  obtain ⟨i1, k1⟩ := c1.kv.kb d1 d2 d12 e5
  split at e6
  · obtain ⟨⟨d3, ρ3⟩, e7, e8⟩ := Option.bind_eq_some_iff.mp e6
    obtain ⟨d', e9, e10⟩ := Option.map_eq_some_iff.mp e8
    cases e10
    obtain ⟨i2, k2⟩ := c2.kv.kb d2 d3 d e9
    refine (pt_chain (c1.rule i1) (c2.rule i2) ha hb hd hm).run pins s σ H Q I ⟨w, ρ, d1, ρ1, ok, e1, fun v w1 H1 f1 ok1 r1 => ⟨w1, ρ1, d2, ρ2, ok1, e3, fun u w2 H2 f2 ok2 r2 => k1 w2 ρ2 σ H2 v u _ ok2 (r1.mono (.of f2.sh)) r2 fun b w3 H3 f3 ok3 r3 => ?_⟩⟩
    cases r3
    refine ⟨true, rfl, ?_⟩
    rw [if_pos rfl]
    refine ⟨w3, ρ2, d3, ρ3, ok3, e7, fun t w4 H4 f4 ok4 r4 => k2 w4 ρ3 σ H4 u t _ ok4 (r2.mono (.of (f3.trans f4).sh)) r4 fun v' w' H' f' ok' r' => ?_⟩
    cases d <;> cases e97
    cases r'
    exact ⟨bb, rfl, k w' H' (f1.trans (f2.trans (f3.trans (f4.trans f')))) ok'⟩
  · cases e6
    cases e97
    refine (pt_chain (c1.rule i1) (c2.rule default) ha hb hd hm).run pins s σ H Q I ⟨w, ρ, d1, ρ1, ok, e1, fun v w1 H1 f1 ok1 r1 => ⟨w1, ρ1, d2, ρ2, ok1, e3, fun u w2 H2 f2 ok2 r2 => k1 w2 ρ2 σ H2 v u _ ok2 (r1.mono (.of f2.sh)) r2 fun b w3 H3 f3 ok3 r3 => ?_⟩⟩
    cases r3
    refine ⟨false, rfl, ?_⟩
    rw [if_neg (by decide)]
    exact ⟨false, rfl, k w3 H3 (f1.trans (f2.trans f3)) ok3⟩
  · cases e6
end
end VS
set_option autoImplicit false
namespace VS
open PySem PySem.Spec PyProof.Rows L2 AR
/-! ### {k: v for target in iter if test} -/
def dcL (us : List Nat) (fg : FG) (fc : FT) (fk fv : FE) : List D → En → List D → List D → Option ((List D × List D) × En)
  | [], ρ, ks, vs => some ((ks, vs), ρ)
  | x :: xs, ρ, ks, vs => (fg x (wipeE ρ us)).bind fun ρ1 => (fc ρ1).bind fun p => if p.1 then (fk p.2).bind fun q => (fv q.2).bind fun r => if ks.length < sizeLine then (keyOf q.1).bind fun _ => dcL us fg fc fk fv xs r.2 (dputK ks q.1) (dputV ks vs q.1 r.1) else none
      else dcL us fg fc fk fv xs p.2 ks vs
def fDC (us : List Nat) (fi : FI) (fg : FG) (fc : FT) (fk fv : FE) : FE := fun ρ => (fi ρ).bind fun p => (dcL us fg fc fk fv p.1 p.2 [] []).map fun q => (.dct 0 q.1.1 q.1.2, wipeE q.2 us)
section
variable {K : PySem.W.Frag} {us : List Nat} {fi : FI} {fg : FG} {fc : FT} {fk fv : FE}
theorem dc_read {σ : L2.St} {H : Hp} {Q : VK} (q : tN K (fDC us fi fg fc fk fv) σ H Q) : tDc (tIt K fi) (tGt K us fg) (tTb K fc) (tV K fk) (tV K fv) us σ H Q := by
  obtain ⟨w, ρ, d, ρ', ok, ef, k⟩ := q
  obtain ⟨⟨ds, ρ1⟩, e1, e2⟩ := Option.bind_eq_some_iff.mp ef
  obtain ⟨⟨⟨tk, tv⟩, ρ2⟩, e3, e4⟩ := Option.map_eq_some_iff.mp e2
  cases e4
  refine ⟨w, ρ, ds, ρ1, ok, e1, fun J w1 H1 f1 ok1 it => ?_⟩
  obtain ⟨G, Y, wk, hG, hY⟩ := it
  intro A hA
  obtain ⟨hA1, hA2⟩ := ok1.free hA
  let P : Nat → Hp → Prop := fun i H' => ∃ w' ρ' kvs vs, Fr w1 H1 w' H' ∧ EnvOk K w' (wipeE ρ' us) (wipe σ us) H' ∧ H' A = some (.dK kvs) ∧ RepAll K w'.hs (kvs.map (·.2)) vs ∧ w'.own A = none ∧ w'.hs A = none ∧ dcL us fg fc fk fv (ds.drop i) ρ' (kvs.map fun p => keyD p.1) vs = some ((tk, tv), ρ2)
  refine ⟨fun i m H' => m = ds.length - i ∧ i ≤ ds.length ∧ P i H', ⟨ds.length, by simp, Nat.zero_le _, ?_⟩, ?_⟩
  · obtain ⟨f2, ok2⟩ := ok1.tmp (o := .dK []) hA (fun _ z => nomatch z)
    exact ⟨w1, ρ1, [], [], f2, (ok2.wipe (us := us) (σ := σ) rfl).wipe wipe_wipe.symm |> (fun z => by rw [wipeE_wipeE] at z; exact z), upd_same, .nil, hA2, hA1, e3⟩
  · rintro i m H' ⟨rfl, hi, w', ρ', kvs, vs, f', ok', hD, hr, ho, hh, el⟩
    have gH : G H' := hG _ fun a o q => ok'.sub a o (f'.sh a o q)
    by_cases hlt : i < ds.length
    · refine .inr ⟨wk.goes i H' hlt gH, P (i + 1), fun H2 h2 => ⟨ds.length - (i + 1), by omega, rfl, by omega, h2⟩, fun x H'' y => ?_⟩
      have hd : ds[i]? = some ds[i] := List.getElem?_eq_getElem hlt
      obtain ⟨w2, f2, ok2, r2⟩ := Ity.yield (ds := ds) (i := i) ok' f'.sh (hY i H' x H'' _ (wk.yields i H' x H'' hlt gH y) hd)
      rw [List.drop_eq_getElem_cons hlt] at el
      obtain ⟨ρ3, e7, e8⟩ := Option.bind_eq_some_iff.mp el
      obtain ⟨⟨b, ρ4⟩, e9, e10⟩ := Option.bind_eq_some_iff.mp e8
      refine ⟨w2, wipeE ρ' us, ds[i], ρ3, ok2, r2, e7, fun σ3 hw ok3 => ⟨hw.trans wipe_wipe, w2, ρ3, b, ρ4, ok3, e9, fun w4 H4 f4 ok4 => ?_⟩⟩
      rw [wipe_wipe] at hw
      have f24 := f2.trans f4
      obtain ⟨hD4, ho4, hh4⟩ := f24.kp A _ hD ho
      have hr4 := hr.mono (.of f24.sh)
      cases b with
      | false =>
        refine i_if0 ?_
        exact ⟨w4, ρ4, kvs, vs, f'.trans f24, ok4.wipe (by rw [hw, wipe_wipe]), hD4, hr4, ho4, hh4 hh, e10⟩
      | true =>
        refine i_it ?_
        obtain ⟨⟨kd, ρ5⟩, e11, e12⟩ := Option.bind_eq_some_iff.mp (show (fk ρ4).bind _ = some ((tk, tv), ρ2) from e10)
        obtain ⟨⟨vd, ρ6⟩, e13, e14⟩ := Option.bind_eq_some_iff.mp e12
        refine ⟨w4, ρ4, kd, ρ5, ok4, e11, fun v w5 H5 f5 ok5 r5 => ⟨w5, ρ5, vd, ρ6, ok5, e13, fun u w6 H6 f6 ok6 r6 => ?_⟩⟩
        split at e14
        case isFalse => cases e14
        rename_i hsz
        obtain ⟨ky, e15, e16⟩ := Option.bind_eq_some_iff.mp e14
        have ez := keyD_of e15
        have ez' : kd = keyD ky := ez
        subst ez'
        have f56 := f5.trans f6
        obtain ⟨hD5, ho5, hh5⟩ := f56.kp A _ hD4 ho4
        have hr5 := hr4.mono (.of f56.sh)
        obtain ⟨m1, m2⟩ := dput_put (kd := keyD) (fun _ _ => keyD_inj) r6 ky hr5
        have e16' : dcL us fg fc fk fv (ds.drop (i + 1)) ρ6 (dputK (kvs.map fun p => keyD p.1) (keyD ky)) (dputV (kvs.map fun p => keyD p.1) vs (keyD ky) vd) = some ((tk, tv), ρ2) := e16
        rw [m1] at e16'
        refine ⟨kvs, ky, rep_key (r5.mono (.of f6.sh)), hD5, by rw [List.length_map] at hsz; exact hsz, w6, ρ6, putK kvs ky u, _, ((f'.trans f24).trans f56).chg hA, (ok6.wipe (us := us) (σ := wipe σ us) (by rw [hw, wipe_wipe])).chg hD5 ho5 (hh5 (hh4 hh)) (fun _ z => nomatch z), upd_same, m2, ho5, hh5 (hh4 hh), e16'⟩
    · have ei : i = ds.length := by omega
      subst ei
      rw [List.drop_length] at el
      cases el
      exact .inl ⟨wk.stops H' gH, k _ w' H' (f1.trans f') (ok'.wipe wipe_wipe |> fun z => by rw [wipeE_wipeE] at z; exact z) (.dK (f1.free hA) ho hh hD rfl hr)⟩
theorem fDC_nb : ∀ ρ d ρ', fDC us fi fg fc fk fv ρ = some (d, ρ') → d.isBox = false := fun ρ d ρ' h => by
  obtain ⟨⟨ds, ρ1⟩, e1, e2⟩ := Option.bind_eq_some_iff.mp h
  obtain ⟨⟨⟨tk, tv⟩, ρ2⟩, e3, e4⟩ := Option.map_eq_some_iff.mp e2
  cases e4
  rfl
end
section
variable {X : Cx} {kx vx tg iter : Expr} {ifs : List Expr} {scope : Scope} {own : List (Str × Nat)} {pos : Pos} {fi : FI} {fg : FG} {fc : FT} {fk fv : FE} {us : List Nat}
theorem vn_dc (hc : X.calm = true) (hN : X.N.Nodup) (hu : own.map (·.2) = us) (hi : VI X tg iter fi) (ok : BlkOk X.N X.env.scope scope own)
    (hg : ∀ (s : Shared) (H : Hp) (C : Addr) (cl : List (Str × Addr)) (fp : List Addr), VG (X.blk s H scope (compEnvC scope cl C X.env) fp) tg us fg) (ht : ∀ (s : Shared) (H : Hp) (C : Addr) (cl : List (Str × Addr)) (fp : List Addr), VTs (X.blk s H scope (compEnvC scope cl C X.env) fp) ifs fc)
    (hk : ∀ (s : Shared) (H : Hp) (C : Addr) (cl : List (Str × Addr)) (fp : List Addr), VE (X.blk s H scope (compEnvC scope cl C X.env) fp) kx fk)
    (he : ∀ (s : Shared) (H : Hp) (C : Addr) (cl : List (Str × Addr)) (fp : List Addr), VE (X.blk s H scope (compEnvC scope cl C X.env) fp) vx fv) (hs : ∀ x, foldedSetIterable iter X.env x = pure x := by intro _; rfl) :
    VN X (.DictComp kx vx [⟨tg, iter, ifs, 0⟩] scope pos) (fDC us fi fg fc fk fv) := by
  subst hu
  exact weakE (pe_dc (g := tGt X.K (own.map (·.2)) fg) (tt := tTb X.K fc) (tk := tV X.K fk) (tv := tV X.K fv) hc hN hi ok hg ht hk he hs) fun σ H Q q => dc_read q
end
/-! ### {(..): v for t1 in i1 for t2 in i2} -/
def inL (us : List Nat) (gj : FG) (tj : FT) (fk fv : FE) : List D → En → List D → List D → Option ((List D × List D) × En)
  | [], ρ, ks, vs => some ((ks, vs), ρ)
  | x :: xs, ρ, ks, vs => (gj x (wipeE ρ us)).bind fun ρ1 => (tj ρ1).bind fun p => if p.1 then (fk p.2).bind fun q => (fv q.2).bind fun r => if ks.length < sizeLine then (keyTOf q.1).bind fun _ => inL us gj tj fk fv xs r.2 (dputK ks q.1) (dputV ks vs q.1 r.1) else none
      else inL us gj tj fk fv xs p.2 ks vs
def dcL2 (vs us : List Nat) (fg : FG) (fc : FT) (fj : FI) (gj : FG) (tj : FT) (fk fv : FE) : List D → En → List D → List D → Option ((List D × List D) × En)
  | [], ρ, ks, ds => some ((ks, ds), ρ)
  | x :: xs, ρ, ks, ds => (fg x (wipeE ρ vs)).bind fun ρ1 => (fc ρ1).bind fun p => if p.1 then (fj p.2).bind fun q => (inL us gj tj fk fv q.1 q.2 ks ds).bind fun r => dcL2 vs us fg fc fj gj tj fk fv xs r.2 r.1.1 r.1.2
      else dcL2 vs us fg fc fj gj tj fk fv xs p.2 ks ds
def fDC2 (vs us : List Nat) (fi : FI) (fg : FG) (fc : FT) (fj : FI) (gj : FG) (tj : FT) (fk fv : FE) : FE := fun ρ => (fi ρ).bind fun p => (dcL2 vs us fg fc fj gj tj fk fv p.1 p.2 [] []).map fun q => (.dct 1 q.1.1 q.1.2, wipeE q.2 vs)
theorem wipe_sub {σ : L2.St} {vs us : List Nat} (h : ∀ i ∈ us, i ∈ vs) : wipe (wipe σ us) vs = wipe σ vs := by
  apply List.ext_getElem?
  intro j
  by_cases hj : j ∈ vs
  · by_cases hl : j < σ.length
    · rw [wipe_in hj hl, wipe_in hj (by rw [wipe_length]; exact hl)]
    · rw [List.getElem?_eq_none (by rw [wipe_length, wipe_length]; omega), List.getElem?_eq_none (by rw [wipe_length]; omega)]
  · rw [wipe_get hj, wipe_get hj, wipe_get (fun z => hj (h j z))]
theorem wipeE_sub {ρ : En} {vs us : List Nat} (h : ∀ i ∈ us, i ∈ vs) : wipeE (wipeE ρ us) vs = wipeE ρ vs := by
  apply List.ext_getElem?
  intro j
  by_cases hj : j ∈ vs
  · by_cases hl : j < ρ.length
    · rw [wipeE_in hj hl, wipeE_in hj (by rw [wipeE_length]; exact hl)]
    · rw [List.getElem?_eq_none (by rw [wipeE_length, wipeE_length]; omega), List.getElem?_eq_none (by rw [wipeE_length]; omega)]
  · rw [wipeE_get hj, wipeE_get hj, wipeE_get (fun z => hj (h j z))]
section
variable {K : PySem.W.Frag} {vs us : List Nat} {fi : FI} {fg : FG} {fc : FT} {fj : FI} {gj : FG} {tj : FT} {fk fv : FE}
theorem dc2_read (hv : ∀ i ∈ us, i ∈ vs) {σ : L2.St} {H : Hp} {Q : VK} (q : tN K (fDC2 vs us fi fg fc fj gj tj fk fv) σ H Q) : tDc2 (tIt K fi) (tGt K vs fg) (tTb K fc) (tIt K fj) (tGt K us gj) (tTb K tj) (tV K fk) (tV K fv) vs us σ H Q := by
  obtain ⟨w, ρ, d, ρ', ok, ef, k⟩ := q
  obtain ⟨⟨ds, ρ1⟩, e1, e2⟩ := Option.bind_eq_some_iff.mp ef
  obtain ⟨⟨⟨tk, tv⟩, ρ2⟩, e3, e4⟩ := Option.map_eq_some_iff.mp e2
  cases e4
  refine ⟨w, ρ, ds, ρ1, ok, e1, fun J w1 H1 f1 ok1 it => ?_⟩
  obtain ⟨G, Y, wk, hG, hY⟩ := it
  intro A hA
  obtain ⟨hA1, hA2⟩ := ok1.free hA
  let P : Nat → Hp → Prop := fun i H' => ∃ w' ρ' kvs dv, Fr w1 H1 w' H' ∧ EnvOk K w' (wipeE ρ' vs) (wipe σ vs) H' ∧ H' A = some (.dT kvs) ∧ RepAll K w'.hs (kvs.map (·.2)) dv ∧ w'.own A = none ∧ w'.hs A = none ∧ dcL2 vs us fg fc fj gj tj fk fv (ds.drop i) ρ' (kvs.map fun p => keyT p.1) dv = some ((tk, tv), ρ2)
  refine ⟨fun i m H' => m = ds.length - i ∧ i ≤ ds.length ∧ P i H', ⟨ds.length, by simp, Nat.zero_le _, ?_⟩, ?_⟩
  · obtain ⟨f2, ok2⟩ := ok1.tmp (o := .dT []) hA (fun _ z => nomatch z)
    exact ⟨w1, ρ1, [], [], f2, (ok2.wipe (us := vs) (σ := σ) rfl).wipe wipe_wipe.symm |> (fun z => by rw [wipeE_wipeE] at z; exact z), upd_same, .nil, hA2, hA1, e3⟩
  · rintro i m H' ⟨rfl, hi, w', ρ', kvs, dv, f', ok', hD, hr, ho, hh, el⟩
    have gH : G H' := hG _ fun a o q => ok'.sub a o (f'.sh a o q)
    by_cases hlt : i < ds.length
    · refine .inr ⟨wk.goes i H' hlt gH, P (i + 1), fun H2 h2 => ⟨ds.length - (i + 1), by omega, rfl, by omega, h2⟩, fun x H'' y => ?_⟩
      have hd : ds[i]? = some ds[i] := List.getElem?_eq_getElem hlt
      obtain ⟨w2, f2, ok2, r2⟩ := Ity.yield (ds := ds) (i := i) ok' f'.sh (hY i H' x H'' _ (wk.yields i H' x H'' hlt gH y) hd)
      rw [List.drop_eq_getElem_cons hlt] at el
      obtain ⟨ρ3, e7, e8⟩ := Option.bind_eq_some_iff.mp el
      obtain ⟨⟨b, ρ4⟩, e9, e10⟩ := Option.bind_eq_some_iff.mp e8
      refine ⟨w2, wipeE ρ' vs, ds[i], ρ3, ok2, r2, e7, fun σ3 hw ok3 => ⟨hw.trans wipe_wipe, w2, ρ3, b, ρ4, ok3, e9, fun w4 H4 f4 ok4 => ?_⟩⟩
      rw [wipe_wipe] at hw
      have f24 := f2.trans f4
      obtain ⟨hD4, ho4, hh4⟩ := f24.kp A _ hD ho
      have hr4 := hr.mono (.of f24.sh)
      cases b with
      | false =>
        refine i_if0 ?_
        exact ⟨w4, ρ4, kvs, dv, f'.trans f24, ok4.wipe (by rw [hw, wipe_wipe]), hD4, hr4, ho4, hh4 hh, e10⟩
      | true =>
        refine i_it ?_
        obtain ⟨⟨js, ρ5⟩, e11, e12⟩ := Option.bind_eq_some_iff.mp (show (fj ρ4).bind _ = some ((tk, tv), ρ2) from e10)
        obtain ⟨⟨⟨ik, iv⟩, ρ6⟩, e13, e14⟩ := Option.bind_eq_some_iff.mp e12
        refine ⟨w4, ρ4, js, ρ5, ok4, e11, fun L w5 H5 f5 ok5 it2 => ?_⟩
        obtain ⟨G2, Y2, wk2, hG2, hY2⟩ := it2
        obtain ⟨hD5, ho5, hh5⟩ := f5.kp A _ hD4 ho4
        have hr5 := hr4.mono (.of f5.sh)
        have f15 := (f'.trans f24).trans f5
        let P2 : Nat → Hp → Prop := fun j H' => ∃ w' ρ' kvs dv, Same w5.hs w'.hs ∧ EnvOk K w' (wipeE ρ' us) (wipe σ3 us) H' ∧ H' A = some (.dT kvs) ∧ RepAll K w'.hs (kvs.map (·.2)) dv ∧ w'.own A = none ∧ w'.hs A = none ∧ inL us gj tj fk fv (js.drop j) ρ' (kvs.map fun p => keyT p.1) dv = some ((ik, iv), ρ6) ∧ Fr w1 H1 w' H'
        refine ⟨fun j m H' => m = js.length - j ∧ j ≤ js.length ∧ P2 j H', ⟨js.length, by simp, Nat.zero_le _, ?_⟩, ?_⟩
        · exact ⟨w5, ρ5, kvs, dv, Same.refl _, (ok5.wipe (us := us) (σ := σ3) rfl).wipe wipe_wipe.symm |> (fun z => by rw [wipeE_wipeE] at z; exact z), hD5, hr5, ho5, hh5 (hh4 hh), e13, f15⟩
        · rintro j m2 H6 ⟨rfl, hj, w6, ρ7, kvs6, dv6, f6, ok6, hD6, hr6, ho6, hh6, el6, f16⟩
          have gH6 : G2 H6 := hG2 _ fun a o q => ok6.sub a o (f6 a o q)
          by_cases hlt2 : j < js.length
          · refine .inr ⟨wk2.goes j H6 hlt2 gH6, P2 (j + 1), fun H2 h2 => ⟨js.length - (j + 1), by omega, rfl, by omega, h2⟩, fun x2 H7 y2 => ?_⟩
            have hd2 : js[j]? = some js[j] := List.getElem?_eq_getElem hlt2
            obtain ⟨w7, f7, ok7, r7⟩ := Ity.yield (ds := js) (i := j) ok6 f6 (hY2 j H6 x2 H7 _ (wk2.yields j H6 x2 H7 hlt2 gH6 y2) hd2)
            rw [List.drop_eq_getElem_cons hlt2] at el6
            obtain ⟨ρ8, e17, e18⟩ := Option.bind_eq_some_iff.mp el6
            obtain ⟨⟨b2, ρ9⟩, e19, e20⟩ := Option.bind_eq_some_iff.mp e18
            refine ⟨w7, wipeE ρ7 us, js[j], ρ8, ok7, r7, e17, fun σ8 hw8 ok8 => ⟨hw8.trans wipe_wipe, w7, ρ8, b2, ρ9, ok8, e19, fun w9 H9 f9 ok9 => ?_⟩⟩
            rw [wipe_wipe] at hw8
            have f79 := f7.trans f9
            obtain ⟨hD9, ho9, hh9⟩ := f79.kp A _ hD6 ho6
            have hr9 := hr6.mono (.of f79.sh)
            cases b2 with
            | false =>
              refine i_if0 ?_
              exact ⟨w9, ρ9, kvs6, dv6, f6.trans f79.sh, ok9.wipe (by rw [hw8, wipe_wipe]), hD9, hr9, ho9, hh9 hh6, e20, f16.trans f79⟩
            | true =>
              refine i_it ?_
              obtain ⟨⟨kd, ρ10⟩, e21, e22⟩ := Option.bind_eq_some_iff.mp (show (fk ρ9).bind _ = some ((ik, iv), ρ6) from e20)
              obtain ⟨⟨vd, ρ11⟩, e23, e24⟩ := Option.bind_eq_some_iff.mp e22
              refine ⟨w9, ρ9, kd, ρ10, ok9, e21, fun v w10 H10 f10 ok10 r10 => ⟨w10, ρ10, vd, ρ11, ok10, e23, fun u w11 H11 f11 ok11 r11 => ?_⟩⟩
              split at e24
              case isFalse => cases e24
              rename_i hsz
              obtain ⟨ky, e25, e26⟩ := Option.bind_eq_some_iff.mp e24
              have ez' : kd = keyT ky := keyT_of e25
              subst ez'
              have fa := f10.trans f11
              obtain ⟨hDa, hoa, hha⟩ := fa.kp A _ hD9 ho9
              have hra := hr9.mono (.of fa.sh)
              obtain ⟨m1, m2⟩ := dput_put (kd := keyT) (fun _ _ => keyT_inj) r11 ky hra
              have e26' : inL us gj tj fk fv (js.drop (j + 1)) ρ11 (dputK (kvs6.map fun p => keyT p.1) (keyT ky)) (dputV (kvs6.map fun p => keyT p.1) dv6 (keyT ky) vd) = some ((ik, iv), ρ6) := e26
              rw [m1] at e26'
              obtain ⟨bq, rfl, hbq⟩ := rep_keyT (r10.mono (.of f11.sh))
              refine ⟨kvs6, ky, bq, rfl, ok11.sub.tup hbq, hDa, by rw [List.length_map] at hsz; exact hsz, w11, ρ11, putK kvs6 ky u, _, f6.trans (f79.trans fa).sh, (ok11.wipe (us := us) (σ := wipe σ3 us) (by rw [hw8, wipe_wipe])).chg hDa hoa (hha (hh9 hh6)) (fun _ z => nomatch z), upd_same, m2, hoa, hha (hh9 hh6), e26', ((f16.trans f79).trans fa).chg hA⟩
          · have ej : j = js.length := by omega
            subst ej
            rw [List.drop_length] at el6
            cases el6
            refine .inl ⟨wk2.stops H6 gH6, w6, _, kvs6, _, f16, ?_, hD6, hr6, ho6, hh6, e14⟩
            have := ok6.wipe (us := vs) (σ := wipe σ vs) (by rw [wipe_sub hv, hw, wipe_wipe])
            rw [wipeE_sub hv] at this
            exact this
    · have ei : i = ds.length := by omega
      subst ei
      rw [List.drop_length] at el
      cases el
      exact .inl ⟨wk.stops H' gH, k _ w' H' (f1.trans f') (ok'.wipe wipe_wipe |> fun z => by rw [wipeE_wipeE] at z; exact z) (.dT (f1.free hA) ho hh hD rfl hr)⟩
theorem fDC2_nb : ∀ ρ d ρ', fDC2 vs us fi fg fc fj gj tj fk fv ρ = some (d, ρ') → d.isBox = false := fun ρ d ρ' h => by
  obtain ⟨⟨ds, ρ1⟩, e1, e2⟩ := Option.bind_eq_some_iff.mp h
  obtain ⟨⟨⟨tk, tv⟩, ρ2⟩, e3, e4⟩ := Option.map_eq_some_iff.mp e2
  cases e4
  rfl
end
section
variable {X : Cx} {ek ev u0 j0 u1 j1 : Expr} {cs0 cs1 : List Expr} {sc : Scope} {own : List (Str × Nat)} {po : Pos} {vs us : List Nat} {fi : FI} {fg : FG} {fc : FT} {fj : FI} {gj : FG} {tj : FT} {fk fv : FE}
theorem vn_dc2 (hc : X.calm = true) (hu : X.A.units < cLine) (hN : X.N.Nodup) (hvs : own.map (·.2) = vs) (hi : VI X u0 j0 fi) (ok : BlkOk X.N X.env.scope sc own) (hv : ∀ i ∈ us, i ∈ vs)
    (hg : ∀ (s : Shared) (H : Hp) (C : Addr) (cl : List (Str × Addr)) (fp : List Addr), VG (X.blk s H sc (compEnvC sc cl C X.env) fp) u0 vs fg) (ht : ∀ (s : Shared) (H : Hp) (C : Addr) (cl : List (Str × Addr)) (fp : List Addr), VTs (X.blk s H sc (compEnvC sc cl C X.env) fp) cs0 fc)
    (hj : ∀ (s : Shared) (H : Hp) (C : Addr) (cl : List (Str × Addr)) (fp : List Addr), VI (X.blk s H sc (compEnvC sc cl C X.env) fp) u1 j1 fj) (hgj : ∀ (s : Shared) (H : Hp) (C : Addr) (cl : List (Str × Addr)) (fp : List Addr), VG (X.blk s H sc (compEnvC sc cl C X.env) fp) u1 us gj) (htj : ∀ (s : Shared) (H : Hp) (C : Addr) (cl : List (Str × Addr)) (fp : List Addr), VTs (X.blk s H sc (compEnvC sc cl C X.env) fp) cs1 tj)
    (hk : ∀ (s : Shared) (H : Hp) (C : Addr) (cl : List (Str × Addr)) (fp : List Addr), VE (X.blk s H sc (compEnvC sc cl C X.env) fp) ek fk) (he : ∀ (s : Shared) (H : Hp) (C : Addr) (cl : List (Str × Addr)) (fp : List Addr), VE (X.blk s H sc (compEnvC sc cl C X.env) fp) ev fv)
    (hs : ∀ x, foldedSetIterable j0 X.env x = pure x := by intro _; rfl) (hs1 : ∀ env x, foldedSetIterable j1 env x = pure x := by intro _ _; rfl) :
    VN X (.DictComp ek ev [⟨u0, j0, cs0, 0⟩, ⟨u1, j1, cs1, 0⟩] sc po) (fDC2 vs us fi fg fc fj gj tj fk fv) := by
  subst hvs
  exact weakE (pe_dc2 (wi := tIt X.K fi) (g := tGt X.K (own.map (·.2)) fg) (tt := tTb X.K fc) (wj := tIt X.K fj) (gj := tGt X.K us gj) (tj := tTb X.K tj) (tk := tV X.K fk) (tv := tV X.K fv) hc hu hN hi ok hv hg ht hj hgj htj hk he hs hs1) fun σ H Q q => dc2_read hv q
end
end VS
set_option autoImplicit false
namespace VS
open PySem PySem.Spec PyProof.Rows L2 AR
open C8 (Cal Met Mak)
/-- a box at b, of the addresses as -/
def BoxAt (H : Hp) (b : Addr) (as : List Addr) : BoxC → Prop
  | .flow ns s c => ∃ l, as = [b, l] ∧ b ≠ l ∧ H b = some (.lst [.ref l, .int s, .int c]) ∧ H l = some (.lst (ns.map V.int)) ∧ ns.length ≤ 1000
  | .nums xs => as = [b] ∧ H b = some (.lst (xs.map V.int))
theorem BoxAt.live {H : Hp} {b : Addr} {as : List Addr} {c : BoxC} (h : BoxAt H b as c) : (∀ a ∈ as, ∃ o, H a = some o) ∧ b ∈ as := by
  cases c with
  | flow ns s c =>
    obtain ⟨l, rfl, ne, h1, h2, _⟩ := h
    refine ⟨fun a ha => ?_, by simp⟩
    rcases List.mem_cons.mp ha with q | q
    · rw [q]; exact ⟨_, h1⟩
    · rw [List.mem_singleton.mp q]; exact ⟨_, h2⟩
  | nums xs =>
    obtain ⟨rfl, h1⟩ := h
    exact ⟨fun a ha => by rw [List.mem_singleton.mp ha]; exact ⟨_, h1⟩, by simp⟩
/-- what a def promises whose first parameter is a box -/
def spB (K : PySem.W.Frag) (n : Nat) (f : BoxC → List D → Option (D × BoxC)) : Sp := fun vs H Q _ => ∃ b vs' as c hs ds r c', vs = .ref b :: vs' ∧ BoxAt H b as c ∧ (∀ a ∈ as, hs a = none) ∧ Sub hs H ∧ AllT hs H ∧ RepAll K hs vs' ds ∧ ds.length = n ∧ f c ds = some (r, c') ∧
  ∀ v hs' H', (∀ a o, a ∉ as → H a = some o → H' a = some o) → BoxAt H' b as c' → Same hs hs' → Sub hs' H' → AllT hs' H' → (∀ a o, H a = some o → hs a = none → hs' a = none) → Rep K hs' v r → Q v H'
def startB (c : BoxC) (k : Nat) (ds : List D) : En := Sl.o (.box true c) :: (ds.map Sl.s ++ List.replicate (k - (ds.length + 1)) .u)
def boxD (ρ : En) : Option BoxC := match ρ[0]? with
  | some (Sl.o (.box true c)) => some c
  | _ => none
/-- two words of one box have one form -/
def formB : BoxC → BoxC → Bool
  | .flow _ _ _, .flow _ _ _ => true
  | .nums _, .nums _ => true
  | _, _ => false
def sameForm : BoxC → BoxC → Prop
  | .flow _ _ _, .flow _ _ _ => True
  | .nums _, .nums _ => True
  | _, _ => False
theorem formB_same {c c' : BoxC} (h : formB c c' = true) : sameForm c c' := by cases c <;> cases c' <;> first | trivial | cases h
def fnB (n k : Nat) (body : FS) (c : BoxC) (ds : List D) : Option (D × BoxC) := if ds.length = n then match body (startB c k ds) with
  | some (.rt d ρ) => (boxD ρ).bind fun c' => if formB c c' then some (d, c') else none
  | some (.nx ρ) => (boxD ρ).bind fun c' => if formB c c' then some (.non, c') else none
  | _ => none
  else none
/-- the owner's word of a box -/
theorem RepO.box {K : PySem.W.Frag} {w : Wd} {H : Hp} {i : Nat} {v : V} {p : Bool} {c : BoxC} (r : RepO K w H i v (.box p c)) : ∃ b as, v = .ref b ∧ BoxAt H b as c ∧ (∀ a ∈ as, w.own a = some i) ∧ (p = true → b = w.me) ∧ (p = true → ∀ ns s k, c = .flow ns s k → as = [w.me, w.me2]) := by
  cases r with
  | @flow b l ns s c p hp h1 h2 h3 h4 h5 h6 =>
    refine ⟨b, [b, l], rfl, ⟨l, rfl, h3, h4, h5, h6⟩, fun a ha => ?_, fun z => (hp z).1, fun z _ _ _ _ => by rw [(hp z).1, (hp z).2]⟩
    rcases List.mem_cons.mp ha with q | q
    · rw [q]; exact h1
    · rw [List.mem_singleton.mp q]; exact h2
  | @nums b xs p hp h1 h2 => exact ⟨b, [b], rfl, ⟨rfl, h2⟩, fun a ha => by rw [List.mem_singleton.mp ha]; exact h1, hp, fun _ _ _ _ e => nomatch e⟩
theorem BoxAt.own {K : PySem.W.Frag} {w : Wd} {H : Hp} {i : Nat} {b : Addr} {as : List Addr} {p : Bool} {c : BoxC} (h : BoxAt H b as c) (ho : ∀ a ∈ as, w.own a = some i) (hp : p = true → b = w.me) (hq : p = true → ∀ ns s k, c = .flow ns s k → as = [w.me, w.me2]) : RepO K w H i (.ref b) (.box p c) := by
  cases c with
  | flow ns s c =>
    obtain ⟨l, rfl, ne, h1, h2, h3⟩ := h
    exact .flow (fun z => ⟨hp z, by have := hq z _ _ _ rfl; injection this with _ this; injection this⟩) (ho b (by simp)) (ho l (by simp)) ne h1 h2 h3
  | nums xs =>
    obtain ⟨rfl, h1⟩ := h
    exact .nums hp (ho b (by simp)) h1
theorem fnB_inv {n k : Nat} {body : FS} {c c' : BoxC} {ds : List D} {r : D} (h : fnB n k body c ds = some (r, c')) : ds.length = n ∧ sameForm c c' ∧ ((∃ ρ, body (startB c k ds) = some (.rt r ρ) ∧ boxD ρ = some c') ∨ ∃ ρ, body (startB c k ds) = some (.nx ρ) ∧ boxD ρ = some c' ∧ r = .non) := by
  unfold fnB at h
  split at h
  case isFalse => cases h
  rename_i hl
  split at h
  · rename_i d ρ e
    obtain ⟨c2, h1, h2⟩ := Option.bind_eq_some_iff.mp h
    split at h2
    · rename_i hf
      cases h2
      exact ⟨hl, formB_same hf, .inl ⟨ρ, e, h1⟩⟩
    · cases h2
  · rename_i ρ e
    obtain ⟨c2, h1, h2⟩ := Option.bind_eq_some_iff.mp h
    split at h2
    · rename_i hf
      cases h2
      exact ⟨hl, formB_same hf, .inr ⟨ρ, e, h1, rfl⟩⟩
    · cases h2
  · cases h
section
variable {K : PySem.W.Frag}
theorem startB_ok {N : List Str} {b : Addr} {as : List Addr} {c : BoxC} {vs : List V} {ds : List D} {hs H : Hp} (h : BoxAt H b as c) (hx : ∀ a ∈ as, hs a = none) (s : Sub hs H) (tp : AllT hs H) (r : RepAll K hs vs ds) :
    EnvOk K ⟨hs, fun a => if a ∈ as then some 0 else none, b, as.getD 1 0⟩ (startB c N.length ds) (L2.start N (.ref b :: vs)) H := by
  have own : ∀ a i, (if a ∈ as then some 0 else none) = some i → a ∈ as ∧ i = 0 := fun a i q => by
    by_cases z : a ∈ as
    · rw [if_pos z] at q; injection q with q; exact ⟨z, q.symm⟩
    · rw [if_neg z] at q; cases q
  refine ⟨s, fun a i q => hx a (own a i q).1, fun a i q => h.live.1 a (own a i q).1, ?_, fun i d q => ?_, fun i d q => ?_, tp⟩
  · unfold startB L2.start
    simp only [List.length_cons, List.length_append, List.length_map, List.length_replicate, List.map_cons, List.cons_append]
    rw [r.length]
  · cases i with
    | zero => unfold startB at q; simp at q
    | succ i =>
      unfold startB at q
      rw [List.getElem?_cons_succ] at q
      obtain ⟨hi, d', hd, e⟩ := get_map_s q (fun z => nomatch z)
      injection e with e; subst e
      obtain ⟨v, hv, rv⟩ := r.get' i hd
      refine ⟨v, ?_, rv⟩
      unfold L2.start
      rw [List.map_cons, List.cons_append, List.getElem?_cons_succ, List.getElem?_append_left (by rw [List.length_map, r.length]; exact hi), List.getElem?_map, hv]
      rfl
  · cases i with
    | zero =>
      unfold startB at q
      have q' : d = .box true c := by simpa using q.symm
      subst q'
      refine ⟨.ref b, rfl, h.own (fun a ha => ?_) (fun _ => rfl) fun _ ns s k e => ?_⟩
      · show (if a ∈ as then some 0 else none) = some 0
        rw [if_pos ha]
      · subst e
        obtain ⟨l, rfl, _⟩ := h
        rfl
    | succ i =>
      unfold startB at q
      rw [List.getElem?_cons_succ] at q
      obtain ⟨hi, d', hd, e⟩ := get_map_s q (fun z => nomatch z)
      cases e
theorem boxD_inv {ρ : En} {c : BoxC} (h : boxD ρ = some c) : ρ[0]? = some (Sl.o (.box true c)) := by
  unfold boxD at h
  split at h
  · rename_i e; cases h; exact e
  · cases h
theorem bodyB_ok {N : List Str} {n : Nat} {body : FS} {vs : List V} {H : Hp} {Q : VK} {E : XK} (h : spB K n (fnB n N.length body) vs H Q E) : tSt K body { nx := fun _ H' => Q .non H', rt := Q } (L2.start N vs) H := by
  obtain ⟨b, vs', as, c, hs, ds, r, c', rfl, hb, hx, s, tp, rp, hl, ef, k⟩ := h
  obtain ⟨_, hform, hcase⟩ := fnB_inv ef
  have fin : ∀ v ρ' σ' w' H', boxD ρ' = some c' → Fr ⟨hs, fun a => if a ∈ as then some 0 else none, b, as.getD 1 0⟩ H w' H' → EnvOk K w' ρ' σ' H' → Rep K w'.hs v r → Q v H' := fun v ρ' σ' w' H' es f' ok' rv => by
    have nn : ∀ a, a ∉ as → (if a ∈ as then some 0 else none : Option Nat) = none := fun a ha => by rw [if_neg ha]
    obtain ⟨v0, hv, ro⟩ := ok'.ow 0 _ (boxD_inv es)
    obtain ⟨b', as', rfl, hb', ho', hp', hq'⟩ := ro.box
    have eb' : b' = b := (hp' rfl).trans f'.me.1
    subst eb'
    have eas : as' = as := by
      cases c with
      | flow ns s c0 =>
        cases c' with
        | flow ns' s' c0' =>
          obtain ⟨l, rfl, _⟩ := hb
          rw [hq' rfl _ _ _ rfl, f'.me.1, f'.me.2]
          rfl
        | nums => exact hform.elim
      | nums xs =>
        cases c' with
        | flow => exact hform.elim
        | nums xs' => rw [hb'.1, hb.1]
    subst eas
    refine k v w'.hs H' (fun a o ha q => (f'.kp a o q (nn a ha)).1) hb' f'.sh ok'.sub ok'.tups (fun a o q z => ?_) rv
    by_cases ha : a ∈ as'
    · exact ok'.disj a 0 (ho' a ha)
    · exact (f'.kp a o q (nn a ha)).2.2 z
  rcases hcase with ⟨ρ, eb, h1⟩ | ⟨ρ, eb, h1, rfl⟩
  · exact ⟨_, _, _, startB_ok hb hx s tp rp, eb, fun v σ' w' H' f' ok' r' => fin v ρ σ' w' H' h1 f' ok' r'⟩
  · exact ⟨_, _, _, startB_ok hb hx s tp rp, eb, fun σ' w' H' f' ok' => fin _ ρ σ' w' H' h1 f' ok' .non⟩
end
section
variable {P : Program} {w : World} {K : PySem.W.Frag} {mg : Str → Option Value} {base : Heap}
theorem GD.vcalB {x : Str} {st : Stmt} {N ps : List Str} {k n kk : Nat} {body : FS} (G : GD K mg x st ps) (S : FnScope N ps (defScope st)) (hn : ps.length = n + 1) (hkk : N.length = kk)
    (hbody : ∀ (f : Addr) (cdv : Value) (A : Around) (outer : List Env) (s : Shared) (H : Hp) (E : XK), Room k (A.deeper (envOfC x (defScope st) s.heap.objs.size f cdv)) →
      VSs (cxOf CX0 P w K mg base N x (defScope st) f cdv A outer s H E).nox (defBody st) body) : Cal P w K mg base (k + 1) x (spB K n (fnB n kk body)) [] := by
  subst hkk
  refine G.cal S (fun vs H Q E h => ?_) fun f cdv A outer s H vs Q E hr h => ⟨_, hbody f cdv A outer s H E hr, bodyB_ok h⟩
  obtain ⟨b, vs', as, c, hs, ds, r, c', rfl, hb, hx, s, tp, rp, hl, _⟩ := h
  rw [List.length_cons, rp.length, hl, hn]
end
/-! ### a call with a slot's box -/
def fCaB (f : BoxC → List D → Option (D × BoxC)) (i : Nat) (ga : FA) : FE := fun ρ => match ρ[i]? with
  | some (Sl.o (.box _ _)) => (ga ρ).bind fun q => match q.2[i]? with
    | some (Sl.o (.box p c)) => (f c q.1).map fun r => (r.1, q.2.set i (Sl.o (.box p r.2)))
    | _ => none
  | _ => none
section
variable {X : Cx} {a : Expr} {es : List Expr} {ga : FA} {pos p : Pos} {x y : Str} {k j n i : Nat} {f : BoxC → List D → Option (D × BoxC)}
theorem ve_callB (c : Cal X.prog X.w X.K X.mg X.base k x (spB X.K n f) []) (hlen : ∀ c ds r, f c ds = some r → ds.length = n) (hform : ∀ c ds r c', f c ds = some (r, c') → sameForm c c') (hr : Room j X.A) (hk : k ≤ j) (hg : Gl X x) (hb : PE X a (tVar i)) (ha : VA X es ga)
    (hdb : (x == ("__debug__" : Str)) = false := by decide) (he : starEach (a :: es) X.env = (false, eval a X.env) :: starEach es X.env := by rfl) (hpl : (backTo pos (starEach es X.env)).any (·.1) = false := by rfl) :
    VE X (.Call (.Name x p) (a :: es) [] pos) (fCaB f i ga) := by
  refine weakE (C8.pe_c c hr hk hg (pa_cons hb ha he) hdb he hpl) fun σ H Q q => ?_
  obtain ⟨w, ρ, d, ρ', ok, ef, kk⟩ := q
  unfold fCaB at ef
  split at ef
  case h_2 => cases ef
  rename_i p0 c0 e0
  obtain ⟨v0, hv0, _⟩ := ok.ow i _ e0
  obtain ⟨⟨ds, ρ1⟩, e1, e2⟩ := Option.bind_eq_some_iff.mp ef
  refine ⟨v0, hv0, w, ρ, ds, ρ1, ok, e1, fun vs w1 H1 f1 ok1 r1 => ?_⟩
  split at e2
  case h_2 => cases e2
  rename_i p1 c1 e3
  obtain ⟨⟨r, c'⟩, e4, e5⟩ := Option.map_eq_some_iff.mp e2
  cases e5
  obtain ⟨v, hv, ro⟩ := ok1.ow i _ e3
  rw [hv0] at hv
  cases hv
  obtain ⟨b, as, rfl, hb', ho', hp', hq'⟩ := ro.box
  show spB X.K n f ((V.ref b :: vs) ++ []) H1 Q _
  rw [List.append_nil]
  refine ⟨b, vs, as, c1, w1.hs, ds, r, c', rfl, hb', fun a ha => ok1.disj a i (ho' a ha), ok1.sub, ok1.tups, r1, hlen _ _ _ e4, e4, fun v hs' H' s1 s2 s3 s4 t4 s5 r' => ?_⟩
  have hfm := hform _ _ _ _ e4
  have fr : Fr w1 H1 ⟨hs', w1.own, w1.me, w1.me2⟩ H' := ⟨s3, fun a o q n => ⟨s1 a o (fun z => by rw [ho' a z] at n; cases n) q, n, fun z => s5 a o q z⟩, fun a o q => by
    by_cases z : a ∈ as
    · exact s2.live.1 a z
    · exact ⟨o, s1 a o z q⟩, rfl, rfl⟩
  refine kk v ⟨hs', w1.own, w1.me, w1.me2⟩ H' (f1.trans fr) ?_ r'
  have base : EnvOk X.K ⟨hs', w1.own, w1.me, w1.me2⟩ (ρ1.set i .u) σ H' := by
    refine ⟨s4, fun a j q => ?_, fun a j q => ?_, by rw [List.length_set]; exact ok1.len, fun j d' q => ?_, fun j d' q => ?_, t4⟩
    · obtain ⟨o, ho⟩ := ok1.live a j q
      exact s5 a o ho (ok1.disj a j q)
    · obtain ⟨o, ho⟩ := ok1.live a j q
      exact fr.lv a o ho
    · by_cases z : i = j
      · subst z
        by_cases hl : i < ρ1.length
        · rw [List.getElem?_set_self hl] at q; cases q
        · rw [List.getElem?_eq_none (by rw [List.length_set]; omega)] at q; cases q
      · rw [List.getElem?_set_ne z] at q
        obtain ⟨v', h1, h2⟩ := ok1.sh j d' q
        exact ⟨v', h1, h2.mono (.of s3)⟩
    · by_cases z : i = j
      · subst z
        by_cases hl : i < ρ1.length
        · rw [List.getElem?_set_self hl] at q; cases q
        · rw [List.getElem?_eq_none (by rw [List.length_set]; omega)] at q; cases q
      · rw [List.getElem?_set_ne z] at q
        obtain ⟨v', h1, h2⟩ := ok1.ow j d' q
        refine ⟨v', h1, h2.keep (w' := ⟨hs', w1.own, w1.me, w1.me2⟩) ⟨rfl, rfl⟩ s3 fun a ha => ⟨ha, ?_⟩⟩
        obtain ⟨o, ho⟩ := ok1.live a j ha
        rw [ho]
        exact s1 a o (fun m => by rw [ho' a m] at ha; injection ha with ha; exact z ha) ho
  have rb : RepO X.K ⟨hs', w1.own, w1.me, w1.me2⟩ H' i (.ref b) (.box p1 c') := s2.own ho' hp' fun z ns s k e => by
    subst e
    cases c1 with
    | flow ns1 s1 k1 => exact hq' z _ _ _ rfl
    | nums => exact hfm.elim
  have fin := base.setO' (i := i) (H' := H') hv0 s4 (fun a j q => base.live a j q) (fun _ _ _ _ => rfl) rb t4
  rw [List.set_set] at fin
  exact fin
/-- a def that makes a new box -/

def grow (hs H' : Hp) : Hp := fun a => match H' a with
  | some (.tup xs) => some (.tup xs)
  | _ => hs a
theorem grow_tup {hs H' : Hp} : AllT (grow hs H') H' := fun a xs q => by unfold grow; rw [q]
theorem grow_no {hs H' : Hp} {a : Addr} (h : ∀ xs, H' a ≠ some (.tup xs)) : grow hs H' a = hs a := by
  unfold grow
  split
  · rename_i xs q; exact absurd q (h xs)
  · rfl
theorem grow_or {hs H' : Hp} (a : Addr) : grow hs H' a = hs a ∨ ∃ xs, H' a = some (.tup xs) ∧ grow hs H' a = some (.tup xs) := by
  unfold grow
  split
  · rename_i xs q; exact .inr ⟨xs, q, rfl⟩
  · exact .inl rfl
theorem grow_sub {hs H' : Hp} (s : Sub hs H') : Sub (grow hs H') H' := fun a o q => by
  rcases grow_or (hs := hs) (H' := H') a with e | ⟨xs, e1, e2⟩
  · rw [e] at q; exact s a o q
  · rw [e2] at q; cases q; exact .inl e1
theorem grow_same {hs H' : Hp} (s : Sub hs H') : Same hs (grow hs H') := fun a o q => by
  rcases grow_or (hs := hs) (H' := H') a with e | ⟨xs, e1, e2⟩
  · rw [e]; exact q
  · rw [e2]
    rcases s a o q with z | ⟨z1, ob, z2⟩
    · rw [e1] at z; exact z
    · rw [e1] at z2; cases z2
def spNB (K : PySem.W.Frag) (n : Nat) (f : List D → Option BoxC) : Sp := fun vs H Q _ => ∃ hs ds c, Sub hs H ∧ RepAll K hs vs ds ∧ ds.length = n ∧ f ds = some c ∧
  ∀ b as H', Same H H' → (∀ a ∈ as, H a = none) → BoxAt H' b as c → Q (.ref b) H'
def fNB (f : List D → Option BoxC) (ds : List D) : Option D := (f ds).map fun c => .box false c
theorem vn_callNB {fb : List D → Option BoxC} (c : Cal X.prog X.w X.K X.mg X.base k x (spNB X.K n fb) []) (hlen : ∀ ds r, fb ds = some r → ds.length = n) (hr : Room j X.A) (hk : k ≤ j) (hg : Gl X x) (ha : VA X (a :: es) ga)
    (hdb : (x == ("__debug__" : Str)) = false := by decide) (he : starEach (a :: es) X.env = (false, eval a X.env) :: starEach es X.env := by rfl) (hpl : (backTo pos (starEach es X.env)).any (·.1) = false := by rfl) :
    VN X (.Call (.Name x p) (a :: es) [] pos) (fAp (fNB fb) ga) := by
  refine vn_ap (es := es) (ι := Unit) (r := fun _ vs H Q => spNB X.K n fb (vs ++ []) H Q C8.E0) (fun _ => C8.pe_c c hr hk hg ha hdb he hpl) fun ds d ed => ⟨(), fun w ρ σ H vs Q ok r kk => ?_⟩
  rw [List.append_nil]
  obtain ⟨cb, h1, h2⟩ := Option.map_eq_some_iff.mp ed
  subst h2
  refine ⟨w.hs, ds, cb, ok.sub, r, hlen _ _ h1, h1, fun b as H' s1 s2 s3 => ?_⟩
  have sb' : Sub w.hs H' := fun a u q => by
    rcases ok.sub a u q with z | ⟨z1, ob, z2⟩
    · exact .inl (s1 a u z)
    · exact .inr ⟨z1, ob, s1 a _ z2⟩
  have old : ∀ a o, H a = some o → grow w.hs H' a = w.hs a := fun a o q => by
    rcases grow_or (hs := w.hs) (H' := H') a with e | ⟨xs, e1, e2⟩
    · exact e
    · rw [s1 a o q] at e1
      rw [e2, ok.tups a xs (q.trans e1)]
  have fr : Fr w H ⟨grow w.hs H', w.own, w.me, w.me2⟩ H' := ⟨grow_same sb', fun a o q n => ⟨s1 a o q, n, fun z => by show grow w.hs H' a = none; rw [old a o q]; exact z⟩, (fun a o q => ⟨o, s1 a o q⟩), rfl, rfl⟩
  have ok' : EnvOk X.K ⟨grow w.hs H', w.own, w.me, w.me2⟩ ρ σ H' := ok.keep (grow_same sb') (grow_sub sb') rfl ⟨rfl, rfl⟩ (fun a i q => by
    obtain ⟨o, ho⟩ := ok.live a i q
    show grow w.hs H' a = none
    rw [old a o ho]; exact ok.disj a i q) (fun a i q => by
    obtain ⟨o, ho⟩ := ok.live a i q
    rw [ho]; exact s1 a o ho) grow_tup
  refine kk _ _ H' fr ok' ?_
  cases cb with
  | flow ns s c =>
    obtain ⟨l, rfl, ne, g1, g2, g3⟩ := s3
    have fb := ok.free (s2 b (by simp))
    have fl := ok.free (s2 l (by simp))
    exact .flow (s2 b (by simp)) (s2 l (by simp)) fb.2 fl.2 ((grow_no (fun xs z => by rw [g1] at z; cases z)).trans fb.1) ((grow_no (fun xs z => by rw [g2] at z; cases z)).trans fl.1) ne g1 g2 g3
  | nums xs =>
    obtain ⟨rfl, g1⟩ := s3
    have fb := ok.free (s2 b (by simp))
    exact .nums (s2 b (by simp)) fb.2 ((grow_no (fun xs z => by rw [g1] at z; cases z)).trans fb.1) g1
end
end VS
set_option autoImplicit false
namespace VS
open PySem PySem.Spec PyProof.Rows L2 AR
theorem u65 {A : Around} {k : Nat} (hr : Room k A) : A.units + 65 < cLine := by have := hr.un; omega
theorem u64 {A : Around} {k : Nat} (hr : Room k A) : A.units + 64 < cLine := by have := hr.un; omega
theorem u1 {A : Around} {k : Nat} (hr : Room k A) : A.units + 1 < cLine := by have := hr.un; omega
theorem u0 {A : Around} {k : Nat} (hr : Room k A) : A.units < cLine := by have := hr.un; omega
theorem fnB_len {n k : Nat} {body : FS} : ∀ c ds r, fnB n k body c ds = some r → ds.length = n := fun c ds r h => (fnB_inv (r := r.1) (c' := r.2) h).1
theorem fnB_form {n k : Nat} {body : FS} : ∀ c ds r c', fnB n k body c ds = some (r, c') → sameForm c c' := fun c ds r c' h => (fnB_inv h).2.1
instance : Inhabited InK := ⟨.deep⟩
section
variable {X : Cx} {elt tg iter : Expr} {ifs : List Expr} {scope : Scope} {own : List (Str × Nat)} {pos : Pos} {fi : FI} {fg : FG} {fc : FT} {fe : FE} {us : List Nat}
/-- y = [..], y shared -/
theorem vs_setLcS {i : Nat} {y : Str} {py spos : Pos} (hc : X.calm = true) (hN : X.N.Nodup) (hu : own.map (·.2) = us) (hy : X.N[i]? = some y) (hyl : X.env.scope.names.lookup y = some .local)
    (hsw : swapsWith (.ListComp elt [⟨tg, iter, ifs, 0⟩] scope pos) (some (.Name y py)) spos.line X.env = pure true) (hi : VI X tg iter fi) (ok : BlkOk X.N X.env.scope scope own)
    (hg : ∀ (s : Shared) (H : Hp) (C : Addr) (cl : List (Str × Addr)) (fp : List Addr), VG (X.blk s H scope (compEnvC scope cl C X.env) fp) tg us fg) (ht : ∀ (s : Shared) (H : Hp) (C : Addr) (cl : List (Str × Addr)) (fp : List Addr), VTs (X.blk s H scope (compEnvC scope cl C X.env) fp) ifs fc)
    (he : ∀ (s : Shared) (H : Hp) (C : Addr) (cl : List (Str × Addr)) (fp : List Addr), VE (X.blk s H scope (compEnvC scope cl C X.env) fp) elt fe) (hs : ∀ x, foldedSetIterable iter X.env x = pure x := by intro _; rfl) :
    VS1 X (.Assign [.Name y py] (.ListComp elt [⟨tg, iter, ifs, 0⟩] scope pos) spos) (sSet i (fLC us fi fg fc fe)) := by
  subst hu
  refine weakS (ps_setLc (g := tGt X.K (own.map (·.2)) fg) (tt := tTb X.K fc) (te := tV X.K fe) hc hN hy hyl hsw hi ok hg ht he hs) fun E σ H q => ?_
  obtain ⟨w, ρ, o, okE, ef, k⟩ := q
  obtain ⟨⟨d, ρ1⟩, e1, e2⟩ := Option.map_eq_some_iff.mp ef
  cases e2
  refine lc_read ⟨w, ρ, d, ρ1, okE, e1, fun v w1 H1 f1 ok1 r1 => ?_⟩
  have nb := fLC_nb _ _ _ e1
  obtain ⟨w2, f2, ok2, r2⟩ := r1.share (fun p c z => by rw [z] at nb; cases nb) ok1 f1
  exact k _ w2 H1 f2 (ok2.setS r2)
end
/-! ### a, b = x, y by a tuple (some name is a cell) -/
section
variable {X : Cx} {a b c e : Expr} {f g h : FE} {pos : Pos} {i j l : Nat} {x y z : Str} {o1 o2 o3 : Bool}
theorem vs_parT {px py pt : Pos} {kt k2 pt2} (hc : X.calm = true) (ha : VX X a o1 f) (hb : VX X b o2 g) (hx : PG X (.Name x px) (gName i)) (hy : PG X (.Name y py) (gName j))
    (hs : swapsWithSole [.Tuple [.Name x px, .Name y py] kt pt] (.Tuple [a, b] k2 pt2) pos.line X.env = pure false := by rfl) (hw : swappedStores [.Tuple [.Name x px, .Name y py] kt pt] (.Tuple [a, b] k2 pt2) X.env = pure none := by rfl)
    (h1 : (assignEach [.Tuple [.Name x px, .Name y py] kt pt] X.env).map (·.2) = [assign (.Tuple [.Name x px, .Name y py] kt pt) X.env] := by rfl)
    (s1 : starEach [a, b] X.env = (false, eval a X.env) :: starEach [b] X.env := by rfl) (s2 : starEach [b] X.env = (false, eval b X.env) :: starEach [] X.env := by rfl)
    (t1 : (assignEach [.Name x px, .Name y py] X.env).map (·.2) = assign (.Name x px) X.env :: (assignEach [.Name y py] X.env).map (·.2) := by rfl) (t2 : (assignEach [.Name y py] X.env).map (·.2) = assign (.Name y py) X.env :: (assignEach [] X.env).map (·.2) := by rfl)
    (hn : (assignEach [.Name x px, .Name y py] X.env).length = 2 := by rfl) (hst : (assignEach [.Name x px, .Name y py] X.env).findIdx? (·.1) = none := by rfl) :
    VS1 X (.Assign [.Tuple [.Name x px, .Name y py] kt pt] (.Tuple [a, b] k2 pt2) pos) (sPar i j o1 o2 f g) := by
  refine weakS (ps_asg (pe_tup (pa_cons ha (pa_cons hb pa_nil s2) s1)) (pg_tup hc (pgs_cons hx (pgs_cons hy pgs_nil t2) t1) hn hst) hs hw h1) fun E σ H q => ?_
  obtain ⟨w, ρ, ot, ok, ef, k⟩ := q
  obtain ⟨⟨d1, ρ1⟩, e1, e2⟩ := Option.bind_eq_some_iff.mp ef
  obtain ⟨⟨d2, ρ2⟩, e3, e4⟩ := Option.map_eq_some_iff.mp e2
  cases e4
  refine ⟨w, ρ, d1, ρ1, ok, e1, fun v as w1 H1 f1 ok1 p1 => ⟨w1, ρ1, d2, ρ2, ok1, e3, fun u bs w2 H2 f2 ok2 p2 => ⟨by show 2 ≤ sizeLine; decide, fun p hp => ?_⟩⟩⟩
  obtain ⟨ft, okt, _⟩ := ok2.new (o := .tup [v, u]) hp
  have f12 := (f1.trans f2).trans ft
  obtain ⟨w3, f3, ok3, h3, n3⟩ := ((p1.fr f2).fr ft).store i okt f12
  obtain ⟨w4, f4, ok4, _, _⟩ := (((p2.fr ft).old f1).own h3 fun a ha => n3 a (p1.apart p2 a ha)).store j ok3 f3
  exact ⟨p, [v, u], rfl, .of upd_same, rfl, v, [u], rfl, u, [], rfl, rfl, k _ w4 _ f4 ok4⟩
theorem vs_parT3 {px py pz pt : Pos} {kt k2 pt2} (hc : X.calm = true) (ha : VX X a o1 f) (hb : VX X b o2 g) (hd : VX X c o3 h) (hx : PG X (.Name x px) (gName i)) (hy : PG X (.Name y py) (gName j)) (hz : PG X (.Name z pz) (gName l))
    (hs : swapsWithSole [.Tuple [.Name x px, .Name y py, .Name z pz] kt pt] (.Tuple [a, b, c] k2 pt2) pos.line X.env = pure false := by rfl) (hw : swappedStores [.Tuple [.Name x px, .Name y py, .Name z pz] kt pt] (.Tuple [a, b, c] k2 pt2) X.env = pure none := by rfl)
    (h1 : (assignEach [.Tuple [.Name x px, .Name y py, .Name z pz] kt pt] X.env).map (·.2) = [assign (.Tuple [.Name x px, .Name y py, .Name z pz] kt pt) X.env] := by rfl)
    (s1 : starEach [a, b, c] X.env = (false, eval a X.env) :: starEach [b, c] X.env := by rfl) (s2 : starEach [b, c] X.env = (false, eval b X.env) :: starEach [c] X.env := by rfl) (s3 : starEach [c] X.env = (false, eval c X.env) :: starEach [] X.env := by rfl)
    (t1 : (assignEach [.Name x px, .Name y py, .Name z pz] X.env).map (·.2) = assign (.Name x px) X.env :: (assignEach [.Name y py, .Name z pz] X.env).map (·.2) := by rfl) (t2 : (assignEach [.Name y py, .Name z pz] X.env).map (·.2) = assign (.Name y py) X.env :: (assignEach [.Name z pz] X.env).map (·.2) := by rfl) (t3 : (assignEach [.Name z pz] X.env).map (·.2) = assign (.Name z pz) X.env :: (assignEach [] X.env).map (·.2) := by rfl)
    (hn : (assignEach [.Name x px, .Name y py, .Name z pz] X.env).length = 3 := by rfl) (hst : (assignEach [.Name x px, .Name y py, .Name z pz] X.env).findIdx? (·.1) = none := by rfl) :
    VS1 X (.Assign [.Tuple [.Name x px, .Name y py, .Name z pz] kt pt] (.Tuple [a, b, c] k2 pt2) pos) (sPar3 i j l o1 o2 o3 f g h) := by
  refine weakS (ps_asg (pe_tup (pa_cons ha (pa_cons hb (pa_cons hd pa_nil s3) s2) s1)) (pg_tup hc (pgs_cons hx (pgs_cons hy (pgs_cons hz pgs_nil t3) t2) t1) hn hst) hs hw h1) fun E σ H q => ?_
  obtain ⟨w, ρ, ot, ok, ef, k⟩ := q
  obtain ⟨⟨d1, ρ1⟩, e1, e2⟩ := Option.bind_eq_some_iff.mp ef
  obtain ⟨⟨d2, ρ2⟩, e3, e4⟩ := Option.bind_eq_some_iff.mp e2
  obtain ⟨⟨d3, ρ3⟩, e5, e6⟩ := Option.map_eq_some_iff.mp e4
  cases e6
  refine ⟨w, ρ, d1, ρ1, ok, e1, fun v as w1 H1 f1 ok1 p1 => ⟨w1, ρ1, d2, ρ2, ok1, e3, fun u bs w2 H2 f2 ok2 p2 => ⟨w2, ρ2, d3, ρ3, ok2, e5, fun t cs w3 H3 f3 ok3 p3 => ⟨by show 3 ≤ sizeLine; decide, fun p hp => ?_⟩⟩⟩⟩
  obtain ⟨ft, okt, _⟩ := ok3.new (o := .tup [v, u, t]) hp
  have f12 := f1.trans f2
  have p1' := p1.fr f2
  obtain ⟨w4, f4, ok4, h4, n4⟩ := ((p1'.fr f3).fr ft).store i okt ((f12.trans f3).trans ft)
  have q2 := ((p2.old f1).fr f3).fr ft
  have q3 := (p3.old f12).fr ft
  obtain ⟨w5, f5, ok5, h5, n5⟩ := (q2.own h4 fun a ha => n4 a (p1.apart p2 a ha)).store j ok4 f4
  obtain ⟨w6, f6, ok6, _, _⟩ := (q3.own (h5.trans h4) fun a ha => (n5 a (p2.apart p3 a ha)).trans (n4 a (p1'.apart p3 a ha))).store l ok5 f5
  exact ⟨p, [v, u, t], rfl, .of upd_same, rfl, v, [u, t], rfl, u, [t], rfl, t, [], rfl, rfl, k _ w6 _ f6 ok6⟩
end
end VS
namespace VS
open PySem PySem.Spec PyProof.Rows L2 AR
section
variable {f g : FE} {ga : FA} {fl fh : FO} {r : FPs}
theorem dzO_nb : ∀ ρ d ρ', fAp dzO ga ρ = some (d, ρ') → d.isBox = false := fun ρ d ρ' h => by
  obtain ⟨⟨ds, ρ1⟩, e1, e2⟩ := Option.bind_eq_some_iff.mp h
  obtain ⟨d2, e3, e4⟩ := Option.map_eq_some_iff.mp e2
  cases e4
  unfold dzO at e3
  split at e3
  case h_2 => cases e3
  obtain ⟨xs, h1, h2⟩ := Option.bind_eq_some_iff.mp e3
  split at h2
  case isFalse => cases h2
  obtain ⟨ks, h3, h4⟩ := Option.map_eq_some_iff.mp h2
  subst h4
  rfl
theorem fD1_nb : ∀ ρ d ρ', fD1 f g ρ = some (d, ρ') → d.isBox = false := fun ρ d ρ' h => by
  obtain ⟨⟨x, ρ1⟩, e1, e2⟩ := Option.bind_eq_some_iff.mp h
  obtain ⟨⟨y, ρ2⟩, e3, e4⟩ := Option.bind_eq_some_iff.mp e2
  obtain ⟨ky, e5, e6⟩ := Option.map_eq_some_iff.mp e4
  cases e6
  rfl
theorem fDs_nb : ∀ ρ d ρ', fDs r ρ = some (d, ρ') → d.isBox = false := fun ρ d ρ' h => by
  obtain ⟨⟨⟨dk, dv⟩, ρ1⟩, e1, e2⟩ := Option.bind_eq_some_iff.mp h
  obtain ⟨ks, e3, e4⟩ := Option.bind_eq_some_iff.mp e2
  split at e4 <;> cases e4
  rfl
theorem fSlL_nb : ∀ ρ d ρ', fSlL f fl fh ρ = some (d, ρ') → d.isBox = false := fun ρ d ρ' h => by
  obtain ⟨⟨x, ρ1⟩, e1, e2⟩ := Option.bind_eq_some_iff.mp h
  obtain ⟨⟨l, ρ2⟩, e3, e4⟩ := Option.bind_eq_some_iff.mp e2
  obtain ⟨⟨u, ρ3⟩, e5, e6⟩ := Option.bind_eq_some_iff.mp e4
  split at e6 <;> cases e6
  rfl
end
end VS
set_option autoImplicit false
namespace VS
open PySem PySem.Spec PyProof.Rows L2 AR
/-! ### a dict locked while it is walked -/
section
variable {K : PySem.W.Frag} {h H H' : Hp} {d : Addr} {od : Obj} {u : HO}
theorem sub_lock (e : h d = some u) (hu : IsDct u) : Sub h (upd h d (.frz od u)) := fun a o q => by
  by_cases z : a = d
  · subst z; rw [e] at q; cases q; exact .inr ⟨hu, od, upd_same⟩
  · exact .inl (by rw [upd_ne z]; exact q)
theorem rd_unl (e : h d = some (.frz od u)) {a : Addr} {o : HO} (nf : ∀ ob x, o ≠ .frz ob x) (r : Rd h a o) : Rd (upd h d u) a o := by
  by_cases z : a = d
  · subst z
    rcases r with r | ⟨ob, r⟩
    · rw [e] at r; cases r; exact absurd rfl (nf _ _)
    · rw [e] at r; cases r; exact .inl upd_same
  · rcases r with r | ⟨ob, r⟩
    · exact .inl (by rw [upd_ne z]; exact r)
    · exact .inr ⟨ob, by rw [upd_ne z]; exact r⟩
theorem sqL_unl (e : h d = some (.frz od u)) {a : Addr} {xs : List V} (r : SqL K h a xs) : SqL K (upd h d u) a xs := by
  rcases r with r | r
  · exact .inl (rd_unl e (fun _ _ z => nomatch z) r)
  · exact .inr r
theorem sqT_unl (e : h d = some (.frz od u)) {a : Addr} {xs : List V} (r : SqT K h a xs) : SqT K (upd h d u) a xs := by
  rcases r with r | r
  · exact .inl (rd_unl e (fun _ _ z => nomatch z) r)
  · exact .inr r
theorem at_unl (e : h d = some (.frz od u)) {a : Addr} {o : HO} (nf : ∀ ob x, o ≠ .frz ob x) (r : h a = some o) : upd h d u a = some o := by
  have ne : a ≠ d := fun z => by subst z; rw [e] at r; cases r; exact nf _ _ rfl
  rw [upd_ne ne]; exact r
theorem nf_tup {xs : List V} : ∀ ob x, HO.tup xs ≠ .frz ob x := fun _ _ z => nomatch z
theorem nf_dK {xs : List (Key × V)} : ∀ ob x, HO.dK xs ≠ .frz ob x := fun _ _ z => nomatch z
theorem nf_dT {xs : List (List Key × V)} : ∀ ob x, HO.dT xs ≠ .frz ob x := fun _ _ z => nomatch z
theorem nf_ins {C dx : Addr} {xs : List (Str × V)} : ∀ ob x, HO.ins C dx xs ≠ .frz ob x := fun _ _ z => nomatch z
mutual
theorem Rep.unl {K : PySem.W.Frag} {h : Hp} {d : Addr} {od : Obj} {u : HO} (e : h d = some (.frz od u)) : ∀ {v : V} {x : D}, Rep K h v x → Rep K (upd h d u) v x
  | _, _, .non => .non
  | _, _, .bl b => .bl b
  | _, _, .int i => .int i
  | _, _, .str g => .str g
  | _, _, .lst q l r => .lst (sqL_unl e q) l (RepAll.unl e r)
  | _, _, .tup q l r => .tup (at_unl e nf_tup q) l (RepAll.unl e r)
  | _, _, .ktp q l r => .ktp (sqT_unl e q) l (RepAll.unl e r)
  | _, _, .dK q k r => .dK (rd_unl e nf_dK q) k (RepAll.unl e r)
  | _, _, .dT q k r => .dT (rd_unl e nf_dT q) k (RepAll.unl e r)
  | _, _, .ins q c n r => .ins (at_unl e nf_ins q) c n (RepAll.unl e r)
theorem RepAll.unl {K : PySem.W.Frag} {h : Hp} {d : Addr} {od : Obj} {u : HO} (e : h d = some (.frz od u)) : ∀ {vs : List V} {ds : List D}, RepAll K h vs ds → RepAll K (upd h d u) vs ds
  | _, _, .nil => .nil
  | _, _, .cons r t => .cons (Rep.unl e r) (RepAll.unl e t)
end
end
section
variable {K : PySem.W.Frag} {w w' : Wd} {ρ ρ' : En} {σ : L2.St} {H H' H0 : Hp} {d : Addr} {od : Obj} {u : HO}
def Wd.lk (w : Wd) (d : Addr) (o : HO) : Wd := ⟨upd w.hs d o, w.own, w.me, w.me2⟩
theorem RepO.lk {i : Nat} {v : V} {x : D} {w : Wd} {H H' : Hp} {d : Addr} {o : HO} (r : RepO K w H i v x) (ho : w.own d = none) (hm : ∀ {vs : List V} {ds : List D}, RepAll K w.hs vs ds → RepAll K (w.lk d o).hs vs ds) (hH : ∀ a, a ≠ d → H' a = H a) : RepO K (w.lk d o) H' i v x := by
  have ne : ∀ {a}, w.own a = some i → a ≠ d := fun {a} q z => by subst z; rw [ho] at q; cases q
  cases r with
  | lst h1 h2 hl h3 => exact .lst h1 (by rw [hH _ (ne h1)]; exact h2) hl (hm h3)
  | dK h1 h2 h3 h4 => exact .dK h1 (by rw [hH _ (ne h1)]; exact h2) h3 (hm h4)
  | dT h1 h2 h3 h4 => exact .dT h1 (by rw [hH _ (ne h1)]; exact h2) h3 (hm h4)
  | ins h0 h1 h2 h3 h4 h5 => exact .ins h0 h1 (by rw [hH _ (ne h1)]; exact h2) h3 h4 (hm h5)
  | flow p h1 h2 h3 h4 h5 h6 => exact .flow p h1 h2 h3 (by rw [hH _ (ne h1)]; exact h4) (by rw [hH _ (ne h2)]; exact h5) h6
  | nums p h1 h2 => exact .nums p h1 (by rw [hH _ (ne h1)]; exact h2)
/-- locked -/
theorem EnvOk.lk (e : EnvOk K w ρ σ H) (hd : w.hs d = some u) (hu : IsDct u) (hH : H' = upd H d (.frz od u)) : EnvOk K (w.lk d (.frz od u)) ρ σ H' := by
  subst hH
  have ho : w.own d = none := by
    cases q : w.own d with
    | none => rfl
    | some i => rw [e.disj d i q] at hd; cases hd
  refine ⟨fun a o q => ?_, fun a i q => ?_, fun a i q => ?_, e.len, fun i x q => ?_, fun i x q => ?_, fun a xs q => ?_⟩
  · by_cases z : a = d
    · subst z; rw [show (w.lk a (.frz od u)).hs a = _ from upd_same] at q; cases q; exact .inl upd_same
    · rw [upd_ne z]; exact e.sub a o (by rw [← q]; exact (upd_ne z).symm)
  · have z : a ≠ d := fun z => by subst z; rw [show w.own a = some i from q] at ho; cases ho
    show upd w.hs d _ a = none
    rw [upd_ne z]; exact e.disj a i q
  · have z : a ≠ d := fun z => by subst z; rw [show w.own a = some i from q] at ho; cases ho
    rw [upd_ne z]; exact e.live a i q
  · obtain ⟨v, h1, h2⟩ := e.sh i x q
    exact ⟨v, h1, h2.mono (sub_lock hd hu)⟩
  · obtain ⟨v, h1, h2⟩ := e.ow i x q
    exact ⟨v, h1, h2.lk ho (fun r => r.mono (sub_lock hd hu)) fun a z => upd_ne z⟩
  · have z : a ≠ d := fun z => by subst z; rw [upd_same] at q; cases q
    rw [upd_ne z] at q
    show upd w.hs d _ a = _
    rw [upd_ne z]; exact e.tups a xs q
/-- unlocked: the heap is H' with u at d, or H' itself -/
theorem EnvOk.unl (e : EnvOk K w ρ σ H) (hd : w.hs d = some (.frz od u)) (hu : IsDct u) (hH : H' = upd H d u ∨ H' = H) : EnvOk K (w.lk d u) ρ σ H' := by
  have ho : w.own d = none := by
    cases q : w.own d with
    | none => rfl
    | some i => rw [e.disj d i q] at hd; cases hd
  have hHd : H d = some (.frz od u) := by
    rcases e.sub d _ hd with q | ⟨n, _⟩
    · exact q
    · exact n.elim
  have hne : ∀ a, a ≠ d → H' a = H a := fun a z => by rcases hH with q | q <;> rw [q]; exact upd_ne z
  have hat : H' d = some u ∨ H' d = some (.frz od u) := by rcases hH with q | q <;> rw [q]; exact .inl upd_same; exact .inr hHd
  refine ⟨fun a o q => ?_, fun a i q => ?_, fun a i q => ?_, e.len, fun i x q => ?_, fun i x q => ?_, fun a xs q => ?_⟩
  · by_cases z : a = d
    · subst z; rw [show (w.lk a u).hs a = _ from upd_same] at q; cases q
      rcases hat with q | q
      · exact .inl q
      · exact .inr ⟨hu, od, q⟩
    · rw [hne a z]; exact e.sub a o (by rw [← q]; exact (upd_ne z).symm)
  · have z : a ≠ d := fun z => by subst z; rw [show w.own a = some i from q] at ho; cases ho
    show upd w.hs d _ a = none
    rw [upd_ne z]; exact e.disj a i q
  · have z : a ≠ d := fun z => by subst z; rw [show w.own a = some i from q] at ho; cases ho
    rw [hne a z]; exact e.live a i q
  · obtain ⟨v, h1, h2⟩ := e.sh i x q
    exact ⟨v, h1, h2.unl hd⟩
  · obtain ⟨v, h1, h2⟩ := e.ow i x q
    exact ⟨v, h1, h2.lk ho (fun r => r.unl hd) hne⟩
  · have z : a ≠ d := fun z => by
      subst z
      rcases hat with t | t <;> rw [q] at t <;> cases t
      exact hu.elim
    rw [hne a z] at q
    show upd w.hs d _ a = _
    rw [upd_ne z]; exact e.tups a xs q
theorem Fr.unl (f : Fr (w.lk d (.frz od u)) H w' H') (hd : w.hs d = some u) (hHd : H d = some (.frz od u)) {HB HB' : Hp} (hb : ∀ a, a ≠ d → H a = HB a) (hb' : ∀ a, a ≠ d → HB' a = H' a) (hk : HB' d = HB d) : Fr w HB (w'.lk d u) HB' :=
  ⟨fun a o q => by
    by_cases z : a = d
    · subst z; rw [hd] at q; cases q; exact upd_same
    · show upd w'.hs d u a = _
      rw [upd_ne z]; exact f.sh a o (by rw [← q]; exact upd_ne z), fun a o q n => by
    by_cases z : a = d
    · subst z
      refine ⟨by rw [hk]; exact q, ?_, fun t => by rw [hd] at t; cases t⟩
      exact (f.kp a _ hHd n).2.1
    · obtain ⟨k1, k2, k3⟩ := f.kp a o (by rw [hb a z]; exact q) n
      refine ⟨by rw [hb' a z]; exact k1, k2, fun t => ?_⟩
      show upd w'.hs d u a = none
      rw [upd_ne z]
      exact k3 (by rw [← t]; exact upd_ne z), fun a o q => by
    by_cases z : a = d
    · subst z; exact ⟨o, by rw [hk]; exact q⟩
    · rw [hb' a z]; exact f.lv a o (by rw [hb a z]; exact q), f.me⟩
theorem Fresh.unl {v : V} {x : D} (f : Fresh K w H0 H v x) (hd : w.hs d = some (.frz od u)) {HB HB' : Hp} (hb : ∀ a, H0 a = none → HB a = none) (hb' : ∀ a, a ≠ d → HB' a = H a) : Fresh K (w.lk d u) HB HB' v x := by
  have ne : ∀ {a}, w.hs a = none → a ≠ d := fun {a} q z => by subst z; rw [hd] at q; cases q
  have hn : ∀ {a}, w.hs a = none → (w.lk d u).hs a = none := fun {a} q => by show upd w.hs d u a = none; rw [upd_ne (ne q)]; exact q
  cases f with
  | lst h1 h2 h3 h4 h5 h6 => exact .lst (hb _ h1) h2 (hn h3) (by rw [hb' _ (ne h3)]; exact h4) h5 (h6.unl hd)
  | dK h1 h2 h3 h4 h5 h6 => exact .dK (hb _ h1) h2 (hn h3) (by rw [hb' _ (ne h3)]; exact h4) h5 (h6.unl hd)
  | dT h1 h2 h3 h4 h5 h6 => exact .dT (hb _ h1) h2 (hn h3) (by rw [hb' _ (ne h3)]; exact h4) h5 (h6.unl hd)
  | flow h1 h2 h3 h4 h5 h6 h7 h8 h9 h10 => exact .flow (hb _ h1) (hb _ h2) h3 h4 (hn h5) (hn h6) h7 (by rw [hb' _ (ne h5)]; exact h8) (by rw [hb' _ (ne h6)]; exact h9) h10
  | nums h1 h2 h3 h4 => exact .nums (hb _ h1) h2 (hn h3) (by rw [hb' _ (ne h3)]; exact h4)
end
/-! ### list comprehensions over a dict's keys -/
def ItyL (K : PySem.W.Frag) (J : It) (w : Wd) (ds : List D) : Prop := ∃ (G : Hp → Prop) (Y : Nat → Hp → V → Hp → Prop), Walk J ds.length G Y ∧ (∀ H, Sub w.hs H → G H) ∧
  ∀ i H x H' d, Y i H x H' → ds[i]? = some d → H' = H ∧ (Rep K w.hs x d ∨ ∃ T xs ds', x = .ref T ∧ H T = some (.tup xs) ∧ xs.length ≤ sizeLine ∧ RepAll K w.hs xs ds' ∧ d = .tup ds')
theorem ItyL.yield {K : PySem.W.Frag} {w0 w : Wd} {ρ : En} {σ : L2.St} {ds : List D} {i : Nat} {H H' : Hp} {x : V} {d : D} (ok : EnvOk K w ρ σ H) (sm : Same w0.hs w.hs)
    (h : H' = H ∧ (Rep K w0.hs x d ∨ ∃ T xs ds', x = .ref T ∧ H T = some (.tup xs) ∧ xs.length ≤ sizeLine ∧ RepAll K w0.hs xs ds' ∧ d = .tup ds')) : ∃ w', Fr w H w' H' ∧ EnvOk K w' ρ σ H' ∧ Rep K w'.hs x d := by
  obtain ⟨rfl, h⟩ := h
  rcases h with r | ⟨T, xs, ds', rfl, hT, hl, r, rfl⟩
  · exact ⟨w, .refl _ _, ok, r.mono (.of sm)⟩
  · exact ⟨w, .refl _ _, ok, .tup (ok.tups _ _ hT) hl (r.mono (.of sm))⟩
def tItL (K : PySem.W.Frag) (L : Wd → L2.St → Prop) (f : FI) : TI := fun σ H R => ∃ w ρ ds ρ', EnvOk K w ρ σ H ∧ L w σ ∧ f ρ = some (ds, ρ') ∧ ∀ J w' H', Fr w H w' H' → EnvOk K w' ρ' σ H' → ItyL K J w' ds → R J H'
def tNL (K : PySem.W.Frag) (L : Wd → L2.St → Prop) (f : FE) : TE := fun σ H Q => ∃ w ρ d ρ', EnvOk K w ρ σ H ∧ L w σ ∧ f ρ = some (d, ρ') ∧ ∀ v w' H', Fr w H w' H' → EnvOk K w' ρ' σ H' → Fresh K w' H H' v d → Q v H'
section
variable {K : PySem.W.Frag} {us : List Nat} {fi : FI} {fg : FG} {fc : FT} {fe : FE}
theorem lc_readL {L : Wd → L2.St → Prop} {σ : L2.St} {H : Hp} {Q : VK} (q : tNL K L (fLC us fi fg fc fe) σ H Q) : tLc (tItL K L fi) (tGt K us fg) (tTb K fc) (tV K fe) us σ H Q := by
  obtain ⟨w, ρ, d, ρ', ok, hL, ef, k⟩ := q
  obtain ⟨⟨ds, ρ1⟩, e1, e2⟩ := Option.bind_eq_some_iff.mp ef
  obtain ⟨⟨ts, ρ2⟩, e3, e4⟩ := Option.bind_eq_some_iff.mp e2
  obtain ⟨d', e5, e6⟩ := Option.map_eq_some_iff.mp e4
  cases e6
  unfold mkL at e5
  split at e5
  case isFalse => cases e5
  rename_i hl
  have ed : D.lst ts = d := Option.some.inj e5
  subst ed
  refine ⟨w, ρ, ds, ρ1, ok, hL, e1, fun J w1 H1 f1 ok1 it => ?_⟩
  obtain ⟨G, Y, wk, hG, hY⟩ := it
  intro A hA
  obtain ⟨hA1, hA2⟩ := ok1.free hA
  refine lc_it wk (Qd := fun H' => Q (.ref A) H') (fun i H' => ∃ w' ρ' acc dacc rest, Fr w1 H1 w' H' ∧ EnvOk K w' (wipeE ρ' us) (wipe σ us) H' ∧ H' A = some (.lst acc) ∧ RepAll K w'.hs acc dacc ∧ w'.own A = none ∧ w'.hs A = none ∧ lcL us fg fc fe (ds.drop i) ρ' = some (rest, ρ2) ∧ ts = dacc ++ rest) ?_ (fun i H' _ h => ?_) (fun i x H' H'' hi h y => ?_) fun H' h => ?_
  · obtain ⟨f2, ok2⟩ := ok1.tmp (o := .lst []) hA (fun _ z => nomatch z)
    exact ⟨w1, ρ1, [], [], ts, f2, (ok2.wipe (us := us) (σ := σ) rfl).wipe wipe_wipe.symm |> (fun z => by rw [wipeE_wipeE] at z; exact z), upd_same, .nil, hA2, hA1, e3, rfl⟩
  · obtain ⟨w', ρ', acc, dacc, rest, f', ok', _⟩ := h
    exact hG _ fun a o q => ok'.sub a o (f'.sh a o q)
  · obtain ⟨w', ρ', acc, dacc, rest, f', ok', hD, hr, ho, hh, el, et⟩ := h
    have hd : ds[i]? = some ds[i] := List.getElem?_eq_getElem hi
    obtain ⟨w2, f2, ok2, r2⟩ := ItyL.yield (ds := ds) (i := i) ok' f'.sh (hY i H' x H'' _ y hd)
    rw [List.drop_eq_getElem_cons hi] at el
    obtain ⟨ρ3, e7, e8⟩ := Option.bind_eq_some_iff.mp el
    obtain ⟨⟨b, ρ4⟩, e9, e10⟩ := Option.bind_eq_some_iff.mp e8
    refine ⟨w2, wipeE ρ' us, ds[i], ρ3, ok2, r2, e7, fun σ3 hw ok3 => ⟨hw.trans wipe_wipe, w2, ρ3, b, ρ4, ok3, e9, fun w4 H4 f4 ok4 => ?_⟩⟩
    rw [wipe_wipe] at hw
    have f24 := f2.trans f4
    obtain ⟨hD4, ho4, hh4⟩ := f24.kp A _ hD ho
    have hr4 := hr.mono (.of f24.sh)
    cases b with
    | false =>
      refine i_if0 ?_
      have e10' : lcL us fg fc fe (ds.drop (i + 1)) ρ4 = some (rest, ρ2) := e10
      exact ⟨w4, ρ4, acc, dacc, rest, f'.trans f24, ok4.wipe (by rw [hw, wipe_wipe]), hD4, hr4, ho4, hh4 hh, e10', et⟩
    | true =>
      refine i_it ?_
      obtain ⟨⟨z, ρ5⟩, e11, e12⟩ := Option.bind_eq_some_iff.mp (show (fe ρ4).bind _ = some (rest, ρ2) from e10)
      obtain ⟨⟨rs, ρ6⟩, e13, e14⟩ := Option.map_eq_some_iff.mp e12
      cases e14
      refine ⟨w4, ρ4, z, ρ5, ok4, e11, fun v w5 H5 f5 ok5 r5 => ?_⟩
      obtain ⟨hD5, ho5, hh5⟩ := f5.kp A _ hD4 ho4
      have hr5 := hr4.mono (.of f5.sh)
      have hlen : acc.length < sizeLine := by
        have e1' := hr5.length
        rw [et, List.length_append, List.length_cons] at hl
        omega
      refine ⟨acc, hD5, hlen, w5, ρ5, acc ++ [v], dacc ++ [z], rs, ((f'.trans f24).trans f5).chg hA, (ok5.wipe (us := us) (σ := wipe σ us) (by rw [hw, wipe_wipe])).chg hD5 ho5 (hh5 (hh4 hh)) (fun _ z => nomatch z), upd_same, hr5.append (.one r5), ho5, hh5 (hh4 hh), e13, by rw [et]; simp⟩
  · obtain ⟨w', ρ', acc, dacc, rest, f', ok', hD, hr, ho, hh, el, et⟩ := h
    rw [List.drop_length] at el
    cases el
    rw [List.append_nil] at et
    subst et
    exact k _ w' H' (f1.trans f') (ok'.wipe wipe_wipe |> fun z => by rw [wipeE_wipeE] at z; exact z) (.lst (f1.free hA) ho hh hD (by rw [hr.length]; exact hl) hr)

end
def gKb : D → Bool
  | .int _ => true
  | .str x => decide (x.length ≤ sizeLine) && PyData.strOk x
  | _ => false
def gTb : D → Bool
  | .tup ds => decide (ds.length ≤ sizeLine) && ds.all gKb
  | _ => false
/-- the keys of the dict in slot i -/
def iK (i : Nat) : FI := fun ρ => match ρ[i]? with
  | some (.s (.dct 0 ks _)) => if ks.all gKb then some (ks, ρ) else none
  | some (.s (.dct 1 ks _)) => if ks.all gTb then some (ks, ρ) else none
  | _ => none
def LK (i : Nat) (w : Wd) (σ : L2.St) : Prop := ∃ d od u, σ[i]? = some (some (.ref d)) ∧ w.hs d = some (.frz od u)
theorem kV_rep {K : PySem.W.Frag} {H : Hp} {k : Key} (h : gKb (keyD k) = true) : Rep K H (kV k) (keyD k) := by
  cases k with
  | inl i => exact .int i
  | inr x => exact .str (SG.of h)
theorem kVs_rep {K : PySem.W.Frag} {H : Hp} : ∀ {ks : List Key}, (ks.map keyD).all gKb = true → RepAll K H (ks.map kV) (ks.map keyD)
  | [], _ => .nil
  | k :: ks, h => by
    rw [List.map_cons, List.all_cons, Bool.and_eq_true] at h
    exact .cons (kV_rep h.1) (kVs_rep h.2)
section
variable {X : Cx} {tg : Expr} {pos : Pos} {x : Str} {i : Nat}
theorem vi_keys (h : PE X (.Name x pos) (tVar i)) : PI X tg (.Name x pos) (tItL X.K (LK i) (iK i)) := by
  have h0 : PI X tg (.Name x pos) (iKeys (tVar i)) := pi_keys h
  refine orI (ι := Unit) (fun _ => h0) fun σ H R q => ⟨(), ?_⟩
  obtain ⟨w, ρ, ds, ρ', ok, ⟨d, od, u, hσ, hd⟩, ef, k⟩ := q
  have hHd : H d = some (.frz od u) := by
    rcases ok.sub d _ hd with q | ⟨n, _⟩
    · exact q
    · exact n.elim
  unfold iK at ef
  split at ef
  · rename_i ks vs e
    split at ef
    case isFalse => cases ef
    rename_i hg
    cases ef
    obtain ⟨v, h1, h2⟩ := ok.sh i _ e
    rw [hσ] at h1; cases h1
    refine ⟨_, hσ, d, od, rfl, ?_⟩
    cases h2 with
    | @dK _ kvs _ _ q1 q2 q3 =>
      have eu : u = .dK kvs := by
        rcases q1 with q1 | ⟨ob, q1⟩
        · rw [hd] at q1; cases q1
        · rw [hd] at q1; cases q1; rfl
      subst eu
      refine .inl ⟨kvs, hHd, k _ w H (.refl _ _) ok ?_⟩
      refine ⟨_, fun i H x H' => H' = H ∧ ∃ k v, kvs[i]? = some (k, v) ∧ x = kV k, by rw [q2, List.length_map]; exact walk_keys, fun H' s => ?_, fun j H1 y H2 dd yy hdd => ⟨yy.1, .inl ?_⟩⟩
      · rcases s d _ hd with q | ⟨n, _⟩
        · exact q
        · exact n.elim
      · obtain ⟨_, kk, vv, e1, rfl⟩ := yy
        rw [q2, List.getElem?_map, e1] at hdd
        cases hdd
        refine kV_rep ?_
        rw [q2, List.all_map] at hg
        exact List.all_eq_true.mp hg _ (List.mem_of_getElem? e1)
  · rename_i ks vs e
    split at ef
    case isFalse => cases ef
    rename_i hg
    cases ef
    obtain ⟨v, h1, h2⟩ := ok.sh i _ e
    rw [hσ] at h1; cases h1
    refine ⟨_, hσ, d, od, rfl, ?_⟩
    cases h2 with
    | @dT _ kvs _ _ q1 q2 q3 =>
      have eu : u = .dT kvs := by
        rcases q1 with q1 | ⟨ob, q1⟩
        · rw [hd] at q1; cases q1
        · rw [hd] at q1; cases q1; rfl
      subst eu
      refine .inr ⟨kvs, hHd, k _ w H (.refl _ _) ok ?_⟩
      refine ⟨_, fun i H x H' => H' = H ∧ ∃ (k : List Key) (v : V) (q : Addr), kvs[i]? = some (k, v) ∧ x = .ref q ∧ H q = some (.tup (k.map kV)), by rw [q2, List.length_map]; exact walk_keysT, fun H' s => ?_, fun j H1 y H2 dd yy hdd => ⟨yy.1, .inr ?_⟩⟩
      · rcases s d _ hd with q | ⟨n, _⟩
        · exact q
        · exact n.elim
      · obtain ⟨_, kk, vv, q, e1, rfl, e2⟩ := yy
        rw [q2, List.getElem?_map, e1] at hdd
        cases hdd
        rw [q2, List.all_map] at hg
        have g := List.all_eq_true.mp hg _ (List.mem_of_getElem? e1)
        have g' : (decide ((kk.map keyD).length ≤ sizeLine) && (kk.map keyD).all gKb) = true := g
        rw [Bool.and_eq_true] at g'
        exact ⟨q, _, _, rfl, e2, by have := of_decide_eq_true g'.1; simpa using this, kVs_rep g'.2, rfl⟩
  · cases ef
/-- the comprehension over the keys of a dict that a slot shares -/
theorem vn_lcK {elt : Expr} {ifs : List Expr} {scope : Scope} {own : List (Str × Nat)} {fg : FG} {fc : FT} {fe : FE} {us : List Nat} {p : Pos} (hc : X.calm = true) (hN : X.N.Nodup) (hu : own.map (·.2) = us) (h : PE X (.Name x p) (tVar i)) (ok : BlkOk X.N X.env.scope scope own)
    (hg : ∀ (s : Shared) (H : Hp) (C : Addr) (cl : List (Str × Addr)) (fp : List Addr), VG (X.blk s H scope (compEnvC scope cl C X.env) fp) tg us fg) (ht : ∀ (s : Shared) (H : Hp) (C : Addr) (cl : List (Str × Addr)) (fp : List Addr), VTs (X.blk s H scope (compEnvC scope cl C X.env) fp) ifs fc)
    (he : ∀ (s : Shared) (H : Hp) (C : Addr) (cl : List (Str × Addr)) (fp : List Addr), VE (X.blk s H scope (compEnvC scope cl C X.env) fp) elt fe) (hs : ∀ y, foldedSetIterable (.Name x p) X.env y = pure y := by intro _; rfl) :
    VN X (.ListComp elt [⟨tg, .Name x p, ifs, 0⟩] scope pos) (fLC us (iK i) fg fc fe) := by
  subst hu
  have core := pe_lc (pos := pos) (g := tGt X.K (own.map (·.2)) fg) (tt := tTb X.K fc) (te := tV X.K fe) hc hN (vi_keys (tg := tg) h) ok hg ht he hs
  refine orE (ι := Bool) (t := fun b => match b with | true => tLockE _ | false => _) (fun b => match b with | true => pe_lock core | false => core) fun σ H Q q => ?_
  obtain ⟨w, ρ, d, ρ', ok, ef, k⟩ := q
  have hi : ∃ t ks vs, ρ[i]? = some (.s (.dct t ks vs)) := by
    obtain ⟨⟨ds, ρ1⟩, e1, e2⟩ := Option.bind_eq_some_iff.mp ef
    unfold iK at e1
    split at e1
    · rename_i e; exact ⟨_, _, _, e⟩
    · rename_i e; exact ⟨_, _, _, e⟩
    · cases e1
  obtain ⟨t, ks, vs, e⟩ := hi
  obtain ⟨v, hv, r⟩ := ok.sh i _ e
  have hr : ∃ a u, v = .ref a ∧ IsDct u ∧ Rd w.hs a u := by
    cases r with
    | @dK _ kvs _ _ q1 q2 q3 => exact ⟨_, .dK kvs, rfl, trivial, q1⟩
    | @dT _ kvs _ _ q1 q2 q3 => exact ⟨_, .dT kvs, rfl, trivial, q1⟩
  obtain ⟨a, u, rfl, hu, hd⟩ := hr
  have mu : Mut (some u) := by cases u <;> first | trivial | exact hu.elim
  rcases hd with hd | ⟨od, hd⟩
  · have ho : w.own a = none := by
      cases q : w.own a with
      | none => rfl
      | some j => rw [ok.disj a j q] at hd; cases hd
    rcases ok.sub a u hd with hH | ⟨_, od, hH⟩
    · refine ⟨true, a, u, hH, mu, fun od => ?_⟩
      refine lc_readL (L := LK i) ⟨w.lk a (.frz od u), ρ, d, ρ', ok.lk hd hu rfl, ⟨a, od, u, hv, upd_same⟩, ef, fun v' w' H' f' ok' fr' => ?_⟩
      have hd' : w'.hs a = some (.frz od u) := f'.sh a _ upd_same
      refine ⟨(f'.kp a _ upd_same ho).1, ?_⟩
      refine k v' (w'.lk a u) (upd H' a u) (f'.unl hd upd_same (fun b z => upd_ne z) (fun b z => upd_ne z) (by rw [upd_same, hH])) (ok'.unl hd' hu (.inl rfl)) (fr'.unl hd' (fun b z => ?_) fun b z => upd_ne z)
      by_cases zz : b = a
      · subst zz; rw [upd_same] at z; cases z
      · rw [upd_ne zz] at z; exact z
    · refine ⟨false, ?_⟩
      have eH : H = upd H a (.frz od u) := funext fun b => by
        by_cases z : b = a
        · subst z; rw [upd_same, hH]
        · rw [upd_ne z]
      refine lc_readL (L := LK i) ⟨w.lk a (.frz od u), ρ, d, ρ', ok.lk hd hu eH, ⟨a, od, u, hv, upd_same⟩, ef, fun v' w' H' f' ok' fr' => ?_⟩
      have hd' : w'.hs a = some (.frz od u) := f'.sh a _ upd_same
      exact k v' (w'.lk a u) H' (f'.unl hd hH (fun b z => rfl) (fun b z => rfl) (by rw [(f'.kp a _ hH ho).1, hH])) (ok'.unl hd' hu (.inr rfl)) (fr'.unl hd' (fun b z => z) fun b z => rfl)
  · refine ⟨false, ?_⟩
    exact lc_readL (L := LK i) ⟨w, ρ, d, ρ', ok, ⟨a, od, u, hv, hd⟩, ef, k⟩
end
end VS
/-! promises kept where nothing is being shown (A.guards is empty): wanted for repr of lists and tuples -/
namespace AR
open PySem PySem.Spec PyProof.Rows L2
structure FnG (pr : Program) (wo : World) (K : PySem.W.Frag) (mg : Str → Option Value) (base : Heap) (k : Nat) (f : Addr) (fd : FuncData) (ps : List Str) (sp : Sp) : Prop where
  len : ∀ vs H Q E, sp vs H Q E → vs.length = ps.length
  run : ∀ (A : Around) (up : List Env) (st : Shared) (H : Hp) (args : Args) (us : List Value) (vs : List V) (Q : VK) (E : XK), Room k A → A.guards = some [] → Env0 pr wo K mg base A up st H → BindsTo st fd args (ps.zip us) → Vals vs us → sp vs H Q E →
    codeAny (model pr wo) A (.call (.ref f) args) (CR L2.CX0 up pr wo H st Q E) st
section
variable {pr : Program} {wo : World} {K : PySem.W.Frag} {mg : Str → Option Value} {base : Heap}
theorem okG {x qual : Str} {params : Arguments} {body : List Stmt} {sc : Scope} {f : Addr} {fd : FuncData} {N ps : List Str} {k : Nat} {sp : Sp} {dvs : List V} {kws : List (Str × V)} (F : FunD K x qual params body sc dvs kws f fd) (S : FnScope N ps sc) (len : ∀ vs H Q E, sp vs H Q E → vs.length = ps.length)
    (hbody : ∀ (cdv : Value) (A : Around) (up : List Env) (st : Shared) (H : Hp) (vs : List V) (Q : VK) (E : XK), Room k (A.deeper (envOfC qual sc st.heap.objs.size f cdv)) → A.guards = some [] → sp vs H Q E →
      ∃ t, PSs (cxOf L2.CX0 pr wo K mg base N qual sc f cdv A up st H E).nox body t ∧ t { nx := fun _ H' => Q .non H', rt := Q } (start N vs) H) : FnG pr wo K mg base (k + 1) f fd ps sp := by
  obtain ⟨oc, od, dV, kV, doc, pm, an, cdv, ct, osl, rfl, lk, hcd, _, _⟩ := F.ex
  refine ⟨len, fun A up st H args us vs Q E room gu e0 bind rel want => ?_⟩
  have kin : K.In st.heap := e0.mod.kin.keeps fun b o e => (e0.bs b o e).1
  have nolim : st.heap.NoLimit := e0.mod.nolimit.keeps fun b o e => (e0.bs b o e).1
  have kinds : ∀ y ∈ ps.zip us, sc.names.lookup y.1 = some .local ∨ (sc.names.lookup y.1 = some .cell ∧ ((cellsFrom (st.heap.objs.size + 1) sc.names []).lookup y.1).isSome = true) := fun ⟨n, v⟩ hy =>
    (S.par n (List.of_mem_zip hy).1).elim .inl fun q => .inr ⟨q, PySem.W.cellsFrom_some _ _ _ (.inl q)⟩
  refine codeAny_call_function room.depth (kin _ _ lk) rfl S.co S.gen rfl (PySem.W.codeRec_of kin hcd) (bind _ _ _ _ ?_)
  refine wpAny_newFunctionEnv_cells S.kind kinds fun env he t1 x => ?_
  subst he
  refine ⟨nolim.keeps x.toInCall.keep, codeAny_func ?_⟩
  obtain ⟨t, ht, hq⟩ := hbody cdv A up st H vs Q E (room.deeper _) gu want
  have I : Inv (cxOf L2.CX0 pr wo K mg base N qual sc f cdv A up st H E) [] (start N vs) H t1 := inv_start S room.hd e0 (len _ _ _ _ want) rel x
  refine wpAny_mono (ht.nox.run [] t1 (start N vs) H _ I hq) (fun fl z hz => ?_) fun e z hz => hz
  have done : ∀ {σ' : L2.St} {H' : Hp} {v : V} {u : Value}, Inv (cxOf L2.CX0 pr wo K mg base N qual sc f cdv A up st H E) [] σ' H' z → RelV v u → Q v H' → CE up pr wo H st Q u z := fun {σ' H' v u} J rv q => ⟨v, H', J.os, J.bare, J.base, J.hok, rv, q⟩
  cases fl with
  | next => obtain ⟨σ', H', J, q⟩ := hz; exact done (v := V.non) (u := Value.none) J rfl q
  | ret u => obtain ⟨v, σ', H', J, rv, q⟩ := hz; exact done J rv q
  | brk => obtain ⟨_, _, _, q⟩ := hz; exact q.elim
  | cont => obtain ⟨_, _, _, q⟩ := hz; exact q.elim
/-- a promise kept everywhere is kept there -/
theorem FnG.of {k : Nat} {f : Addr} {fd : FuncData} {ps : List Str} {sp : Sp} (F : FnOk pr wo K mg base L2.CX0 k f fd ps sp) : FnG pr wo K mg base k f fd ps sp := ⟨F.len, fun A up st H args us vs Q E r _ => F.run A up st H args us vs Q E r⟩
end
/-- a def of the module that keeps such a promise -/
structure CalG (pr : Program) (wo : World) (K : PySem.W.Frag) (mg : Str → Option Value) (base : Heap) (k : Nat) (x : Str) (sp : Sp) : Prop where
  ex : ∃ (f : Addr) (fd : FuncData) (ps : List Str), FnG pr wo K mg base k f fd ps sp ∧ mg x = some (.ref f) ∧ PySem.W.keepIn K (.ref f) = true ∧ Binds K fd ps []
section
variable {X : Cx}
theorem pass0 : Passes L2.CX0 X C8.E0 := C8.pass0
theorem pe_cG {k j : Nat} {x : Str} {sp : Sp} {e : Expr} {es : List Expr} {t : TA} {p pos : Pos} (c : CalG X.prog X.w X.K X.mg X.base k x sp) (hr : Room j X.A) (hgu : X.A.guards = some []) (hk : k ≤ j) (hg : Gl X x) (ha : PA X (e :: es) t)
    (hdb : (x == ("__debug__" : Str)) = false := by decide) (he : starEach (e :: es) X.env = (false, eval e X.env) :: starEach es X.env := by rfl) (hpl : (backTo pos (starEach es X.env)).any (·.1) = false := by rfl) :
    PE X (.Call (.Name x p) (e :: es) [] pos) (tCall sp [] C8.E0 t) := by
  obtain ⟨f, fd, ps, F, hm, kp, b⟩ := c.ex
  refine ⟨fun pins st σ H Q I h => ?_⟩
  refine wpAny_Call_Name_kw (ld_glob I hg hm ?_ hdb)
  refine PySem.W.callWith_K (h₀ := X.base) I.ok.mod.kin kp (thn (ha.run pos pins st σ H _ I h) fun us t1 ⟨vs, H1, I1, r, q⟩ => ⟨I1.kIn, ?_⟩) he hpl
  replace q : sp vs H1 Q C8.E0 := by simpa using q
  have hl : (us ++ []).length = ps.length := by rw [List.append_nil, ← r.length]; exact F.len _ _ _ _ q
  have bd := b t1 us I1.kIn hl
  rw [List.append_nil] at bd
  refine wpAny_call (codeAny_mono (F.run X.A X.stack t1 H1 ⟨us, []⟩ us vs Q C8.E0 (hr.mono hk) hgu I1.env0 bd r q) fun r z hq => ?_)
  cases r with
  | error e => exact pass0 pins σ H1 t1 e z I1 hq
  | ok fl => cases fl with
    | ret u => exact I1.after hq
    | next => exact hq.elim
    | brk => exact hq.elim
    | cont => exact hq.elim
end
/-! ### the end of a law whose promise is kept where nothing is being shown -/
section
variable {pr : Program} {wo : World} {K : PySem.W.Frag} {mg mb : Str → Option Value} {k : Nat} {fa a : Addr} {fd : FuncData} {x : Str} {sp : Sp} {t0 : Shared} {vs : List Value} {ns : List Int}
theorem lawG (KX : K.In t0.heap) (hns : t0.heap.Ns mainGlobals mg) (hb : t0.heap.Ns builtinsNs mb) (hbb : ∀ x : Str, x ≠ "__name__" → mb x = bootBuiltins x) (hlim : t0.heap.NoLimit) (hg : t0.gens = #[])
    (ha : t0.heap.get? a = some { cls := .type "list", data := .seq vs.toArray }) (hi : IntsAre vs ns) (hl : ns.length ≤ sizeLine) (hr : Room k callerA)
    (F : ∀ base : Heap, K.In base → base.Ns mainGlobals mg → FnG pr wo K mg base k fa fd [x] sp) (hbind : ∀ (s : Shared) (u : Value), BindsTo s fd ⟨[u], []⟩ [(x, u)])
    (hsp : ∀ H : Hp, Only H → SqL K H a (ns.map V.int) → sp [.ref a] H (fun v _ => v = .bl true) fun _ _ _ => False) :
    codeAny (model pr wo) callerA (.call (.ref fa) ⟨[.ref a], []⟩) (fun r z => r = .ok (.ret (.bool true)) ∧ OldK t0.heap z.heap ∧ z.os = t0.os ∧ AllBare z.gens) t0 := by
  have rel := vals_ints hi
  have from_ : ∀ H : Hp, Only H → SqL K H a (ns.map V.int) → HOk pr wo H t0.heap → (∀ b u, H b = some u → b = a) → (∀ u, H a = some u → K.lookup a = none) →
      codeAny (model pr wo) callerA (.call (.ref fa) ⟨[.ref a], []⟩) (fun r z => r = .ok (.ret (.bool true)) ∧ OldK t0.heap z.heap ∧ z.os = t0.os ∧ AllBare z.gens) t0 := by
    intro H only sq hok one notK
    have ns' : ∀ {b : Addr} {m : Str → Option Value}, t0.heap.Ns b m → (hidT t0.heap H).Ns b m := fun {b m} ⟨o, es, ep, e, d, r⟩ => by
      refine ⟨o, es, ep, hidT_get e ?_, d, r⟩
      cases q : H b with
      | none => rfl
      | some u =>
        have e2 := one b u q
        subst e2
        rw [ha] at e
        cases e
        cases d
    have kin : K.In (hidT t0.heap H) := fun b o e => hidT_get (KX b o e) (by
      cases q : H b with
      | none => rfl
      | some u =>
        have e2 := one b u q
        subst e2
        rw [notK u q] at e
        cases e)
    obtain ⟨mc, lim1, lim2⟩ := hlim
    have e0 : Env0 pr wo K mg (hidT t0.heap H) callerA [] t0 H := ⟨rfl, ⟨kin, ns' hns, ⟨mb, ns' hb, hbb⟩, ⟨mc, ns' lim1, lim2⟩⟩, fun b o e => of_hidT e, Nat.le_of_eq (hidT_size _ _), trivial, fun b hb => (by cases hb), hok, .of_eq hg⟩
    refine codeAny_mono ((F _ kin (ns' hns)).run callerA [] t0 H ⟨[.ref a], []⟩ [.ref a] [.ref a] _ _ hr rfl e0 (hbind t0 (.ref a)) (.cons rfl .nil) (hsp H only sq)) fun r z h => ?_
    match r, h with
    | .error e, h => exact (show False from h).elim
    | .ok (.ret u), ⟨v, H', os, bare, un, hok', r', q⟩ =>
      replace q : v = .bl true := q
      subst q
      obtain rfl : u = Value.bool true := r'
      refine ⟨rfl, OldK.of_keep fun b o e => ?_, os, bare⟩
      cases q : H b with
      | none => exact un.keep b o e q (fun zz => by cases zz) (by simp)
      | some u =>
        rcases only b with zz | ⟨ob, xs, zz⟩
        · rw [q] at zz; cases zz
        · obtain ⟨g1, _⟩ := hok b _ zz
          obtain ⟨g2, _⟩ := hok' b _ (un.frzs b ob _ zz)
          rw [e] at g1
          cases g1
          exact g2
  cases hk : K.lookup a with
  | some o =>
    have e := KX a o hk
    rw [ha] at e
    cases e
    exact from_ (fun _ => none) (fun _ => .inl rfl) (.inr ⟨_, vs.toArray, _, hk, rfl, rfl, rfl, by rw [List.size_toArray, hi.length]; exact hl, by simpa using rel⟩) (fun b u zz => nomatch zz) (fun b u zz => nomatch zz) fun u zz => nomatch zz
  | none =>
    have here : ∀ b u, (if b = a then some (HO.frz { cls := .type "list", data := .seq vs.toArray } (.lst (ns.map V.int))) else none) = some u → b = a ∧ u = .frz { cls := .type "list", data := .seq vs.toArray } (.lst (ns.map V.int)) := fun b u e => by
      by_cases hb : b = a
      · rw [if_pos hb] at e; cases e; exact ⟨hb, rfl⟩
      · rw [if_neg hb] at e; cases e
    refine from_ (fun b => if b = a then some (.frz { cls := .type "list", data := .seq vs.toArray } (.lst (ns.map V.int))) else none) (fun b => ?_) (.inl (.inr ⟨_, if_pos rfl⟩)) (fun b u zz => ?_) (fun b u zz => (here b u zz).1) fun _ _ => hk
    · by_cases hb : b = a
      · exact .inr ⟨_, _, if_pos hb⟩
      · exact .inl (if_neg hb)
    · obtain ⟨rfl, rfl⟩ := here b u zz
      exact ⟨ha, by rw [List.length_map]; exact hl, vs, _, rel, ha⟩
end
theorem walkG {l : PySem.W.OpenLaw} {n k : Nat} {q : Program} {loose : List Str} {XP : (Str → Option Value) → Heap → Prop} {YP : World → Heap → Prop} {d : DefRec} {x : Str} (hn : l.most = some n) (hn2 : n ≤ sizeLine) (hdf : d.params.defaults = []) (hr : Room k callerA)
    (F : ∀ (w : World) (mg : Str → Option Value) (fa : Addr) (h : Heap), YP w h → h.Ns mainGlobals mg → mg d.name = some (.ref fa) →
      ∃ (K : PySem.W.Frag) (fd : FuncData) (sp : Sp), K.In h ∧ (∀ (s : Shared) (u : Value), BindsTo s fd ⟨[u], []⟩ [(x, u)]) ∧
        (∀ (H : Hp) (a : Addr) (ns : List Int), ns.length ≤ n → Only H → SqL K H a (ns.map V.int) → sp [.ref a] H (fun v _ => v = .bl true) fun _ _ _ => False) ∧ ∀ base : Heap, K.In base → base.Ns mainGlobals mg → FnG l.prog w K mg base k fa fd [x] sp) :
    PySem.W.WalkO q loose XP YP l.row.toRowW d [] (fun f vs => PySem.call f vs) := by
  refine Att.attach_call hn hdf fun w s0 s1 mg mb fa o pm cd doc a vs ns G Y ho hd hcd hmg hobj hints hlen hg => ?_
  obtain ⟨K, fd, sp, KX, hb, want, hF⟩ := F w mg fa _ Y G.T.g hmg
  exact lawG KX G.T.g G.T.b G.T.builtins G.T.nolimit hg hobj hints (Nat.le_trans hlen hn2) hr hF hb fun H hO hS => want H a ns hlen hO hS
end AR
namespace AR
open PySem PySem.Spec PyProof.Rows L2
section
variable (K : PySem.W.Frag) {X : Cx}
/-- repr of a list, a tuple of data of any depth -/
def rRepr : List V → Hp → VK → Prop := fun xs H Q => ∃ (a : Addr) (d : PyData), xs = [.ref a] ∧ Dp K H (.ref a) d ∧ d.showable = true ∧ d.hasDict = false ∧ d.depth ≤ 64 ∧ d.shown.length ≤ sizeLine ∧ Q (.str d.shown) H
theorem call_reprK (hgu : X.A.guards = some []) (hu : X.A.units + 66 < cLine) (hK : X.K = K := by rfl) : CallR X (.builtin "repr") (rRepr K) := by
  subst hK
  intro pins st σ H xs us Q I r h
  obtain ⟨a, d, rfl, hd, sh, nd, dep, sz, q⟩ := h
  obtain ⟨u, rfl, ru⟩ := vals1 r
  cases (show u = Value.ref a from ru)
  obtain ⟨as, hr⟩ := Dp.reads I d _ _ hd rfl
  refine repr_of_reads' hr sh (fun e => by rw [nd] at e; cases e) hgu (by omega) (fun b o e => e) (fun h' t tk kp => ?_) sz
  exact ⟨.str d.shown, H, I.kept kp, ⟨t, rfl⟩, q⟩
end
end AR
set_option autoImplicit false
namespace VS
open PySem PySem.Spec PyProof.Rows L2 AR
def isSq : D → Bool
  | .lst _ => true
  | .tup _ => true
  | _ => false
def shO (p : PyData) : Bool := p.showable && !p.hasDict && decide (p.depth ≤ 64) && (decide (p.shown.length ≤ sizeLine) && PyData.strOk p.shown)
def reprO (d : D) : Option D := (toP d).bind fun p => if isSq d && shO p then some (.str p.shown) else none
section
variable {X : Cx} {a : Expr} {f : FE} {pos p : Pos} {k : Nat}
theorem ve_repr (hgu : X.A.guards = some []) (hu : X.A.units + 66 < cLine) (hg : Gl X "repr") (hb : X.mg "repr" = none) (h : VE X a f) (he : starEach [a] X.env = (false, eval a X.env) :: starEach [] X.env := by rfl) : VE X (.Call (.Name "repr" p) [a] [] pos) (fU reprO f) := by
  refine ve_call1 (pe_callB (call_reprK X.K hgu hu) hg hb (by decide +kernel) (pa_cons h pa_nil he) (he := he)) fun w ρ σ H v d d' Q ok r ed k => ?_
  obtain ⟨q, e1, e2⟩ := Option.bind_eq_some_iff.mp ed
  split at e2
  case isFalse => cases e2
  rename_i hc
  cases e2
  unfold shO at hc
  simp only [Bool.and_eq_true, decide_eq_true_eq, Bool.not_eq_true'] at hc
  obtain ⟨hs, ⟨⟨h1, h2⟩, h3⟩, h4, h5⟩ := hc
  have ha : ∃ b, v = .ref b := by cases r <;> first | exact ⟨_, rfl⟩ | cases hs
  obtain ⟨b, rfl⟩ := ha
  exact ⟨b, q, rfl, (toP_rep (r.mono ok.sub) e1).1, h1, h2, h3, h4, k _ w H (.refl _ _) ok (.str ⟨h4, h5⟩)⟩
theorem u66 {A : Around} {k : Nat} (hr : Room k A) : A.units + 66 < cLine := by have := hr.un; omega
end
section
variable {X : Cx} {tg : Expr} {pos : Pos} {x : Str} {i : Nat}
theorem ve_lcK {elt : Expr} {ifs : List Expr} {scope : Scope} {own : List (Str × Nat)} {fg : FG} {fc : FT} {fe : FE} {us : List Nat} {p : Pos} (hc : X.calm = true) (hN : X.N.Nodup) (hu : own.map (·.2) = us) (h : PE X (.Name x p) (tVar i)) (ok : BlkOk X.N X.env.scope scope own)
    (hg : ∀ (s : Shared) (H : Hp) (C : Addr) (cl : List (Str × Addr)) (fp : List Addr), VG (X.blk s H scope (compEnvC scope cl C X.env) fp) tg us fg) (ht : ∀ (s : Shared) (H : Hp) (C : Addr) (cl : List (Str × Addr)) (fp : List Addr), VTs (X.blk s H scope (compEnvC scope cl C X.env) fp) ifs fc)
    (he : ∀ (s : Shared) (H : Hp) (C : Addr) (cl : List (Str × Addr)) (fp : List Addr), VE (X.blk s H scope (compEnvC scope cl C X.env) fp) elt fe) (hs : ∀ y, foldedSetIterable (.Name x p) X.env y = pure y := by intro _; rfl) :
    VE X (.ListComp elt [⟨tg, .Name x p, ifs, 0⟩] scope pos) (fLC us (iK i) fg fc fe) := VN.ve (vn_lcK hc hN hu h ok hg ht he hs) fLC_nb
end
section
variable {P : Program} {w : World} {K : PySem.W.Frag} {mg : Str → Option Value} {base : Heap}
/-- the law itself: called where nothing is being shown -/
theorem vfnG {x : Str} {st : Stmt} {N ps : List Str} {k n kk : Nat} {body : FS} {f : Addr} {fd : FuncData} (F : FunD K x x (defArgs st) (defBody st) (defScope st) [] [] f fd) (S : FnScope N ps (defScope st)) (hn : ps.length = n) (hkk : N.length = kk)
    (hbody : ∀ (cdv : Value) (A : Around) (outer : List Env) (s : Shared) (H : Hp) (E : XK), Room k (A.deeper (envOfC x (defScope st) s.heap.objs.size f cdv)) → (A.deeper (envOfC x (defScope st) s.heap.objs.size f cdv)).guards = some [] →
      VSs (cxOf CX0 P w K mg base N x (defScope st) f cdv A outer s H E).nox (defBody st) body) : FnG P w K mg base (k + 1) f fd ps (spF K n (fnD n kk body)) := by
  subst hkk
  refine okG F S (fun vs H Q E h => ?_) fun cdv A outer s H vs Q E hr hgu h => ⟨_, hbody cdv A outer s H E hr hgu, body_ok h⟩
  obtain ⟨hs, ds, r, s, tp, rp, hl, _⟩ := h
  rw [rp.length, hl, hn]
end
end VS
namespace VS
open PySem PySem.Spec PyProof.Rows L2 AR
/-- the law's own argument -/
theorem law_sp {K : PySem.W.Frag} {H : Hp} {a : Addr} {ns : List Int} {f : List D → Option D} {E : XK} (o : Only H) (hS : SqL K H a (ns.map V.int)) (hl : ns.length ≤ sizeLine) (hf : f [.lst (ns.map D.int)] = some (.bl true)) : spF K 1 f [.ref a] H (fun v _ => v = .bl true) E := by
  have hr : ∀ l : List Int, RepAll K H (l.map V.int) (l.map D.int) := fun l => by
    induction l with
    | nil => exact .nil
    | cons x l ih => exact .cons (.int x) ih
  refine ⟨H, [.lst (ns.map D.int)], .bl true, .refl _, fun a xs q => q, .one (.lst hS (by rw [List.length_map]; exact hl) (hr ns)), rfl, hf, fun v hs' H' _ _ _ _ _ r => ?_⟩
  cases r
  rfl
end VS
set_option autoImplicit false
namespace VS
open PySem PySem.Spec PyProof.Rows L2 AR
/-! ### the law's draws -/
/-- the great cells without the used ones at the end -/
def dropZ (ns : List Int) : List Int := (ns.reverse.dropWhile (· == 0)).reverse
def lessN (ns : List Int) (s c n : Int) : Int × BoxC :=
  if dropZ ns = [] then (((s * 39373 + 113 * (c + 1)) % 2147483629 / 32) % n, .flow [] ((s * 39373 + 113 * (c + 1)) % 2147483629) (c + 1))
  else ((dropZ ns).getLastD 0 % n, .flow ((dropZ ns).dropLast ++ [(dropZ ns).getLastD 0 / n]) s c)
def lessF (b : BoxC) (ds : List D) : Option (D × BoxC) := match b, ds with
  | .flow ns s c, [.int n] => if 0 < n ∧ n < 1073741824 then some (.int (lessN ns s c n).1, (lessN ns s c n).2) else none
  | _, _ => none
theorem lessF_len : ∀ c ds r, lessF c ds = some r → ds.length = 1 := fun c ds r h => by
  unfold lessF at h
  split at h
  · rfl
  · cases h
theorem lessF_form : ∀ c ds r c', lessF c ds = some (r, c') → sameForm c c' := fun c ds r c' h => by
  unfold lessF at h
  split at h
  · split at h
    · cases h
      unfold lessN
      split <;> trivial
    · cases h
  · cases h
def stir (cs : List Int) (t : Int) : Int := cs.foldl (fun t c => (t * 39373 + c % 2147483579 + 17) % 2147483629) t
def flowB (ns : List Int) (k : Int) : BoxC :=
  .flow (((cutL ns (some k) (some 58)).map fun c => if c < 0 then -c else c).filter (fun c => decide (c ≥ 10 ^ 18))).reverse (stir ((cutL ns (some k) (some 58)).map fun c => if c < 0 then -c else c) (24036583 + 71 * k)) 0
def flowF (ds : List D) : Option BoxC := match ds with
  | [.lst xs, .int k] => (intsOf xs).bind fun ns => if ns.length ≤ 1000 ∧ 0 ≤ k ∧ k < 1000 then some (flowB ns k) else none
  | _ => none
theorem flowF_len : ∀ ds r, flowF ds = some r → ds.length = 2 := fun ds r h => by
  unfold flowF at h
  split at h
  · rfl
  · cases h
end VS
set_option autoImplicit false
namespace AR
open PySem PySem.Spec PyProof.Rows L2
/-! ### calls by keywords -/
/-- the items at is -/
def permL {α : Type} (is : List Nat) (xs : List α) : List α := is.filterMap fun i => xs[i]?
theorem vals_getO {vs : List V} {us : List Value} (r : Vals vs us) (i : Nat) : (vs[i]? = none ∧ us[i]? = none) ∨ ∃ v u, vs[i]? = some v ∧ us[i]? = some u ∧ RelV v u := by
  induction r generalizing i with
  | nil => exact .inl ⟨by simp, by simp⟩
  | cons h _ ih =>
    cases i with
    | zero => exact .inr ⟨_, _, rfl, rfl, h⟩
    | succ i =>
      rcases ih i with h | ⟨v, u, h1, h2, h3⟩
      · exact .inl (by simpa using h)
      · exact .inr ⟨v, u, by simpa using h1, by simpa using h2, h3⟩
theorem vals_perm {vs : List V} {us : List Value} (r : Vals vs us) : ∀ is : List Nat, Vals (permL is vs) (permL is us)
  | [] => .nil
  | i :: is => by
    unfold permL
    rw [List.filterMap_cons, List.filterMap_cons]
    rcases vals_getO r i with ⟨h1, h2⟩ | ⟨v, u, h1, h2, h3⟩
    · rw [h1, h2]; exact vals_perm r is
    · rw [h1, h2]; exact .cons h3 (vals_perm r is)
/-- a def of the module that is called with n values and the keywords ks: is tells where each parameter's value stands -/
structure GDK (K : PySem.W.Frag) (mg : Str → Option Value) (x : Str) (st : Stmt) (ps : List Str) (n : Nat) (ks : List Str) (is : List Nat) : Prop where
  ex : ∃ (f : Addr) (fd : FuncData), FunD K x x (defArgs st) (defBody st) (defScope st) [] [] f fd ∧ mg x = some (.ref f) ∧ KBn K fd ps n ks (fun us ws => permL is (us ++ ws)) (fun vs zs => permL is (vs ++ zs))
structure CalK (P : Program) (w : World) (K : PySem.W.Frag) (mg : Str → Option Value) (base : Heap) (k : Nat) (x : Str) (n : Nat) (ks : List Str) (is : List Nat) (sp : Sp) : Prop where
  ex : ∃ (f : Addr) (fd : FuncData) (ps : List Str), FnOk P w K mg base C8.CX0 k f fd ps sp ∧ mg x = some (.ref f) ∧ PySem.W.keepIn K (.ref f) = true ∧ KBn K fd ps n ks (fun us ws => permL is (us ++ ws)) (fun vs zs => permL is (vs ++ zs))
theorem kbn_of {K : PySem.W.Frag} {x qual : Str} {params : Arguments} {body : List Stmt} {scope : Scope} {f : Addr} {fd : FuncData} {ps ks : List Str} {n : Nat} {is : List Nat} (F : FunD K x qual params body scope [] [] f fd)
    (h : ∀ (kV doc pm : Value) (an : Option Addr) (cdv ct : Value) (us ws : List Value), us.length = n → ws.length = ks.length → bindArgs (PySem.W.fnOf x qual params body scope .none kV doc pm an cdv ct) ⟨us, ks.zip ws⟩ = pure (ps.zip (permL is (us ++ ws)))) :
    KBn K fd ps n ks (fun us ws => permL is (us ++ ws)) (fun vs zs => permL is (vs ++ zs)) := by
  obtain ⟨oc, od, dV, kV, doc, pm, an, cdv, ct, osl, rfl, lk, hcd, hD, hK⟩ := F.ex
  rcases hD with ⟨_, rfl⟩ | ⟨e, _⟩
  · exact ⟨fun s us ws X l1 l2 => .of_eq (h kV doc pm an cdv ct us ws l1 l2), fun r1 r2 => vals_perm (r1.append r2) is⟩
  · exact absurd rfl e
section
variable {P : Program} {w : World} {K : PySem.W.Frag} {mg : Str → Option Value} {base : Heap}
theorem GDK.calK {x : Str} {st : Stmt} {N ps ks : List Str} {n k : Nat} {is : List Nat} {sp : Sp} (G : GDK K mg x st ps n ks is) (S : FnScope N ps (defScope st)) (len : ∀ vs H Q E, sp vs H Q E → vs.length = ps.length)
    (hbody : ∀ (f : Addr) (cdv : Value) (A : Around) (outer : List Env) (s : Shared) (H : Hp) (vs : List V) (Q : VK) (E : XK), Room k (A.deeper (envOfC x (defScope st) s.heap.objs.size f cdv)) → sp vs H Q E →
      ∃ t, PSs (cxOf CX0 P w K mg base N x (defScope st) f cdv A outer s H E).nox (defBody st) t ∧ t { nx := fun _ H' => Q .non H', rt := Q } (start N vs) H) : CalK P w K mg base (k + 1) x n ks is sp := by
  obtain ⟨f, fd, F, m, b⟩ := G.ex
  refine ⟨f, fd, ps, F.ok S len fun cdv A outer s H vs Q E hr hsp => ?_, m, F.kp, b⟩
  obtain ⟨t, h, q⟩ := hbody f cdv A outer s H vs Q E hr hsp
  exact ⟨t, h.nox, q⟩
end
section
variable {X : Cx} {k j n : Nat} {ks : List Str} {is : List Nat} {sp : Sp} {x : Str} {p pos : Pos} {e : Expr} {es : List Expr} {kws : List Keyword} {t tk : TA}
/-- f(k = v, ..) -/
theorem pe_cK0 (c : CalK X.prog X.w X.K X.mg X.base k x 0 ks is sp) (hr : Room j X.A) (hk : k ≤ j) (hg : Gl X x) (hkw : PK X kws tk)
    (hall : (backToKw pos (keywordEach kws X.env)).all (·.1.isSome) = true := by rfl) (hks : (backToKw pos (keywordEach kws X.env)).filterMap (·.1) = ks := by rfl) (hdb : (x == ("__debug__" : Str)) = false := by decide)
    (hpl : ((backTo pos (starEach [] X.env)).any (·.1) || (backToKw pos (keywordEach kws X.env)).any (·.1.isNone)) = false := by rfl) :
    PE X (.Call (.Name x p) [] kws pos) (fun σ H Q => tk σ H fun zs H2 => zs.length = ks.length ∧ sp (permL is zs) H2 Q C8.E0) := by
  obtain ⟨f, fd, ps, F, hm, kp, b⟩ := c.ex
  refine ⟨fun pins s σ H Q I h => ?_⟩
  refine wpAny_Call_Name_kw (ld_glob I hg hm ?_ hdb)
  refine PySem.W.callWith_KW0 (h₀ := X.base) I.ok.mod.kin kp hall ?_ hpl
  refine thn (hkw.run pos pins s σ H _ I h) fun ws s2 ⟨zs, H2, I2, rz, l2, q2⟩ => ⟨I2.kIn, ?_⟩
  rw [hks]
  exact run_fnN (us := []) (vs := []) F (hr.mono hk) b C8.pass0 I2 .nil rz rfl l2 q2
/-- f(e, .., k = v, ..) -/
theorem pe_cK (c : CalK X.prog X.w X.K X.mg X.base k x n ks is sp) (hr : Room j X.A) (hk : k ≤ j) (hg : Gl X x) (ha : PA X (e :: es) t) (hkw : PK X kws tk)
    (hall : (backToKw pos (keywordEach kws X.env)).all (·.1.isSome) = true := by rfl) (hks : (backToKw pos (keywordEach kws X.env)).filterMap (·.1) = ks := by rfl) (hdb : (x == ("__debug__" : Str)) = false := by decide)
    (he : starEach (e :: es) X.env = (false, eval e X.env) :: starEach es X.env := by rfl)
    (hpl : ((backTo pos (starEach (e :: es) X.env)).any (·.1) || (backToKw pos (keywordEach kws X.env)).any (·.1.isNone)) = false := by rfl) :
    PE X (.Call (.Name x p) (e :: es) kws pos) (tCallN n ks.length sp (fun vs zs => permL is (vs ++ zs)) C8.E0 t tk) := by
  obtain ⟨f, fd, ps, F, hm, kp, b⟩ := c.ex
  exact pe_callN F (hr.mono hk) hg hm kp b C8.pass0 ha hkw hall hks hdb he hpl
end
/-! ### (i, x) < (j, y): an int and a text -/
def ltIS (i : Int) (x : Str) (j : Int) (y : Str) : Bool := if i = j then decide (x.cps.toList < y.cps.toList) else decide (i < j)
section
variable {X : Cx}
theorem rc_lt_str {A : Around} {s : Shared} (a b : Str) (t u : Tok) : Ob.RcOp .Lt A s (.str a t) (.str b u) (decide (a.cps.toList < b.cps.toList)) := fun _ _ _ _ h => PyProof.Rows.lt_str h
def rLtIS (K : PySem.W.Frag) : R2 := fun x y H Q => ∃ a b i z j z', x = .ref a ∧ y = .ref b ∧ SqT K H a [.int i, .str z] ∧ SqT K H b [.int j, .str z'] ∧ Q (.bl (ltIS i z j z')) H
theorem op_ltIS (hu : X.A.units < cLine) : OpR X (compareOp .Lt) (rLtIS X.K) := by
  intro pins s σ H x y v u Q I rx ry h
  obtain ⟨a, b, i, z, j, z', rfl, rfl, ha, hb, q⟩ := h
  cases rx
  cases ry
  obtain ⟨its, r1, p1, _⟩ := I.tuple ha
  obtain ⟨its2, r2, p2, _⟩ := I.tuple hb
  cases r1 with
  | cons a1 r1 =>
  cases r1 with
  | cons a2 r1 =>
  cases r1
  cases r2 with
  | cons b1 r2 =>
  cases r2 with
  | cons b2 r2 =>
  cases r2
  obtain ⟨t1, rfl⟩ := a1
  obtain ⟨t2, rfl⟩ := a2
  obtain ⟨u1, rfl⟩ := b1
  obtain ⟨u2, rfl⟩ := b2
  have key := Ob.RcOp.tuples_lt (A := X.A) (s := s) (l := a) (b := b) (e := fun n => match n with | 0 => i == j | _ => z == z') (r := fun n => match n with | 0 => decide (i < j) | _ => decide (z.cps.toList < z'.cps.toList)) p1 p2 hu (fun n h1 h2 => ?_) (fun n h1 h2 _ => ?_)
  · have e : Ob.lexAt (fun n => match n with | 0 => i == j | _ => z == z') (fun n => match n with | 0 => decide (i < j) | _ => decide (z.cps.toList < z'.cps.toList)) (decide ((2 : Nat) < 2)) 0 2 = ltIS i z j z' := by
      show (if (i == j) = true then (if (z == z') = true then decide ((2 : Nat) < 2) else decide (z.cps.toList < z'.cps.toList)) else decide (i < j)) = ltIS i z j z'
      unfold ltIS
      by_cases h1 : i = j
      · rw [if_pos (by simpa using h1), if_pos h1]
        by_cases h2 : z = z'
        · subst h2
          rw [if_pos (by simp)]
          simp
        · rw [if_neg (by simpa using h2)]
      · rw [if_neg (by simpa using h1), if_neg h1]
    refine key X.prog X.w _ _ ?_
    show EP X pins σ Q (.bool (Ob.lexAt _ _ (decide ((2 : Nat) < 2)) 0 2)) s
    rw [e]
    exact ⟨.bl _, H, I, rfl, q⟩
  · have : n = 0 ∨ n = 1 := by
      have h1' : n < 2 := h1
      omega
    rcases this with rfl | rfl
    · exact PySem.SeqAt.EqAt.int_int _ _ _ _
    · exact PySem.SeqAt.EqAt.str_str _ _ _ _
  · have : n = 0 ∨ n = 1 := by
      have h1' : n < 2 := h1
      omega
    rcases this with rfl | rfl
    · exact Ob.RcOp.lt_int _ _ _ _
    · exact rc_lt_str _ _ _ _
/-! ### repr of bools, of None -/
theorem call_repr_bl : CallR X (.builtin "repr") (fun xs H Q => ∃ b, xs = [.bl b] ∧ Q (.str (if b then "True" else "False")) H) := by
  intro pins s σ H xs us Q I r h
  obtain ⟨b, rfl, q⟩ := h
  obtain ⟨u, rfl, ru⟩ := vals1 r
  cases (show u = Value.bool b from ru)
  exact PySem.P.repr_of_bool ⟨.str _, H, I.tok _, ⟨_, rfl⟩, q⟩
theorem call_repr_non : CallR X (.builtin "repr") (fun xs H Q => xs = [.non] ∧ Q (.str "None") H) := by
  intro pins s σ H xs us Q I r h
  obtain ⟨rfl, q⟩ := h
  obtain ⟨u, rfl, ru⟩ := vals1 r
  cases (show u = Value.none from ru)
  exact PySem.P.repr_of_none ⟨.str _, H, I.tok _, ⟨_, rfl⟩, q⟩
end
end AR
set_option autoImplicit false
namespace VS
open PySem PySem.Spec PyProof.Rows L2 AR
open C8 (Cal Met Mak)
section
variable {X : Cx} {a b c e o value : Expr} {f g : FE} {pos p apos pos' p2 : Pos} {ga gk : FA} {es : List Expr} {i : Nat} {x : Str}
/-! ### -x, x ** n -/
def negO : D → Option D
  | .int i => some (.int (-i))
  | _ => none
theorem ve_neg (h : VE X a f) : VE X (.UnaryOp .USub a pos) (fU negO f) := ve_un (r := rU fun i => .int (-i)) (pe_un un_neg h) fun w ρ σ H v d d' Q ok r ed k => by
  cases d <;> try (cases ed; done)
  cases ed
  cases r
  exact ⟨_, rfl, k _ w H (.refl _ _) ok (.int _)⟩
def powO : D → D → Option D
  | .int i, .int j => if 0 ≤ j ∧ j ≤ 1000000 ∧ i.natAbs < 2 ^ 64 then some (.int (i ^ j.toNat)) else none
  | _, _ => none
theorem ve_pow (ha : VE X a f) (hb : VE X b g) : VE X (.BinOp a .Pow b pos) (fB powO f g) := ve_bin (ι := Unit) (r := fun _ => rI CPow fun i j => .int (i ^ j.toNat)) (fun _ => pe_op op_pow ha hb) fun x y z h => by
  cases x <;> try (cases h; done)
  cases y <;> try (cases h; done)
  rename_i i j
  have h' : (if 0 ≤ j ∧ j ≤ 1000000 ∧ i.natAbs < 2 ^ 64 then some (D.int (i ^ j.toNat)) else none) = some z := h
  split at h'
  · rename_i hc
    cases h'
    exact ⟨(), fun w ρ σ H v u Q ok rv ru k => by cases rv; cases ru; exact ⟨_, _, rfl, rfl, hc, k _ w H (.refl _ _) ok (.int _)⟩⟩
  · cases h'
/-! ### is True -/
def isBO (x y : D) : Option D := match x, y with
  | .bl a, .bl b => some (.bl (decide (a = b)))
  | _, _ => none
def notBO (x y : D) : Option D := match x, y with
  | .bl a, .bl b => some (.bl (!decide (a = b)))
  | _, _ => none
theorem c_isB : CmpV X .Is (ι := Unit) (fun _ => rIsB) isBO := ⟨fun _ => op_isBl, fun x y z h => ⟨(), fun w ρ σ H v u Q ok rv ru k => by
  cases x <;> try (cases h; done)
  cases y <;> try (cases h; done)
  cases h; cases rv; cases ru
  exact ⟨_, _, rfl, rfl, k _ w H (.refl _ _) ok (.bl _)⟩⟩⟩
theorem c_notB : CmpV X .IsNot (ι := Unit) (fun _ => rNotB) notBO := ⟨fun _ => op_notBl, fun x y z h => ⟨(), fun w ρ σ H v u Q ok rv ru k => by
  cases x <;> try (cases h; done)
  cases y <;> try (cases h; done)
  cases h; cases rv; cases ru
  exact ⟨_, _, rfl, rfl, k _ w H (.refl _ _) ok (.bl _)⟩⟩⟩
/-! ### (int, text) < (int, text) -/
def ltTO (x y : D) : Option D := match x, y with
  | .tup [.int i, .str z], .tup [.int j, .str z'] => some (.bl (ltIS i z j z'))
  | _, _ => none
theorem c_ltT (hu : X.A.units < cLine) : CmpV X .Lt (ι := Unit) (fun _ => rLtIS X.K) ltTO := ⟨fun _ => op_ltIS hu, fun x y z h => ⟨(), fun w ρ σ H v u Q ok rv ru k => by
  unfold ltTO at h
  split at h
  · cases h
    cases rv with
    | tup h1 _ t1 =>
    cases ru with
    | tup h2 _ t2 =>
    cases t1 with
    | cons r1 t1 =>
    cases t1 with
    | cons r2 t1 =>
    cases t1
    cases t2 with
    | cons q1 t2 =>
    cases t2 with
    | cons q2 t2 =>
    cases t2
    cases r1; cases r2; cases q1; cases q2
    exact ⟨_, _, _, _, _, _, rfl, rfl, .of h1, .of h2, k _ w H (.refl _ _) ok (.bl _)⟩
  · cases h⟩⟩
/-! ### repr of a bool, of None -/
def reprA : D → Option D
  | .bl b => some (.str (if b then "True" else "False"))
  | .non => some (.str "None")
  | _ => none
theorem ve_reprA (hg : Gl X "repr") (hb : X.mg "repr" = none) (h : VE X a f) (he : starEach [a] X.env = (false, eval a X.env) :: starEach [] X.env := by rfl) : VE X (.Call (.Name "repr" p) [a] [] pos) (fU reprA f) := by
  refine orE (ι := Bool) (t := fun i => match i with
    | true => fun σ H Q => tV X.K f σ H fun x H1 => ∃ b, [x] = [V.bl b] ∧ Q (.str (if b then "True" else "False")) H1
    | false => fun σ H Q => tV X.K f σ H fun x H1 => [x] = [V.non] ∧ Q (.str "None") H1) (fun i => match i with
    | true => pe_callB call_repr_bl hg hb (by decide +kernel) (pa_cons h pa_nil he) (he := he)
    | false => pe_callB call_repr_non hg hb (by decide +kernel) (pa_cons h pa_nil he) (he := he)) fun σ H Q q => ?_
  obtain ⟨w, ρ, d', ρ', ok, ef, kk⟩ := q
  obtain ⟨⟨d, ρ1⟩, e1, e2⟩ := Option.bind_eq_some_iff.mp ef
  obtain ⟨d2, e3, e4⟩ := Option.map_eq_some_iff.mp e2
  cases e4
  cases d <;> try (cases e3; done)
  · cases e3
    exact ⟨false, w, ρ, _, _, ok, e1, fun v w1 H1 f1 ok1 r1 => by
      cases r1
      exact ⟨rfl, kk _ w1 H1 f1 ok1 (.str (SG.of (by decide +kernel)))⟩⟩
  · cases e3
    exact ⟨true, w, ρ, _, _, ok, e1, fun v w1 H1 f1 ok1 r1 => by
      cases r1
      exact ⟨_, rfl, kk _ w1 H1 f1 ok1 (.str (by split <;> exact SG.of (by decide +kernel)))⟩⟩
/-! ### [*a, b] -/
def seqOf : D → Option (List D)
  | .lst xs => some xs
  | .tup xs => some xs
  | .ktp xs => some xs
  | _ => none
def aSt (f : FE) (g : FA) : FA := fun ρ => (f ρ).bind fun p => (seqOf p.1).bind fun xs => (g p.2).map fun q => (xs ++ q.1, q.2)
theorem va_star (ha : VE X e f) (hr : VA X es ga) (hs : starEach (.Starred e p :: es) X.env = (true, eval e X.env) :: starEach es X.env := by rfl) : VA X (.Starred e p :: es) (aSt f ga) := by
  refine weakA (StX.pa_star ha hr hs) fun σ H Q q => ?_
  obtain ⟨w, ρ, ds, ρ', ok, ef, k⟩ := q
  obtain ⟨⟨x, ρ1⟩, e1, e2⟩ := Option.bind_eq_some_iff.mp ef
  obtain ⟨xs, e0, e2⟩ := Option.bind_eq_some_iff.mp e2
  obtain ⟨⟨ys, ρ2⟩, e3, e4⟩ := Option.map_eq_some_iff.mp e2
  cases e4
  refine ⟨w, ρ, x, ρ1, ok, e1, fun v w1 H1 f1 ok1 r1 => ?_⟩
  have fin : ∀ (pp : Addr) (vs : List V), v = .ref pp → (SqT X.K H1 pp vs ∨ SqL X.K H1 pp vs) → RepAll X.K w1.hs vs xs → ∃ p xs, v = V.ref p ∧ (SqT X.K H1 p xs ∨ SqL X.K H1 p xs) ∧ tAs X.K ga σ H1 fun ys H2 => Q (xs ++ ys) H2 := fun pp vs ev sq ra =>
    ⟨pp, vs, ev, sq, w1, ρ1, ys, _, ok1, e3, fun us w2 H2 f2 ok2 r2 => k (vs ++ us) w2 H2 (f1.trans f2) ok2 ((ra.mono (.of f2.sh)).append r2)⟩
  cases r1 with
  | lst q l t => cases e0; exact fin _ _ rfl (.inr (ok1.sub.sqL q)) t
  | tup q l t => cases e0; exact fin _ _ rfl (.inl (.of (ok1.sub.tup q))) t
  | ktp q l t => cases e0; exact fin _ _ rfl (.inl (ok1.sub.sqT q)) t
  | _ => cases e0
/-! ### s.startswith(t), s.endswith(t) -/
def stwO : D → D → Option D
  | .str x, .str y => some (.bl (Txt.startswith x y))
  | _, _ => none
def enwO : D → D → Option D
  | .str x, .str y => some (.bl (Txt.endswith x y))
  | _, _ => none
/-- a method of a text with one argument -/
theorem ve_strM1 {name : Str} {id : String} {r : V → List V → Hp → VK → Prop} {op : D → D → Option D} (slot : Slot "str" name id) (hty : typeOf (.builtin id) = pure (.type "method_descriptor")) (hm : MtR X id r)
    (k : ∀ (x y z : D), op x y = some z → (∃ s, x = .str s) ∧ ∀ (w : Wd) (ρ : En) (σ : L2.St) (H : Hp) (v u : V) (Q : VK), EnvOk X.K w ρ σ H → Rep X.K w.hs v x → Rep X.K w.hs u y → (∀ v' w' H', Fr w H w' H' → EnvOk X.K w' ρ σ H' → Rep X.K w'.hs v' z → Q v' H') → r v [u] H Q)
    (ha : VE X a f) (hb : VE X b g)
    (hbase : attributeBase a name X.env (eval a X.env) = eval a X.env := by rfl)
    (hfew : ((backTo pos (starEach [b] X.env)).all (fun x => !x.1) && (backToKw pos (keywordEach [] X.env)).all (fun x => x.1.isSome)
      && decide (([b] : List Expr).length + ([] : List Keyword).length + (if ([] : List Keyword).isEmpty then 0 else 1) < 30)) = true := by rfl)
    (hline : (apos.endLine == pos.line) = true := by rfl) (hs : starEach [b] X.env = (false, eval b X.env) :: starEach [] X.env := by rfl) (hplain : (backTo pos (starEach [] X.env)).any (·.1) = false := by rfl) :
    VE X (.Call (.Attribute a name apos) [b] [] pos) (fB op f g) := by
  refine weakE (pe_bm PySem.F.plainAttrs_str slot hty hm ha (pa_cons hb pa_nil hs) hbase hfew hline hs hplain) fun σ H Q q => ?_
  obtain ⟨w, ρ, z, ρ', ok, ef, kk⟩ := q
  obtain ⟨⟨x, ρ1⟩, e1, e2⟩ := Option.bind_eq_some_iff.mp ef
  obtain ⟨⟨y, ρ2⟩, e3, e4⟩ := Option.bind_eq_some_iff.mp e2
  obtain ⟨z2, e5, e6⟩ := Option.map_eq_some_iff.mp e4
  cases e6
  obtain ⟨⟨s, rfl⟩, kc⟩ := k x y z e5
  refine ⟨w, ρ, _, ρ1, ok, e1, fun v w1 H1 f1 ok1 r1 => ?_⟩
  have hv : v = .str s := by cases r1; rfl
  subst hv
  refine ⟨rfl, w1, ρ1, _, ρ2, ok1, e3, fun u w2 H2 f2 ok2 r2 => ?_⟩
  exact kc w2 _ σ H2 _ u Q ok2 (r1.mono (.of f2.sh)) r2 fun v' w' H' f' ok' r' => kk v' w' H' (f1.trans (f2.trans f')) ok' r'
theorem ve_startswith (ha : VE X a f) (hb : VE X b g) (hbase : attributeBase a "startswith" X.env (eval a X.env) = eval a X.env := by rfl)
    (hfew : ((backTo pos (starEach [b] X.env)).all (fun x => !x.1) && (backToKw pos (keywordEach [] X.env)).all (fun x => x.1.isSome)
      && decide (([b] : List Expr).length + ([] : List Keyword).length + (if ([] : List Keyword).isEmpty then 0 else 1) < 30)) = true := by rfl)
    (hline : (apos.endLine == pos.line) = true := by rfl) (hs : starEach [b] X.env = (false, eval b X.env) :: starEach [] X.env := by rfl) (hplain : (backTo pos (starEach [] X.env)).any (·.1) = false := by rfl) :
    VE X (.Call (.Attribute a "startswith" apos) [b] [] pos) (fB stwO f g) :=
  ve_strM1 PySem.F.slot_str_startswith PySem.F.type_str_startswith mt_startswith (fun x y z h => by
    cases x <;> try (cases h; done)
    cases y <;> try (cases h; done)
    cases h
    exact ⟨⟨_, rfl⟩, fun w ρ σ H v u Q ok rv ru k => by cases rv; cases ru; exact ⟨_, _, rfl, rfl, k _ w H (.refl _ _) ok (.bl _)⟩⟩) ha hb hbase hfew hline hs hplain
theorem ve_endswith (ha : VE X a f) (hb : VE X b g) (hbase : attributeBase a "endswith" X.env (eval a X.env) = eval a X.env := by rfl)
    (hfew : ((backTo pos (starEach [b] X.env)).all (fun x => !x.1) && (backToKw pos (keywordEach [] X.env)).all (fun x => x.1.isSome)
      && decide (([b] : List Expr).length + ([] : List Keyword).length + (if ([] : List Keyword).isEmpty then 0 else 1) < 30)) = true := by rfl)
    (hline : (apos.endLine == pos.line) = true := by rfl) (hs : starEach [b] X.env = (false, eval b X.env) :: starEach [] X.env := by rfl) (hplain : (backTo pos (starEach [] X.env)).any (·.1) = false := by rfl) :
    VE X (.Call (.Attribute a "endswith" apos) [b] [] pos) (fB enwO f g) :=
  ve_strM1 PySem.F.slot_str_endswith PySem.F.type_str_endswith mt_endswith (fun x y z h => by
    cases x <;> try (cases h; done)
    cases y <;> try (cases h; done)
    cases h
    exact ⟨⟨_, rfl⟩, fun w ρ σ H v u Q ok rv ru k => by cases rv; cases ru; exact ⟨_, _, rfl, rfl, k _ w H (.refl _ _) ok (.bl _)⟩⟩) ha hb hbase hfew hline hs hplain
/-! ### range(a, b, -1) -/
def dnD (lo hi : Int) : List D := (List.range (lo - hi).toNat).map fun i => D.int (lo + (i : Nat) * (-1))
def iR3 (a : FA) : FI := fun ρ => (a ρ).bind fun p => match p.1 with
  | [.int i, .int j, .int k] => if -(2 ^ 62) ≤ i ∧ i < 2 ^ 62 ∧ -(2 ^ 62) ≤ j ∧ j < 2 ^ 62 ∧ k = -1 then some (dnD i j, p.2) else none
  | _ => none
theorem ity_dn {K : PySem.W.Frag} {w : Wd} {lo hi : Int} : Ity K (Itc lo (-1) (lo - hi).toNat) w (dnD lo hi) := by
  have hl : (dnD lo hi).length = (lo - hi).toNat := by unfold dnD; simp
  refine ⟨fun _ => True, YFn fun i => .int (lo + (i : Nat) * (-1)), by rw [hl]; exact walk_rangeC, fun _ _ => trivial, fun i H x H' d y hd => .inl ⟨y.1, ?_⟩⟩
  rw [y.2]
  unfold dnD at hd
  rw [List.getElem?_map] at hd
  obtain ⟨j, h1, h2⟩ := Option.map_eq_some_iff.mp hd
  rw [← h2]
  obtain ⟨h3, h4⟩ := List.getElem?_eq_some_iff.mp h1
  rw [List.getElem_range] at h4
  subst h4
  exact .int _
theorem vi_rng3 {tg : Expr} (hg : Gl X "range") (hm : X.mg "range" = none) (ha : VA X [a, b, c] ga) (hs : starEach [a, b, c] X.env = (false, eval a X.env) :: starEach [b, c] X.env := by rfl) (hpl : (backTo pos (starEach [b, c] X.env)).any (·.1) = false := by rfl) : VI X tg (.Call (.Name "range" p) [a, b, c] [] pos) (iR3 ga) := by
  refine orI (ι := Unit) (fun _ => pi_range3 hg hm ha hs hpl) fun σ H R q => ⟨(), ?_⟩
  obtain ⟨w, ρ, ds, ρ', ok, ef, k⟩ := q
  obtain ⟨⟨as, ρ1⟩, e1, e2⟩ := Option.bind_eq_some_iff.mp ef
  refine ⟨w, ρ, as, ρ1, ok, e1, fun vs w1 H1 f1 ok1 r1 => ?_⟩
  split at e2
  · rename_i i j kk ej
    split at e2
    · rename_i hj
      obtain ⟨h1, h2, h3, h4, rfl⟩ := hj
      cases e2
      cases (show as = [.int i, .int j, .int (-1)] from ej)
      cases r1 with
      | cons r t =>
        cases r
        cases t with
        | cons r t =>
          cases r
          cases t with
          | cons r t =>
            cases r
            cases t
            exact ⟨i, j, -1, _, rfl, RgC.neg h1 h2 h3 h4, k _ w1 H1 f1 ok1 ity_dn⟩
    · cases e2
  · cases e2
end
end VS
set_option autoImplicit false
namespace VS
open PySem PySem.Spec PyProof.Rows L2 AR
open C8 (Cal Met Mak)
section
variable {X : Cx} {a b c e o value : Expr} {f g : FE} {pos p apos pos' p2 : Pos} {ga gk : FA} {es : List Expr} {i : Nat} {x : Str}
/-! ### box[k] -/
def fBx (i : Nat) (k : Int) : FE := fun ρ => match ρ[i]? with
  | some (Sl.o (.box _ (.nums xs))) => (atI xs k).map fun v => (.int v, ρ)
  | _ => none
theorem atI_map {α β : Type} (φ : α → β) {xs : List α} {k : Int} {v : α} (h : atI xs k = some v) : atI (xs.map φ) k = some (φ v) := by
  unfold atI at *
  obtain ⟨j, h1, h2⟩ := Option.bind_eq_some_iff.mp h
  rw [List.length_map, h1]
  show (xs.map φ)[j]? = _
  rw [List.getElem?_map, h2]; rfl
theorem ve_bx {k : Int} {j} (h : PE X (.Name x p) (tVar i)) : VE X (.Subscript (.Name x p) (.Constant (.int k) j p2) pos) (fBx i k) := by
  refine weakE (pe_ix ix_list h pe_int (fun _ _ => rfl)) fun σ H Q q => ?_
  obtain ⟨w, ρ, d, ρ', ok, ef, kk⟩ := q
  unfold fBx at ef
  split at ef
  · rename_i xs e0
    obtain ⟨v, h1, h2⟩ := Option.map_eq_some_iff.mp ef
    cases h2
    obtain ⟨v0, hv0, ro⟩ := ok.ow i _ e0
    cases ro with
    | @nums b _ _ hp ho hH =>
      exact ⟨_, hv0, b, _, k, .int v, rfl, rfl, SqL.of hH, atI_map V.int h1, kk _ w H (.refl _ _) ok (.int v)⟩
  · cases ef
/-! ### xs[i] = v, xs a slot's own list or box -/
def updX (d : D) (k : Int) (v : D) : Option D := match d with
  | .lst xs => (ixN xs.length k).map fun j => .lst (xs.set j v)
  | .box p (.nums xs) => match v with
    | .int z => (ixN xs.length k).map fun j => .box p (.nums (xs.set j z))
    | _ => none
  | _ => none
def sPutL (i : Nat) (fk fv : FE) : FS := fun ρ => (fv ρ).bind fun p => if hasSl p.2 i then (fk p.2).bind fun q => match q.1, q.2[i]? with
  | .int k, some (Sl.o d) => (updX d k p.1).map fun d' => .nx (q.2.set i (Sl.o d'))
  | _, _ => none
  else none
theorem vs_putL {fk fv : FE} (ho : PE X (.Name x p) (tVar i)) (hk : VE X b fk) (hv : VE X value fv) (hs : swapsWithSole [.Subscript (.Name x p) b pos'] value pos.line X.env = pure false := by rfl) (hw : swappedStores [.Subscript (.Name x p) b pos'] value X.env = pure none := by rfl)
    (h1 : (assignEach [.Subscript (.Name x p) b pos'] X.env).map (·.2) = [assign (.Subscript (.Name x p) b pos') X.env] := by rfl)
    (hsb : ∀ v, assign (.Subscript (.Name x p) b pos') X.env v = (do
      let ov ← holding [v] (eval (.Name x p) X.env)
      let iv ← holding [v, ov] (eval b X.env)
      standAt pos'
      holding [v, ov, iv] (setItem ov iv v)
      release [v, ov, iv] []) := by intro _; rfl) : VS1 X (.Assign [.Subscript (.Name x p) b pos'] value pos) (sPutL i fk fv) := by
  refine weakS (ps_asg hv (pg_sub ho hk set_list hsb) hs hw h1) fun E σ H q => ?_
  obtain ⟨w, ρ, ot, ok, ef, k⟩ := q
  obtain ⟨⟨y, ρ1⟩, e1, e2⟩ := Option.bind_eq_some_iff.mp ef
  split at e2
  case isFalse => cases e2
  rename_i hsl
  obtain ⟨⟨z, ρ2⟩, e3, e4⟩ := Option.bind_eq_some_iff.mp e2
  refine ⟨w, ρ, y, ρ1, ok, e1, fun u w1 H1 f1 ok1 r1 => ?_⟩
  obtain ⟨v0, hv0⟩ := ok1.has hsl
  refine ⟨v0, hv0, w1, ρ1, z, ρ2, ok1, e3, fun kv w2 H2 f2 ok2 r2 => ?_⟩
  split at e4
  · rename_i kz d ez e5
    have ez' : z = .int kz := ez
    subst ez'
    cases r2
    obtain ⟨d', e6, e7⟩ := Option.map_eq_some_iff.mp e4
    cases e7
    obtain ⟨v, hv', ro⟩ := ok2.ow i _ e5
    rw [hv0] at hv'
    cases hv'
    have r1' := r1.mono (.of f2.sh)
    have f12 := f1.trans f2
    cases ro with
    | @lst a xs ds ho' hH hl ht =>
      obtain ⟨j, h1, h2⟩ := Option.map_eq_some_iff.mp e6
      subst h2
      obtain ⟨f3, ok3⟩ := ok2.mut (o := .lst (xs.set j u)) (d := .lst (ds.set j y)) ho' hv0 (.lst ho' upd_same (by rw [List.length_set]; exact hl) (ht.set r1' j)) (fun _ z => nomatch z)
      exact ⟨a, xs, kz, j, rfl, rfl, hH, by rw [ht.length]; exact h1, k σ w2 _ (f12.trans f3) ok3⟩
    | @nums a xs pp hp ho' hH =>
      cases y <;> try (cases e6; done)
      rename_i zz
      cases r1'
      obtain ⟨j, h1, h2⟩ := Option.map_eq_some_iff.mp e6
      subst h2
      obtain ⟨f3, ok3⟩ := ok2.mut (o := .lst ((xs.map V.int).set j (.int zz))) (d := .box pp (.nums (xs.set j zz))) ho' hv0 (.nums hp ho' (by rw [upd_same, List.map_set])) (fun _ z => nomatch z)
      exact ⟨a, _, kz, j, rfl, rfl, hH, by rw [List.length_map]; exact h1, k σ w2 _ (f12.trans f3) ok3⟩
    | _ => cases e6
  · cases e4
end
/-! ### bodies whose answer is a new thing -/
section
def OutOkN (K : PySem.W.Frag) (w : Wd) (H : Hp) (E : Ends) : Out → Prop
  | .rt d ρ' => ∀ v σ' w' H', Fr w H w' H' → EnvOk K w' ρ' σ' H' → Fresh K w' H H' v d → E.rt v H'
  | _ => False
def tStN (K : PySem.W.Frag) (f : FS) : TS := fun E σ H => ∃ w ρ o, EnvOk K w ρ σ H ∧ f ρ = some o ∧ OutOkN K w H E o
abbrev VSN (X : Cx) (st : List Stmt) (f : FS) : Prop := PSs X st (tStN X.K f)
def sSeqN (a b : FS) : FS := fun ρ => match a ρ with
  | some (.nx ρ1) => b ρ1
  | _ => none
variable {X : Cx} {e : Expr} {f : FE} {pos : Pos} {st : Stmt} {rest : List Stmt} {s1 s2 : FS}
theorem vsn_cons (h1 : VS1 X st s1) (h2 : VSN X rest s2) : VSN X (st :: rest) (sSeqN s1 s2) := by
  refine weakSs (pss_cons h1 h2) fun E σ H q => ?_
  obtain ⟨w, ρ, o, ok, ef, k⟩ := q
  unfold sSeqN at ef
  split at ef
  · rename_i ρ1 e1
    refine ⟨w, ρ, _, ok, e1, fun σ' w' H' f' ok' => ⟨w', ρ1, o, ok', ef, ?_⟩⟩
    cases o with
    | rt d ρ2 => exact fun v σ2 w2 H2 f2 ok2 r2 => k v σ2 w2 H2 (f'.trans f2) ok2 (r2.old f')
    | _ => exact k.elim
  · cases ef
theorem vsn_rt (h : VN X e f) : VSN X [.Return (some e) pos] (sRt f) := by
  refine weakSs (pss_one (ps_ret h)) fun E σ H q => ?_
  obtain ⟨w, ρ, o, ok, ef, k⟩ := q
  obtain ⟨⟨d, ρ1⟩, e1, e2⟩ := Option.map_eq_some_iff.mp ef
  cases e2
  exact ⟨w, ρ, d, ρ1, ok, e1, fun v w' H' f' ok' r' => k v σ w' H' f' ok' r'⟩
def boxOf : D → Option BoxC
  | .lst ds => (intsOf ds).map .nums
  | _ => none
def fnNB (n k : Nat) (body : FS) (ds : List D) : Option BoxC := if ds.length = n then match body (startE k ds) with
  | some (.rt d _) => boxOf d
  | _ => none
  else none
theorem fnNB_len {n k : Nat} {body : FS} : ∀ ds r, fnNB n k body ds = some r → ds.length = n := fun ds r h => by
  unfold fnNB at h
  split at h
  · assumption
  · cases h
section
variable {P : Program} {w : World} {K : PySem.W.Frag} {mg : Str → Option Value} {base : Heap}
theorem GD.vcalNB {x : Str} {st : Stmt} {N ps : List Str} {k n kk : Nat} {body : FS} (G : GD K mg x st ps) (S : FnScope N ps (defScope st)) (hn : ps.length = n) (hkk : N.length = kk)
    (hbody : ∀ (f : Addr) (cdv : Value) (A : Around) (outer : List Env) (s : Shared) (H : Hp) (E : XK), Room k (A.deeper (envOfC x (defScope st) s.heap.objs.size f cdv)) →
      VSN (cxOf CX0 P w K mg base N x (defScope st) f cdv A outer s H E).nox (defBody st) body) : Cal P w K mg base (k + 1) x (spNB K n (fnNB n kk body)) [] := by
  subst hkk
  refine G.cal S (fun vs H Q E h => ?_) fun f cdv A outer s H vs Q E hr h => ⟨_, hbody f cdv A outer s H E hr, ?_⟩
  · obtain ⟨hs, ds, r, s, rp, hl, _⟩ := h
    rw [rp.length, hl, hn]
  · obtain ⟨hs, ds, cb, sb, rp, hl, ef, kk⟩ := h
    unfold fnNB at ef
    rw [if_pos hl] at ef
    cases eb : body (startE N.length ds) with
    | none => rw [eb] at ef; cases ef
    | some o =>
      rw [eb] at ef
      cases o with
      | rt d ρ =>
        have gs := grow_same sb
        refine ⟨_, _, _, start_ok (grow_sub sb) grow_tup (rp.mono (.of gs)), eb, fun v σ' w' H' f' ok' r' => ?_⟩
        have same : Same H H' := fun a o q => (f'.kp a o q rfl).1
        cases r' with
        | @lst b xs ds h0 hn hs hH hl' hr' =>
          obtain ⟨ns, h1, h2⟩ := Option.map_eq_some_iff.mp (show (intsOf ds).map BoxC.nums = some cb from ef)
          subst h2
          rw [ints_rep hr' h1] at hH
          exact kk b [b] H' same (fun a ha => by rw [List.mem_singleton.mp ha]; exact h0) ⟨rfl, hH⟩
        | _ => cases ef
      | _ => cases ef
end
end
/-! ### calls by keywords -/
abbrev VKw (X : Cx) (kws : List Keyword) (f : FA) : Prop := PK X kws (tAs X.K f)
section
variable {X : Cx} {e : Expr} {es : List Expr} {kws : List Keyword} {f : FE} {ga gk : FA} {pos p kpos : Pos} {nm : Option Str} {x : Str} {k j n kk m : Nat} {ks : List Str} {is : List Nat} {body : FS}
theorem weakK {t t' : TA} (h : PK X kws t) (k : ∀ σ H Q, t' σ H Q → t σ H Q) : PK X kws t' := ⟨fun pos pins s σ H Q I q => h.run pos pins s σ H Q I (k σ H Q q)⟩
theorem vk_nil : VKw X [] aN := weakK pk_nil fun σ H Q q => by
  obtain ⟨w, ρ, ds, ρ', ok, ef, k⟩ := q
  cases ef
  exact k [] w H (.refl _ _) ok .nil
theorem vk_cons (ha : VE X e f) (hr : VKw X kws ga) : VKw X (⟨nm, e, kpos⟩ :: kws) (aC f ga) := by
  refine weakK (pk_cons ha hr) fun σ H Q q => ?_
  obtain ⟨w, ρ, ds, ρ', ok, ef, k⟩ := q
  obtain ⟨⟨x, ρ1⟩, e1, e2⟩ := Option.bind_eq_some_iff.mp ef
  obtain ⟨⟨xs, ρ2⟩, e3, e4⟩ := Option.map_eq_some_iff.mp e2
  cases e4
  refine ⟨w, ρ, x, ρ1, ok, e1, fun v w1 H1 f1 ok1 r1 => ⟨w1, ρ1, xs, _, ok1, e3, fun vs w2 H2 f2 ok2 r2 => ?_⟩⟩
  exact k (v :: vs) w2 H2 (f1.trans f2) ok2 (.cons (r1.mono (.of f2.sh)) r2)
theorem RepAll.getO {K : PySem.W.Frag} {H : Hp} {vs : List V} {ds : List D} (r : RepAll K H vs ds) (i : Nat) : (vs[i]? = none ∧ ds[i]? = none) ∨ ∃ v d, vs[i]? = some v ∧ ds[i]? = some d ∧ Rep K H v d := by
  cases h : vs[i]? with
  | none =>
    refine .inl ⟨rfl, ?_⟩
    rw [List.getElem?_eq_none_iff] at h ⊢
    rw [← r.length]; exact h
  | some v =>
    obtain ⟨d, h1, h2⟩ := r.get i h
    exact .inr ⟨v, d, rfl, h1, h2⟩
theorem RepAll.perm {K : PySem.W.Frag} {H : Hp} {vs : List V} {ds : List D} (r : RepAll K H vs ds) : ∀ is : List Nat, RepAll K H (permL is vs) (permL is ds)
  | [] => .nil
  | i :: is => by
    unfold permL
    rw [List.filterMap_cons, List.filterMap_cons]
    rcases r.getO i with ⟨h1, h2⟩ | ⟨v, d, h1, h2, h3⟩
    · rw [h1, h2]; exact RepAll.perm r is
    · rw [h1, h2]; exact .cons h3 (RepAll.perm r is)
/-- the values by keywords, put in order -/
def kwD (m : Nat) (is : List Nat) (fn : List D → Option D) (ds : List D) : Option D := if ds.length = m then fn (permL is ds) else none
theorem ve_callK0 (c : CalK X.prog X.w X.K X.mg X.base k x 0 ks is (spF X.K n (fnD n kk body))) (hr : Room j X.A) (hk : k ≤ j) (hg : Gl X x) (hm : ks.length = m) (hkw : VKw X kws gk)
    (hall : (backToKw pos (keywordEach kws X.env)).all (·.1.isSome) = true := by rfl) (hks : (backToKw pos (keywordEach kws X.env)).filterMap (·.1) = ks := by rfl) (hdb : (x == ("__debug__" : Str)) = false := by decide)
    (hpl : ((backTo pos (starEach [] X.env)).any (·.1) || (backToKw pos (keywordEach kws X.env)).any (·.1.isNone)) = false := by rfl) :
    VE X (.Call (.Name x p) [] kws pos) (fAp (kwD m is (fnD n kk body)) gk) := by
  subst hm
  refine weakE (pe_cK0 c hr hk hg hkw hall hks hdb hpl) fun σ H Q q => ?_
  obtain ⟨w, ρ, z, ρ', ok, ef, kk⟩ := q
  obtain ⟨⟨ds, ρ1⟩, e1, e2⟩ := Option.bind_eq_some_iff.mp ef
  obtain ⟨d2, e3, e4⟩ := Option.map_eq_some_iff.mp e2
  cases e4
  unfold kwD at e3
  split at e3
  case isFalse => cases e3
  rename_i hl
  exact ⟨w, ρ, ds, ρ1, ok, e1, fun vs w1 H1 f1 ok1 r1 => ⟨by rw [r1.length]; exact hl, call_ok ok1 (r1.perm is) (fnD_len e3) e3 fun v' w' H' f' ok' r' => kk v' w' H' (f1.trans f') ok' r'⟩⟩
end
section
variable {P : Program} {w : World} {K : PySem.W.Frag} {mg : Str → Option Value} {base : Heap}
theorem GDK.vcalK {x : Str} {st : Stmt} {N ps ks : List Str} {k n kk m : Nat} {is : List Nat} {body : FS} (G : GDK K mg x st ps m ks is) (S : FnScope N ps (defScope st)) (hn : ps.length = n) (hkk : N.length = kk)
    (hbody : ∀ (f : Addr) (cdv : Value) (A : Around) (outer : List Env) (s : Shared) (H : Hp) (E : XK), Room k (A.deeper (envOfC x (defScope st) s.heap.objs.size f cdv)) →
      VSs (cxOf CX0 P w K mg base N x (defScope st) f cdv A outer s H E).nox (defBody st) body) : CalK P w K mg base (k + 1) x m ks is (spF K n (fnD n kk body)) := by
  subst hkk
  refine G.calK S (fun vs H Q E h => ?_) fun f cdv A outer s H vs Q E hr h => ⟨_, hbody f cdv A outer s H E hr, body_ok h⟩
  obtain ⟨hs, ds, r, s, tp, rp, hl, _⟩ := h
  rw [rp.length, hl, hn]
end
/-! ### x = [a, b]; x[1].append(c) -/
section
variable {X : Cx} {a b c : Expr} {f g h : FE} {pos p pos2 pos3 pos4 p2 p3 apos : Pos} {i : Nat} {x : Str} {rest : List Stmt} {s2 : FS}
def sNest (i : Nat) (f g h : FE) : FS := fun ρ => (f ρ).bind fun q => (g q.2).bind fun r => match r.1 with
  | .lst ys => if i < r.2.length then (h (r.2.set i .u)).bind fun t => if ys.length < sizeLine then some (.nx (t.2.set i (Sl.o (.lst [q.1, .lst (ys ++ [t.1])])))) else none else none
  | _ => none
theorem EnvOk.setU {K : PySem.W.Frag} {w : Wd} {ρ : En} {σ : L2.St} {H : Hp} {v : Option V} {i : Nat} (e : EnvOk K w ρ σ H) : EnvOk K w (ρ.set i .u) (σ.set i v) H where
  tups := e.tups
  sub := e.sub
  disj := e.disj
  live := e.live
  len := by rw [List.length_set, List.length_set]; exact e.len
  sh := fun j d' q => by
    by_cases z : i = j
    · subst z
      by_cases hl : i < ρ.length
      · rw [List.getElem?_set_self hl] at q
        injection q with q; cases q
      · rw [List.getElem?_eq_none (by rw [List.length_set]; omega)] at q; cases q
    · rw [List.getElem?_set_ne z] at q
      obtain ⟨v', h1, h2⟩ := e.sh j d' q
      exact ⟨v', by rw [List.getElem?_set_ne z]; exact h1, h2⟩
  ow := fun j d' q => by
    by_cases z : i = j
    · subst z
      by_cases hl : i < ρ.length
      · rw [List.getElem?_set_self hl] at q
        injection q with q; cases q
      · rw [List.getElem?_eq_none (by rw [List.length_set]; omega)] at q; cases q
    · rw [List.getElem?_set_ne z] at q
      obtain ⟨v', h1, h2⟩ := e.ow j d' q
      exact ⟨v', by rw [List.getElem?_set_ne z]; exact h1, h2⟩
theorem vs_nest {px : Pos} {j1 : Nat} (hN : X.N.Nodup) (hi : X.N[i]? = some x) (hx : Loc X.env.scope x) (hv : PE X (.Name x p3) (tVar i)) (ha : VE X a f) (hb : VN X b g) (hc : VE X c h) (hr : VSs X rest s2)
    (hs : swapsWith (.List [a, b] p) (some (.Name x px)) pos.line X.env = pure false := by rfl) (hf : X.fn x = true ∨ X.env.scope.names.lookup x = some .local := by first | exact .inl rfl | exact .inr rfl | assumption)
    (s1 : starEach [a, b] X.env = (false, eval a X.env) :: starEach [b] X.env := by rfl) (s2' : starEach [b] X.env = (false, eval b X.env) :: starEach [] X.env := by rfl)
    (hbase : attributeBase (.Subscript (.Name x p3) (.Constant (.int 1) j1 p2) pos3) "append" X.env (eval (.Subscript (.Name x p3) (.Constant (.int 1) j1 p2) pos3) X.env) = eval (.Subscript (.Name x p3) (.Constant (.int 1) j1 p2) pos3) X.env := by rfl)
    (hfew : ((backTo pos2 (starEach [c] X.env)).all (fun x => !x.1) && (backToKw pos2 (keywordEach [] X.env)).all (fun x => x.1.isSome)
      && decide (([c] : List Expr).length + ([] : List Keyword).length + (if ([] : List Keyword).isEmpty then 0 else 1) < 30)) = true := by rfl)
    (hline : (apos.endLine == pos2.line) = true := by rfl) (s3 : starEach [c] X.env = (false, eval c X.env) :: starEach [] X.env := by rfl) (hpl : (backTo pos2 (starEach [] X.env)).any (·.1) = false := by rfl)
    (he : swapsWith (.Call (.Attribute (.Subscript (.Name x p3) (.Constant (.int 1) j1 p2) pos3) "append" apos) [c] [] pos2) none pos4.line X.env = pure false := by rfl) :
    VSs X (.Assign [.Name x px] (.List [a, b] p) pos :: .Expr (.Call (.Attribute (.Subscript (.Name x p3) (.Constant (.int 1) j1 p2) pos3) "append" apos) [c] [] pos2) pos4 :: rest) (sSeq (sNest i f g h) s2) := by
  refine weakSs (pss_cons (ps_set hN hi hx (pe_lst (pa_cons ha (pa_cons hb pa_nil s2') s1)) hs hf) (pss_cons (ps_expr (pe_bm PySem.F.plainAttrs_list PySem.F.slot_list_append PySem.F.type_list_append mt_append (pe_ix ix_list hv pe_int (fun _ _ => rfl)) (pa_cons hc pa_nil s3) hbase hfew hline s3 hpl) he) hr)) fun E σ H q => ?_
  obtain ⟨w, ρ, o, ok, ef, k⟩ := q
  unfold sSeq at ef
  have e0 : ∃ ρ4, sNest i f g h ρ = some (.nx ρ4) ∧ s2 ρ4 = some o := by
    split at ef
    · rename_i ρ4 e; exact ⟨ρ4, e, ef⟩
    · rename_i hne
      unfold sNest at ef
      obtain ⟨q, h1, h2⟩ := Option.bind_eq_some_iff.mp ef
      obtain ⟨r, h3, h4⟩ := Option.bind_eq_some_iff.mp h2
      split at h4
      · split at h4
        · obtain ⟨t, h5, h6⟩ := Option.bind_eq_some_iff.mp h4
          split at h6
          · cases h6; exact absurd ef (hne _)
          · cases h6
        · cases h4
      · cases h4
  obtain ⟨ρ4, en, e2⟩ := e0
  unfold sNest at en
  obtain ⟨⟨da, ρ1⟩, h1, h2⟩ := Option.bind_eq_some_iff.mp en
  obtain ⟨⟨dl, ρ2⟩, h3, h4⟩ := Option.bind_eq_some_iff.mp h2
  split at h4
  case h_2 => cases h4
  rename_i ys ey
  have ey' : dl = .lst ys := ey
  subst ey'
  split at h4
  case isFalse => cases h4
  rename_i hil
  obtain ⟨⟨dc, ρ3⟩, h5, h6⟩ := Option.bind_eq_some_iff.mp h4
  split at h6
  case isFalse => cases h6
  rename_i hys
  cases h6
  refine ⟨w, ρ, da, ρ1, ok, h1, fun v0 w1 H1 f1 ok1 r1 => ⟨w1, ρ1, _, ρ2, ok1, h3, fun v1 w2 H2 f2 ok2 r2 => ⟨by show 2 ≤ sizeLine; decide, fun q hq => ?_⟩⟩⟩
  cases r2 with
  | @lst b1 xs _ b0 bn bs bH bl br =>
  have hl : i < σ.length := by rw [← ok2.len]; exact hil
  obtain ⟨f3, ok3⟩ := ok2.tmp (o := .lst [v0, .ref b1]) hq (fun _ z => nomatch z)
  have q1 : w2.own q = none ∧ w2.hs q = none := ⟨(ok2.free hq).2, (ok2.free hq).1⟩
  have nqb : b1 ≠ q := ne_of_none bH hq
  have hb3 : upd H2 q (.lst [v0, .ref b1]) b1 = some (.lst xs) := by rw [upd_ne nqb]; exact bH
  refine ⟨.ref q, by rw [List.getElem?_set_self hl], q, [v0, .ref b1], 1, .ref b1, rfl, rfl, SqL.of upd_same, rfl, ty_list (SqL.of hb3), w2, ρ2.set i .u, dc, ρ3, ok3.setU, h5, fun v2 w4 H4 f4 ok4 r4 => ?_⟩
  obtain ⟨hb4, bn4, bs4⟩ := f4.kp b1 _ hb3 bn
  obtain ⟨hq4, qn4, qs4⟩ := f4.kp q _ upd_same q1.1
  have hlen := br.length
  refine ⟨b1, xs, v2, rfl, rfl, hb4, by omega, ?_⟩
  have f14 := ((f1.trans f2).trans f3).trans f4
  have ok5 := ok4.chg (o' := .lst (xs ++ [v2])) hb4 bn4 (bs4 bs) (fun _ z => nomatch z)
  have hB : H b1 = none := f1.free b0
  have f5 := f14.chg (o := .lst (xs ++ [v2])) hB
  obtain ⟨f6, ok6, sm⟩ := ok5.share f5 hB bn4 (bs4 bs) upd_same
  have hQ : H q = none := (f1.trans f2).free hq
  have hq6 : upd H4 b1 (.lst (xs ++ [v2])) q = some (.lst [v0, .ref b1]) := by rw [upd_ne (Ne.symm nqb)]; exact hq4
  have rb : Rep X.K (upd w4.hs b1 (.lst (xs ++ [v2]))) (.ref b1) (.lst (ys ++ [dc])) := .lst (SqL.of upd_same) (by rw [List.length_append, List.length_singleton]; omega) (((br.mono (.of (f3.trans f4).sh)).append (.one r4)).mono (.of sm))
  have fr : Fresh X.K { w4 with hs := upd w4.hs b1 (.lst (xs ++ [v2])) } H (upd H4 b1 (.lst (xs ++ [v2]))) (.ref q) (.lst [da, .lst (ys ++ [dc])]) :=
    .lst hQ qn4 (by show upd w4.hs b1 _ q = none; rw [upd_ne (Ne.symm nqb)]; exact qs4 q1.2) hq6 (by show 2 ≤ sizeLine; decide) (.cons ((r1.mono (.of ((f2.trans f3).trans f4).sh)).mono (.of sm)) (.one rb))
  obtain ⟨w7, f7, ok7⟩ := fr.store i ok6 f6
  rw [List.set_set] at ok7
  exact ⟨w7, _, o, ok7, e2, k.fr f7⟩
end
end VS
set_option autoImplicit false
/-! an own exception class over ValueError, made by super().__init__(text); self.f = v -/
namespace AR
open PySem PySem.Spec PyProof.Rows L2
/-- the two statements of such an __init__ -/
abbrev xiBody (txt f pv : Str) (p0 p1 p2 p3 p4 p5 p6 p7 p8 p9 : Pos) (j : Nat) : List Stmt :=
  [.Expr (.Call (.Attribute (.Call (.Name "super" p0) [] [] p1) "__init__" p2) [.Constant (.str txt) j p3] [] p4) p5, .Assign [.Attribute (.Name "self" p6) f p7] (.Name pv p8) p9]
structure XiF (P : Program) (K : PySem.W.Frag) (C fI : Addr) (name qual : Str) (params : Arguments) (body : List Stmt) (scope : Scope) (fd : FuncData) (cda cc : Addr) : Prop where
  ex : ∃ (oc : Value) (od : Option Addr) (dV kV doc pm : Value) (an : Option Addr) (ct : Value) (osl : Array (Option Value)), fd = PySem.W.ksFn name qual params body scope dV kV doc pm an (.ref cda) ct cc ∧ K.lookup fI = some ⟨oc, od, .func fd, osl⟩
  cd : PySem.W.codeIn K (.ref cda) qual = true
  co : ∃ (ccl : Value) (cdd : Option Addr) (vs : Array Value) (ccs : Array (Option Value)) (file : Str) (tf : Tok), K.lookup cda = some ⟨ccl, cdd, .fields vs, ccs⟩ ∧ vs[2]? = some (.str file tf) ∧ ((P.main.file : Str) == file) = true
  ce : ∃ (cl : Value) (cld : Option Addr) (csl : Array (Option Value)), K.lookup cc = some ⟨cl, cld, .cell (some (.ref C)), csl⟩
abbrev veB : List Value := [.type "ValueError", .type "Exception", .type "BaseException", .type "object"]
structure XiC (K : PySem.W.Frag) (C : Addr) (f : Str) : Prop where
  ox : OexC K C
  ini : PySem.W.excInitIn K C veB "ValueError.__new__" = true
  sup : PySem.W.ks_superIn K C C "__init__" = some (some (.builtin "ValueError.__init__"))
  sub : PySem.W.subIn K (.ref C) (.type "ValueError") = some true
  slf : PySem.W.mroIn K C (.ref C) = some true
  no : PySem.W.findIn K (.ref C) f = some none
structure XiS (P : Program) (pv : Str) (params : Arguments) (scope : Scope) : Prop where
  kind : scope.kind = .function
  co : scope.isCoroutine = false
  gen : scope.isGenerator = false
  nocell : ∀ x ∈ scope.names, x.2 ≠ .cell
  sup : scope.names.lookup ("super" : Str) = some .globalImplicit
  cls : scope.names.lookup ("__class__" : Str) = some .free
  slf : scope.names.lookup ("self" : Str) = some .local
  arg : scope.names.lookup pv = some .local
  hd : ∃ ar : Arg, (params.posonlyargs ++ params.args).head? = some ar ∧ ar.arg = "self"
  top : (P.main.scope.names.lookup ("super" : Str)).isSome = false
  ne : pv ≠ "self"
/-- no class of the base is opaque -/
def NoOpq (base : Heap) : Prop := ∃ K2 : PySem.W.Frag, K2.In base ∧ PySem.W.nsIn K2 PySem.cStatics "thirdparty.any" = some none
section
open PySem.W PySem.Calls
variable {prog : Program} {w : World} {A : Around} {E : Value → Shared → Prop} {s : Shared} {h₀ : Heap} {L : Addr} {m : Str → Option Value} {news : List (Addr × Obj)} {K : Frag} {x C D so : Addr} {ox : Obj} {odx : Option Obj} {B i : String}
theorem kxs_method2 {name : Str} {pl : Sem Bool} {Q : Value × List Value → Shared → Prop} (KF : KxsFacts B i) (F : PyProof.Rows.Fr h₀ L s.heap m) (X₀ : K.In h₀) (N : News h₀ L s.heap news) (hso : (so, ks_superObj D x C) ∈ news) (I : InstAt s.heap x ox C odx) (hno : Looks (model prog w) s.heap (opaqueClassAbove (.ref C)) none)
    (hm : ks_superIn K C D name = some (some (.builtin i))) (hB : subIn K (.ref C) (.type B) = some true) (hn : (name == ("__class__" : Str)) = false)
    (h : ∀ q h', PyProof.Rows.Fr h₀ L h' m → News h₀ L h' ((q, kxs_mw i x) :: news) → (∀ p ∈ news, p.1 < q) → Q (.ref q, []) { s with heap := h', toks := s.toks + 1 }) : wpAny (model prog w) A (getMethod (.ref so) name pl) Q E s := by
  have X : K.In s.heap := X₀.keeps F.keep
  have hI : Looks (model prog w) s.heap (isInstance (.ref x) (.type B)) true := I.type.andThen (looks_subIn X hB)
  obtain ⟨hh, g, d, t, os⟩ := s
  cases hc : clsIn K C with
  | none => unfold ks_superIn at hm; rw [hc] at hm; cases hm
  | some cd =>
    unfold ks_superIn at hm
    rw [hc] at hm
    refine kxs_getMethod KF (N _ hso).1 hno (l₀ := cd.mro) ?_ rfl X hm hI (ks_ne X I hc) hn ?_
    · exact fun A Q E s k q => wpAny_bind ((looks_clsIn X hc) A _ E s k (wpAny_pure q))
    · obtain ⟨F', N', l'⟩ := ks_newsPush (s := ⟨hh, g, d, t, os⟩) (o := kxs_mw i x) F N rfl (Heap.get?_push_at rfl rfl) (fun b o e => Heap.get?_push_of_some _ e)
      exact h _ _ F' N' l'
end
section
variable {P : Program} {w : World} {K : PySem.W.Frag} {mg : Str → Option Value} {base : Heap} {A : Around} {outer : List Env} {s : Shared} {H : Hp} {C fI cda cc : Addr} {name qual txt f pv : Str} {params : Arguments} {scope : Scope} {fd : FuncData}
  {p0 p1 p2 p3 p4 p5 p6 p7 p8 p9 : Pos} {j : Nat} {R : Result → Shared → Prop}
theorem exc_init_run {e t0 : Addr} {u : Value} {args : Args} (e0 : Env0 P w K mg base A outer s H) (hr : A.depth < recursionLimit) (T : XiC K C f) (F : XiF P K C fI name qual params (xiBody txt f pv p0 p1 p2 p3 p4 p5 p6 p7 p8 p9 j) scope fd cda cc) (S : XiS P pv params scope)
    (hop : NoOpq base) (hsm : mg "super" = none) (he : s.heap.get? e = some (PySem.W.excObj C t0 none .none)) (hH : ∃ o, H e = some o) (hb : BindsTo s fd args [(("self" : Str), Value.ref e), (pv, u)]) (hdp : (pv == ("__debug__" : Str)) = false) {pl : Sem Bool}
    (hcall : ∀ env : Env, eval (.Call (.Attribute (.Call (.Name "super" p0) [] [] p1) "__init__" p2) [.Constant (.str txt) j p3] [] p4) env = (do
      let ov ← attributeBase (.Call (.Name "super" p0) [] [] p1) "__init__" env (eval (.Call (.Name "super" p0) [] [] p1) env)
      standAt p2.atName
      let (f, first) ← holding [ov] (getMethod ov "__init__" pl)
      callWith p4 f first (backTo p4 (starEach [.Constant (.str txt) j p3] env)) []))
    (hs1 : ∀ env : Env, swapsWith (.Call (.Attribute (.Call (.Name "super" p0) [] [] p1) "__init__" p2) [.Constant (.str txt) j p3] [] p4) none p5.line env = pure false)
    (hs2 : ∀ env : Env, swapsWith (.Name pv p8) (some (.Attribute (.Name "self" p6) f p7)) p9.line env = pure false)
    (hq : ∀ (h' : Heap) (tk : Nat) (t1 dx : Addr), (∀ b o, b ≠ e → s.heap.get? b = some o → h'.get? b = some o) → s.heap.objs.size ≤ dx → dx ≠ e →
      h'.get? e = some ({ cls := .ref C, dict := some dx, data := .fields #[.ref t1, .none, .none, .none, .bool false, .none] } : Obj) → h'.Ns1 dx (fun y => if y = f then some u else none) → R (.ok (.ret .none)) { s with heap := h', toks := tk }) :
    codeAny (model P w) A (.call (.ref fI) args) R s := by
  obtain ⟨oc, od, dV, kV, doc, pm, an, ct, osl, rfl, lk⟩ := F.ex
  have KX : K.In s.heap := e0.mod.kin.keeps fun b o q => (e0.bs b o q).1
  have lim : s.heap.NoLimit := e0.mod.nolimit.keeps fun b o q => (e0.bs b o q).1
  obtain ⟨ar, hhd, har⟩ := S.hd
  obtain ⟨K2, hK2, hnK2⟩ := hop
  obtain ⟨ccl, cdd, vs, ccs, file, tf, lkc, hvs, hfile⟩ := F.co
  obtain ⟨cl, cld, csl, lke⟩ := F.ce
  obtain ⟨oH, hoH⟩ := hH
  obtain ⟨nm, q, N, bs, bm, sn, sub, ab, col, dd, k0, k1, k2, k3, k5, hC, hbm⟩ := T.ox.cls
  have hcl : PySem.W.clsIn K C = some { name := nm, bases := bs, mro := .ref C :: bm, ns := N, qualname := q, hasDict := true, slotNames := sn, subclasses := sub, abstract := ab, collection := col, hasDel := false } := by unfold PySem.W.clsIn; rw [hC] <;> rfl
  have Kne : ∀ {b : Addr} {o : Obj}, K.lookup b = some o → b ≠ e := fun {b o} q z => by
    have := (e0.bs b o (e0.mod.kin _ _ q)).2
    rw [z, hoH] at this; cases this
  have gk : ∀ {b : Addr} {o : Obj}, s.heap.get? b = some o → b ≠ e → (PySem.W.hideAll s.heap [e]).get? b = some o := fun {b o} q n => PySem.W.hideAll_get [e] q (by simpa using n)
  have Xg : K.In (PySem.W.hideAll s.heap [e]) := fun b o q => gk (KX b o q) (Kne q)
  refine PySem.ks_codeAny_call_defAt hr (KX _ _ lk) rfl lim (PySem.W.codeRec_of KX F.cd) rfl hb S.nocell (fun x hx => ?_) (fun h1 hns hk1 => ?_) S.co S.gen S.kind
  · rcases List.mem_cons.mp hx with rfl | hx
    · exact S.slf
    · rw [List.mem_singleton.mp hx]; exact S.arg
  have F1 : Fr (PySem.W.hideAll s.heap [e]) s.heap.objs.size h1 (fun x => ([(("self" : Str), Value.ref e), (pv, u)] : List (Str × Value)).reverse.lookup x) := ⟨hns, fun b o q => hk1 b o (PySem.W.of_hideAll _ q), Nat.le_of_eq (PySem.W.hideAll_size _ _)⟩
  have N1 : News (PySem.W.hideAll s.heap [e]) s.heap.objs.size h1 [(e, PySem.W.excObj C t0 none .none)] := fun p hp => by
    rw [List.mem_singleton.mp hp]
    exact ⟨hk1 _ _ he, Nat.ne_of_lt (Heap.lt_size he), PySem.W.hideAll_none _ (List.mem_singleton_self e)⟩
  have KX1 : K.In h1 := fun b o q => hk1 b o (KX b o q)
  obtain ⟨mb, hb1, hb2⟩ := e0.mod.blt
  have gl1 : h1.Ns mainGlobals mg := e0.mod.glob.keeps fun b o q => hk1 b o (e0.bs b o q).1
  have bl1 : h1.Ns builtinsNs mb := hb1.keeps fun b o q => hk1 b o (e0.bs b o q).1
  have mSelf : ([(("self" : Str), Value.ref e), (pv, u)] : List (Str × Value)).reverse.lookup ("self" : Str) = some (.ref e) := by
    have : ((("self" : Str)) == pv) = false := by simpa using fun z : ("self" : Str) = pv => S.ne z.symm
    simp [List.lookup, this]
  have mArg : ([(("self" : Str), Value.ref e), (pv, u)] : List (Str × Value)).reverse.lookup pv = some u := by simp [List.lookup]
  have hint : interactive (callEnv (PySem.W.ksFn name qual params (xiBody txt f pv p0 p1 p2 p3 p4 p5 p6 p7 p8 p9 j) scope dV kV doc pm an (.ref cda) ct cc) s.heap.objs.size fI) = false := by
    unfold interactive
    have : (callEnv (PySem.W.ksFn name qual params (xiBody txt f pv p0 p1 p2 p3 p4 p5 p6 p7 p8 p9 j) scope dV kV doc pm an (.ref cda) ct cc) s.heap.objs.size fI).scope.kind = .function := S.kind
    rw [this]; rfl
  refine ks_wpAt_execs_cons (ks_wpAt_Expr_any (ks_wpAt_MethodCall (pl := pl) ?_ (hcall _)) hint (hs1 _))
  refine ks_wpAt_super_base (fd := PySem.W.ksFn name qual params (xiBody txt f pv p0 p1 p2 p3 p4 p5 p6 p7 p8 p9 j) scope dV kV doc pm an (.ref cda) ct cc) (ar := ar) S.sup S.cls (by decide) rfl (KX1 _ _ lk) rfl hhd rfl (KX1 _ _ lkc) rfl hvs hfile S.top ?_
  refine PySem.W.ks_loadName_global S.kind S.sup (PySem.Calls.loadGlobal_builtin gl1 hsm bl1 ((hb2 _ (by decide)).trans PyProof.Rows.Boot.«super») ⟨rfl, ?_⟩)
  refine wpAny_loadName_free S.kind S.cls rfl ⟨_, KX1 _ _ lke, rfl⟩ ?_
  rw [har]
  refine wpAny_loadName_local S.kind S.slf hns mSelf ?_
  refine ks_wpAny_isType_cls (KX1 _ _ hC) rfl ⟨rfl, ?_⟩
  refine ks_wpAny_call_super (KX1 _ _ hC) rfl (hk1 _ _ he) rfl (fun c z => by cases z) (PySem.W.looks_mroIn KX1 T.slf) (fun h2 e2 k2 => ?_)
  obtain ⟨F2, N2, l2⟩ := PySem.W.ks_newsPush (s := ⟨h1, s.gens, s.drawn, s.toks, s.os⟩) F1 N1 rfl e2 k2
  refine kxs_method2 PySem.W.kxs_ValueError F2 Xg N2 List.mem_cons_self (PySem.W.InstAt.of_exc0 N2 (List.mem_cons_of_mem _ (List.mem_singleton_self _))) (PySem.W.looks_opaque (hK2.keeps fun b o q => k2 b o (hk1 b o (e0.bs b o q).1)) hnK2) T.sup T.sub (by decide) (fun q3 h3 F3 N3 l3 => ?_)
  have m3 : (e, PySem.W.excObj C t0 none .none) ∈ ([(h1.objs.size, PySem.W.ks_superObj C e C), (e, PySem.W.excObj C t0 none .none)] : List (Addr × Obj)) := List.mem_cons_of_mem _ (List.mem_singleton_self _)
  have n1 : h1.objs.size ≠ e := Nat.ne_of_gt (l2 _ (List.mem_singleton_self _))
  have n3 : q3 ≠ e := Nat.ne_of_gt (l3 _ m3)
  refine PySem.W.kxs_callWith1 N3 List.mem_cons_self (PySem.Calls.spliced_cons (wpAny_Constant_str (k := j) (pos := p3) (PySem.Calls.spliced_nil ⟨PySem.W.kxs_at N3 List.mem_cons_self, ?_⟩)))
  refine PySem.W.kxs_call F3 Xg N3 PySem.F.excBase_ValueError T.ini List.mem_cons_self (.tail n3 (.tail n1 (.head (fun p hp => nomatch hp)))) (by rw [sizeLine_eq]; show (1 : Nat) ≤ _; omega) (fun t4 h4 F4 N4 l4 => ?_)
  refine ks_wpAt_execs_cons (wpAt_of_wpAny (plainObj_wpAny_Assign_Attribute ?_ (hs2 _)))
  refine wpAny_Name (wpAny_loadName_local S.kind S.arg F4.ns mArg ?_) hdp
  refine wpAny_Name (wpAny_loadName_local S.kind S.slf F4.ns mSelf ?_) (by decide)
  have e4 : h4.get? e = some (PySem.W.excObj C t4 none .none) := (N4 (e, PySem.W.excObj C t4 none .none) (by simp)).1
  have K4 : K.In h4 := Xg.keeps F4.keep
  refine PySem.W.set_plain K4 (ox := PySem.W.excObj C t4 none .none) (od := none) ⟨e4, rfl, rfl, trivial⟩ T.ox.sa ?_
  refine PySem.HandSPX.exc_osa K4 e4 hcl (show PySem.HandSPX.refsVE (.ref C :: bm) = true from hbm) rfl T.no (fun h5 tk5 dx k5 dn dne hx hn => ?_)
  refine wpAt_of_wpAny (wpAny_pure ?_)
  refine hq h5 tk5 t4 dx (fun b o n z => k5 b o n (F4.keep b o (gk z n))) ?_ dne hx hn
  have hsz : s.heap.objs.size ≤ h4.objs.size := by
    obtain ⟨oL, _, _, hL, _⟩ := F4.ns
    exact Nat.le_of_lt (Heap.lt_size hL)
  exact Nat.le_trans hsz dn
/-- what such an __init__ promises -/
def spXi (C : Addr) (f : Str) : Sp := fun vs H Q _ => ∃ (a : Addr) (y : V), vs = [V.ref a, y] ∧ H a = some (exo a C none) ∧ ∀ dx, H dx = none → dx ≠ a → Q .non (upd (upd H dx (exd dx [(f, y)])) a (exo a C (some dx)))
theorem exc_init_fn {CX : CXT} {k : Nat} (T : XiC K C f) (F : XiF P K C fI name qual params (xiBody txt f pv p0 p1 p2 p3 p4 p5 p6 p7 p8 p9 j) scope fd cda cc) (S : XiS P pv params scope)
    (hop : NoOpq base) (hsm : mg "super" = none) (hdp : (pv == ("__debug__" : Str)) = false) {pl : Sem Bool}
    (hcall : ∀ env : Env, eval (.Call (.Attribute (.Call (.Name "super" p0) [] [] p1) "__init__" p2) [.Constant (.str txt) j p3] [] p4) env = (do
      let ov ← attributeBase (.Call (.Name "super" p0) [] [] p1) "__init__" env (eval (.Call (.Name "super" p0) [] [] p1) env)
      standAt p2.atName
      let (f, first) ← holding [ov] (getMethod ov "__init__" pl)
      callWith p4 f first (backTo p4 (starEach [.Constant (.str txt) j p3] env)) []))
    (hs1 : ∀ env : Env, swapsWith (.Call (.Attribute (.Call (.Name "super" p0) [] [] p1) "__init__" p2) [.Constant (.str txt) j p3] [] p4) none p5.line env = pure false)
    (hs2 : ∀ env : Env, swapsWith (.Name pv p8) (some (.Attribute (.Name "self" p6) f p7)) p9.line env = pure false) :
    FnOk P w K mg base CX k fI fd ["self", pv] (spXi C f) := by
  refine ⟨fun vs H Q E h => by obtain ⟨a, y, rfl, _⟩ := h; rfl, fun A outer s H args us vs Q E hr e0 hb r hsp => ?_⟩
  obtain ⟨a, y, rfl, ea, hq⟩ := hsp
  obtain ⟨u0, u, rfl, r0, ry⟩ := vals2 r
  obtain rfl : u0 = Value.ref a := r0
  obtain ⟨t0, he⟩ := exo_at e0.hok ea
  refine exc_init_run e0 hr.depth T F S hop hsm he ⟨_, ea⟩ hb hdp hcall hs1 hs2 (fun h' tk t1 dx k dn dne hx hn => ?_)
  have hnd : H dx = none := e0.hok.fresh dn
  have nd : ∀ {b : Addr} {o : Obj}, s.heap.get? b = some o → b ≠ dx := fun {b o} q => Nat.ne_of_lt (Nat.lt_of_lt_of_le (Heap.lt_size q) dn)
  have na : ∀ {b : Addr}, H b = none → b ≠ a := fun {b} n z => by
    rw [z, ea] at n
    cases n
  have Un1 : Un (frs outer) [] H (upd (upd H dx (exd dx [(f, y)])) a (exo a C (some dx))) s.heap h' := {
    keep := fun b o q n _ _ => k b o (na n) q
    slot := fun b o q n _ _ => ⟨o.slots, k b o (na n) q⟩
    free := fun b o q n _ => by rw [upd_ne (na n), upd_ne (nd q)]; exact n
    there := fun b o q _ => by
      by_cases hb : b = a
      · exact ⟨_, by rw [hb]; exact hx⟩
      · exact ⟨o, k b o hb q⟩
    tups := fun b xs q => by rw [upd_ne (at_ne ea q exo_tup), upd_ne (ne_of_none q hnd)]; exact q
    frzs := fun b o v q => by rw [upd_ne (at_ne ea q exo_frz), upd_ne (ne_of_none q hnd)]; exact q
    tbls := fun b ps q => ⟨#[], by rw [upd_ne (at_ne ea q exo_tbl), upd_ne (ne_of_none q hnd), q]; simp⟩ }
  refine ⟨.non, _, rfl, e0.bare, Un1, fun b o q => ?_, rfl, hq dx hnd dne⟩
  by_cases hb : b = a
  · subst hb
    rw [upd_same] at q
    cases q
    exact exo_ok hx
  · rw [upd_ne hb] at q
    by_cases hd : b = dx
    · subst hd
      rw [upd_same] at q
      cases q
      exact exd_ok hn (relO_put (fs := []) ry fun g => True.intro)
    · rw [upd_ne hd] at q
      exact (e0.hok b o q).stay (fun c v hc z => k c v (by
          rcases hc with hc | hc
          · rw [hc]
            exact hb
          · exact at_ne ea hc exo_own) z)
        (fun c hc => by rw [upd_ne (at_ne ea hc exo_own), upd_ne (ne_of_none hc hnd)]; exact hc) (fun c xs hc => by rw [upd_ne (at_ne ea hc exo_tup), upd_ne (ne_of_none hc hnd)]; exact hc)
end
end AR
set_option autoImplicit false
/-! own exceptions: raised by a def, caught by another -/
namespace VS
open PySem PySem.Spec PyProof.Rows L2 AR
open C8 (Cal Met Mak)
/-- an exception: its class, its field, what stands there -/
abbrev Xc := Str × Str × D
abbrev FSX := En → Option (Out ⊕ Xc)
section
variable (K : PySem.W.Frag)
def ExOk (w : Wd) (H : Hp) (W : WX) (σ : L2.St) (x : Xc) : Prop := ∀ w' H' dd y, Fr w H w' H' → (∃ ρ', EnvOk K w' ρ' σ H') → H' dd = some (.xd [(x.2.1, y)]) → H dd = none → w'.own dd = none → w'.hs dd = none → Rep K w'.hs y x.2.2 → W (.ref (He.ga K x.1)) (some dd) σ H'
def OutX (w : Wd) (H : Hp) (W : WX) (E : Ends) : Out ⊕ Xc → Prop
  | .inl o => OutOk K w H E o
  | .inr x => ∀ σ, ExOk K w H W σ x
def tStX (W : WX) (f : FSX) : TS := fun E σ H => ∃ w ρ r, EnvOk K w ρ σ H ∧ f ρ = some r ∧ OutX K w H W E r
end
abbrev VSX (X : Cx) (W : WX) (st : List Stmt) (f : FSX) : Prop := PSs X st (tStX X.K W f)
section
variable {X : Cx} {W : WX} {st rest : List Stmt} {e c : Expr} {f : FS} {fx fr f2 : FSX} {g : FE} {ca : FT} {pos pos' p : Pos}
theorem vsx_of (h : VSs X.nox st f) : VSX X W st (fun ρ => (f ρ).map .inl) := by
  refine weakSs (PSs.nox h) fun E σ H q => ?_
  obtain ⟨w, ρ, r, ok, ef, k⟩ := q
  obtain ⟨o, e1, e2⟩ := Option.map_eq_some_iff.mp ef
  subst e2
  exact ⟨w, ρ, o, ok, e1, k⟩
theorem Fr.none {w w' : Wd} {H H' : Hp} {a : Addr} (f : Fr w H w' H') (h : H' a = Option.none) : H a = Option.none := by
  cases q : H a with
  | none => rfl
  | some o =>
    obtain ⟨o', z⟩ := f.lv a o q
    rw [h] at z; cases z
/-- a thing that nobody has, laid -/
theorem EnvOk.lay {K : PySem.W.Frag} {w : Wd} {ρ : En} {σ : L2.St} {H : Hp} {p : Addr} {o : HO} (e : EnvOk K w ρ σ H) (h : H p = none) (nt : NT o) : EnvOk K w ρ σ (upd H p o) := by
  obtain ⟨z1, z2⟩ := e.free h
  refine e.keep (Same.refl _) (fun a u q => ?_) rfl ⟨rfl, rfl⟩ e.disj (fun a i q => ?_) fun a xs q => ?_
  · have ne : a ≠ p := fun z => by subst z; rw [z1] at q; cases q
    rcases e.sub a u q with q' | ⟨n, ob, q'⟩
    · exact .inl (by rw [upd_ne ne]; exact q')
    · exact .inr ⟨n, ob, by rw [upd_ne ne]; exact q'⟩
  · have ne : a ≠ p := fun z => by subst z; rw [z2] at q; cases q
    exact upd_ne ne
  · by_cases z : a = p
    · subst z; rw [upd_same] at q; cases q; exact absurd rfl (nt xs)
    · rw [upd_ne z] at q; exact e.tups a xs q
/-- an own exception class: its address is the name's, made by its own __init__ -/
structure XMk (P : Program) (w : World) (K : PySem.W.Frag) (mg : Str → Option Value) (base : Heap) (k : Nat) (x f : Str) : Prop where
  ex : ∃ (fI : Addr) (fd : FuncData) (ps : List Str), OexC K (He.ga K x) ∧ PySem.W.findIn K (.ref (He.ga K x)) "__init__" = some (some (.ref fI)) ∧ PySem.W.typeIn K (.ref fI) = some (.type "function") ∧
    FnOk P w K mg base C8.CX0 k fI fd ps (spXi (He.ga K x) f) ∧ Binds K fd ps [] ∧ mg x = some (.ref (He.ga K x))
def sRs (x f : Str) (g : FE) : FSX := fun ρ => (g ρ).map fun p => .inr (x, f, p.1)
theorem vsx_raise {x fl : Str} {k j : Nat} (m : XMk X.prog X.w X.K X.mg X.base k x fl) (hr : Room j X.A) (hk : k + 1 ≤ j) (hg : Gl X x) (hc : X.calm = true) (tk : Takes X W) (he : PE X e (tV X.K g))
    (hdb : (x == ("__debug__" : Str)) = false := by decide) (hst : starEach [e] X.env = (false, eval e X.env) :: starEach [] X.env := by rfl) (hpl : (backTo pos (starEach [] X.env)).any (·.1) = false := by rfl) :
    VSX X W [.Raise (some (.Call (.Name x p) [e] [] pos)) none pos'] (sRs x fl g) := by
  obtain ⟨fI, fd, ps, T, iC, tI, F, b, hm⟩ := m.ex
  refine weakSs (pss_one (L2.ps_raise hc tk (pmk_oex (dvs := []) (ds := []) T iC tI F (hr.mono hk) b .nil C8.pass0 hg hm (pa_cons he pa_nil hst) hdb hst hpl))) fun E σ H q => ?_
  obtain ⟨w, ρ, r, ok, ef, kk⟩ := q
  obtain ⟨⟨d, ρ1⟩, e1, e2⟩ := Option.map_eq_some_iff.mp ef
  subst e2
  refine ⟨w, ρ, d, ρ1, ok, e1, fun v w1 H1 f1 ok1 r1 => ⟨by show (1 : Nat) ≤ 1000; omega, fun a ha => ?_⟩⟩
  refine ⟨a, v, rfl, upd_same, fun dx hdx dne => ?_⟩
  have hd1 : H1 dx = none := by rw [upd_ne dne] at hdx; exact hdx
  refine ⟨rfl, dx, [(fl, v)], upd_same, by rw [upd_ne dne, upd_same], hd1, ?_⟩
  have eh : upd (del (upd (upd (upd H1 a (exo a (He.ga X.K x) none)) dx (exd dx [(fl, v)])) a (exo a (He.ga X.K x) (some dx))) a) dx (.xd [(fl, v)]) = upd H1 dx (.xd [(fl, v)]) := by
    funext b
    by_cases hb : b = dx
    · subst hb; rw [upd_same, upd_same]
    · rw [upd_ne hb, upd_ne hb]
      by_cases hba : b = a
      · subst hba; rw [del_same, ha]
      · rw [del_ne hba, upd_ne hba, upd_ne hb, upd_ne hba]
  rw [eh]
  obtain ⟨z1, z2⟩ := ok1.free hd1
  exact kk σ w1 _ dx v (f1.trans ((Fr.refl w1 H1).chg hd1)) ⟨ρ1, ok1.lay hd1 (fun xs z => by cases z)⟩ upd_same (Fr.none f1 hd1) z2 z1 r1
/-- if c: raise ..; the rest -/
def sIfX (ca : FT) (fr f2 : FSX) : FSX := fun ρ => (ca ρ).bind fun p => if p.1 then (match fr p.2 with | some (.inr x) => some (.inr x) | _ => none) else f2 p.2
theorem vsx_ifr {a : List Stmt} (hc : PT X c (tTb X.K ca)) (ha : VSX X W a fr) (hb : VSX X W rest f2) : VSX X W (.If c a [] pos :: rest) (sIfX ca fr f2) := by
  refine weakSs (pss_cons (ps_if hc ha pss_nil) hb) fun E σ H q => ?_
  obtain ⟨w, ρ, r, ok, ef, k⟩ := q
  obtain ⟨⟨x, ρ1⟩, e1, e2⟩ := Option.bind_eq_some_iff.mp ef
  refine ⟨w, ρ, x, ρ1, ok, e1, fun w1 H1 f1 ok1 => ?_⟩
  cases x with
  | true =>
    replace e2 : (match fr ρ1 with | some (.inr x) => some (.inr x) | _ => none) = some r := e2
    split at e2
    · rename_i y e3
      cases e2
      exact ⟨w1, ρ1, .inr y, ok1, e3, fun σ w' H' dd yy f' ho hx hn => k σ w' H' dd yy (f1.trans f') ho hx (Fr.none f1 hn)⟩
    · cases e2
  | false =>
    replace e2 : f2 ρ1 = some r := e2
    refine ⟨w1, ρ1, r, ok1, e2, ?_⟩
    cases r with
    | inl o => exact k.fr f1
    | inr y => exact fun σ w' H' dd yy f' ho hx hn => k σ w' H' dd yy (f1.trans f') ho hx (Fr.none f1 hn)
end
/-! ### an __init__ that may raise -/
def spIX (K : PySem.W.Frag) (c : Str) (n : Nat) (f : List D → Option (D ⊕ Xc)) : Sp := fun vs H Q E => ∃ x dx vs', vs = .ref x :: vs' ∧ H x = some (.ins (He.ga K c) dx []) ∧ ∃ hs ds r, hs x = none ∧ Sub hs H ∧ AllT hs H ∧ RepAll K hs vs' ds ∧ ds.length = n ∧ f ds = some r ∧
  ∀ hs' H', (∀ a o, a ≠ x → H a = some o → H' a = some o) → (∃ o, H' x = some o) → Same hs hs' → Sub hs' H' → AllT hs' H' → (∀ a o, H a = some o → a ≠ x → hs a = none → hs' a = none) →
    match r with
    | .inl d => Rep K hs' (.ref x) d → Q .non H'
    | .inr e => ∀ dd y, H' dd = some (.xd [(e.2.1, y)]) → H dd = none → hs' dd = none → Rep K hs' y e.2.2 → E (.ref (He.ga K e.1)) (some dd) H'
def iniX (c : Str) (n k : Nat) (body : FSX) (ds : List D) : Option (D ⊕ Xc) := if ds.length = n then match body (startI c k ds) with
  | some (.inl (.rt .non ρ)) => (selfD ρ).map .inl
  | some (.inl (.nx ρ)) => (selfD ρ).map .inl
  | some (.inr e) => some (.inr e)
  | _ => none
  else none
theorem initX_ok {K : PySem.W.Frag} {N : List Str} {c : Str} {n : Nat} {body : FSX} {vs : List V} {H : Hp} {Q : VK} {E : XK} (h : spIX K c n (iniX c n N.length body) vs H Q E) : tStX K (fun cls d _ H => E cls d H) body { nx := fun _ H' => Q .non H', rt := Q } (L2.start N vs) H := by
  obtain ⟨x, dx, vs', rfl, hx, hs, ds, r, hs0, s, tp, rp, hl, ef, k⟩ := h
  unfold iniX at ef
  rw [if_pos hl] at ef
  have nn : ∀ b, b ≠ x → (if b = x then some 0 else none : Option Nat) = none := fun b hb => by rw [if_neg hb]
  have fin : ∀ d ρ' σ' w' H', r = .inl d → selfD ρ' = some d → Fr ⟨hs, fun a => if a = x then some 0 else none, x, 0⟩ H w' H' → EnvOk K w' ρ' σ' H' → Q .non H' := fun d ρ' σ' w' H' er es f' ok' => by
    subst er
    obtain ⟨e0, c', ns, us, rfl⟩ := selfD_inv es
    obtain ⟨v, hv, ro⟩ := ok'.ow 0 _ e0
    cases ro with
    | @ins a C dx' c'' fs ns' us' h1 h2 h3 h4 h5 h6 =>
      have ax : a = x := h1.trans f'.me.1
      subst ax
      have z0 := ok'.disj _ _ h2
      have sm : Same w'.hs (upd w'.hs a (.ins C dx' fs)) := AR.same_new z0
      refine k (upd w'.hs a (.ins C dx' fs)) H' (fun b o hb q => (f'.kp b o q (nn b hb)).1) ⟨_, h3⟩ (f'.sh.trans sm) (fun b o q => ?_) (fun b xs q => sm b _ (ok'.tups b xs q)) (fun b o q hb z => ?_) (.ins upd_same h4 h5 (h6.mono (.of sm)))
      · by_cases hb : b = a
        · subst hb; rw [upd_same] at q; cases q; exact .inl h3
        · rw [upd_ne hb] at q; exact ok'.sub b o q
      · rw [upd_ne hb]; exact (f'.kp b o q (nn b hb)).2.2 z
  cases eb : body (startI c N.length ds) with
  | none => rw [eb] at ef; cases ef
  | some o =>
    rw [eb] at ef
    refine ⟨_, _, o, startI_ok hx hs0 s tp rp, eb, ?_⟩
    cases o with
    | inr e =>
      cases ef
      intro σ w' H' dd y f' ho hd hn z1 z2 ry
      obtain ⟨ρ', ok'⟩ := ho
      exact k w'.hs H' (fun b o hb q => (f'.kp b o q (nn b hb)).1) (f'.lv _ _ hx) f'.sh ok'.sub (fun b xs q => ok'.tups b xs q) (fun b o q hb z => (f'.kp b o q (nn b hb)).2.2 z) dd y hd hn z2 ry
    | inl o =>
      cases o with
      | nx ρ =>
        obtain ⟨d, e1, e2⟩ := Option.map_eq_some_iff.mp ef
        exact fun σ' w' H' f' ok' => fin d ρ σ' w' H' e2.symm e1 f' ok'
      | rt d ρ =>
        cases d <;> try (cases ef; done)
        obtain ⟨d, e1, e2⟩ := Option.map_eq_some_iff.mp ef
        exact fun v σ' w' H' f' ok' r' => by cases r'; exact fin d ρ σ' w' H' e2.symm e1 f' ok'
      | bk ρ => cases ef
      | ct ρ => cases ef
theorem iniX_len {c : Str} {n k : Nat} {body : FSX} {ds : List D} {r : D ⊕ Xc} (h : iniX c n k body ds = some r) : ds.length = n := by
  unfold iniX at h
  split at h
  · assumption
  · cases h
section
/-! ### made where it may raise -/
def tMakeS (C : Addr) (sp : Sp) (E : L2.St → XK) (t : TA) : TE := fun σ H Q => t σ H fun vs H1 => ∀ x dx, H1 x = none → H1 dx = none → dx ≠ x →
  sp (.ref x :: vs) (upd (upd H1 dx (.own x)) x (.ins C dx [])) (fun v H2 => v = .non ∧ Q (.ref x) H2) (E σ)
structure MakX (P : Program) (w : World) (K : PySem.W.Frag) (mg : Str → Option Value) (base : Heap) (k : Nat) (x : Str) (C : Addr) (sp : Sp) : Prop where
  ex : ∃ (f : Addr) (fd : FuncData) (ps : List Str), Mk K C f ∧ FnOk P w K mg base (L2.CX P w) k f fd ps sp ∧ mg x = some (.ref C) ∧ Binds K fd ps []
theorem pe_makeS {X : Cx} {W : WX} {x : Str} {C : Addr} {sp : Sp} {k j : Nat} {e : Expr} {es : List Expr} {t : TA} {p pos : Pos} (m : MakX X.prog X.w X.K X.mg X.base k x C sp) (hr : Room j X.A) (hk : k + 1 ≤ j) (hg : Gl X x) (tk : Takes X W)
    (ha : PA X (e :: es) t) (hdb : (x == ("__debug__" : Str)) = false := by decide) (he : starEach (e :: es) X.env = (false, eval e X.env) :: starEach es X.env := by rfl) (hpl : (backTo pos (starEach es X.env)).any (·.1) = false := by rfl) :
    PE X (.Call (.Name x p) (e :: es) [] pos) (tMakeS C sp (fun σ cls d H => W cls d σ H) t) := by
  obtain ⟨f, fd, ps, M, F, hm, hb⟩ := m.ex
  refine ⟨fun pins s σ H Q I h => ?_⟩
  refine wpAny_Call_Name_kw (ld_glob I hg hm ?_ hdb)
  refine PySem.W.callWith_K (h₀ := X.base) I.ok.mod.kin M.kp (thn (ha.run pos pins s σ H _ I h) fun us s ⟨vs, H, I, r, h⟩ => ⟨I.kIn, ?_⟩) he hpl
  have hq := h (s.heap.objs.size + 1) s.heap.objs.size (I.hok.fresh (Nat.le_succ _)) (I.hok.fresh (Nat.le_refl _)) (Nat.ne_of_lt (Nat.lt_succ_self _))
  have I2 := Inv.made (C := C) I
  have r2 : Vals (V.ref (s.heap.objs.size + 1) :: vs) (Value.ref (s.heap.objs.size + 1) :: us) := .cons rfl r
  have hl : (Value.ref (s.heap.objs.size + 1) :: us).length = ps.length := by
    have e := r2.length
    rw [F.len _ _ _ _ hq] at e
    exact e.symm
  have bb := hb _ (Value.ref (s.heap.objs.size + 1) :: us) I2.kIn (by rw [List.append_nil]; exact hl)
  rw [List.append_nil] at bb
  refine wpAny_call (make_map (f := f) I.kIn M.makes M.init (beq_iff_eq.mp M.fn) (codeAny_mono (F.run _ X.stack _ _ ⟨Value.ref (s.heap.objs.size + 1) :: us, []⟩ (Value.ref (s.heap.objs.size + 1) :: us) _ _ _ ((hr.mono hk).make C us [])
    (I2.env0.make C us []) bb r2 hq) fun r s' hq' => ?_))
  cases r with
  | error e => exact passAt tk σ pins _ _ e s' I2 hq'
  | ok fl =>
    cases fl with
    | ret u =>
      obtain ⟨v, H', I3, rv, ev, q3⟩ := I2.after hq'
      subst ev
      exact ⟨rv, ⟨V.ref (s.heap.objs.size + 1), H', I3, rfl, q3⟩⟩
    | next => exact False.elim hq'
    | brk => exact False.elim hq'
    | cont => exact False.elim hq'
theorem ID.vmakX {P : Program} {w : World} {K : PySem.W.Frag} {mg : Str → Option Value} {base : Heap} {x qual c : Str} {st : Stmt} {N ps : List Str} {k n kk : Nat} {body : FSX} (M : ID K mg x (He.ga K c) qual st ps) (S : FnScope N ps (defScope st)) (hn : ps.length = n + 1) (hkk : N.length = kk)
    (hbody : ∀ (f : Addr) (cdv : Value) (A : Around) (outer : List Env) (s : Shared) (H : Hp) (E : XK) (W : WX), Room k (A.deeper (envOfC qual (defScope st) s.heap.objs.size f cdv)) →
      Takes (cxOf (L2.CX P w) P w K mg base N qual (defScope st) f cdv A outer s H E) W → VSX (cxOf (L2.CX P w) P w K mg base N qual (defScope st) f cdv A outer s H E) W (defBody st) body) : MakX P w K mg base (k + 1) x (He.ga K c) (spIX K c n (iniX c n kk body)) := by
  subst hkk
  obtain ⟨f, fd, F, mk, hm, b⟩ := M.ex
  refine ⟨f, fd, ps, mk, F.ok S (fun vs H Q E h => ?_) fun cdv A outer s H vs Q E hr hsp => ?_, hm, b⟩
  · obtain ⟨x, dx, vs', rfl, hx, hs, ds, r, hs0, s, tp, rp, hl, _⟩ := h
    rw [List.length_cons, rp.length, hl, hn]
  · exact ⟨_, hbody f cdv A outer s H E _ hr (takes_of rfl rfl rfl rfl), initX_ok hsp⟩
/-! ### try: C(..) / except E as e: x = e.f -/
def tHrd (K : PySem.W.Frag) (cn fl : Str) (ie i : Nat) (a : Addr) (cls : Value) (d : Option Addr) : TS := fun D σ H => ∃ y dd, cls = .ref (He.ga K cn) ∧ d = some dd ∧ H dd = some (.xd [(fl, y)]) ∧ σ[ie]? = some (some (.ref a)) ∧ D.nx (σ.set i (some y)) H
def sHrd (ie i : Nat) (cn fl : Str) (fx : List D → Option (D ⊕ Xc)) (ga : FA) : FS := fun ρ => if ie < ρ.length ∧ i ≠ ie then (ga ρ).bind fun p => match fx p.1 with
  | some (.inl _) => some (.nx p.2)
  | some (.inr x) => if x.1 = cn ∧ x.2.1 = fl then some (.nx ((p.2.set i (.s x.2.2)).set ie .u)) else none
  | none => none
  else none
theorem vs_heard {X : Cx} {x c cn fl en : Str} {k j n kk ie i : Nat} {body : FSX} {e : Expr} {es : List Expr} {ga : FA} {p np pos1 pos2 posh pos : Pos} {b₀ : Stmt} {suite : List Stmt}
    (hs : X.stack = X.env :: X.outer) (hf : X.env.frame = some X.env.locals) (hN : X.N.Nodup) (hi : X.N[ie]? = some en) (hln : X.env.kindOf en = some .local) (hxe : X.xe = fun _ _ => False)
    (hg2 : Gl X cn) (hd2 : (cn == ("__debug__" : Str)) = false) (hm2 : X.mg cn = some (.ref (He.ga X.K cn))) (hex : PySem.W.exmOne X.K (.ref (He.ga X.K cn)) (.ref (He.ga X.K cn)) = some true)
    (m : MakX X.prog X.w X.K X.mg X.base k x (He.ga X.K c) (spIX X.K c n (iniX c n kk body))) (hr : Room j X.A) (hk : k + 1 ≤ j) (hg : Gl X x)
    (ha : ∀ pn xe, VA (X.tr pn xe) (e :: es) ga)
    (hsu : ∀ (a : Addr) (oe : Obj) (cls : Value) (d : Option Addr) (pn : List (Addr × Obj)), Zc cls d oe → (∃ vs, oe.data = .fields vs) → PSs (X.suite a ((a, oe) :: pn)) (b₀ :: suite) (tHrd X.K cn fl ie i a cls d))
    (hsw : swapsWith (.Call (.Name x p) (e :: es) [] pos1) none pos2.line X.env = pure false := by rfl)
    (hdb : (x == ("__debug__" : Str)) = false := by decide) (he : starEach (e :: es) X.env = (false, eval e X.env) :: starEach es X.env := by rfl) (hpl : (backTo pos1 (starEach es X.env)).any (·.1) = false := by rfl) :
    VS1 X (.Try [.Expr (.Call (.Name x p) (e :: es) [] pos1) pos2] [.ExceptHandler (some (.Name cn np)) (some en) (b₀ :: suite) posh] [] [] pos) (sHrd ie i cn fl (iniX c n kk body) ga) := by
  refine weakS (ps_try_as (c := .ref (He.ga X.K cn)) (Wout := fun _ _ _ _ => False) (tb := fun W => tDrop (tMakeS (He.ga X.K c) (spIX X.K c n (iniX c n kk body)) (fun σ cls d H => W cls d σ H) (tAs X.K ga))) hs hf hN hi hln ⟨hg2, hd2, .inl hm2⟩ (fun u s' z => by obtain ⟨_, _, _, _, _, _, _, _, _, _, _, _, _, _, _, _, z⟩ := z; exact z.elim)
    (fun W pn xe tk _ => pss_one (ps_expr (pe_makeS (X := X.tr pn xe) m hr hk hg tk (ha pn xe) hdb he hpl) hsw)) hsu) fun E σ H q => ?_
  obtain ⟨w, ρ, o, ok, ef, kk'⟩ := q
  unfold sHrd at ef
  split at ef
  case isFalse => cases ef
  rename_i hie
  obtain ⟨⟨ds, ρ1⟩, e1, e2⟩ := Option.bind_eq_some_iff.mp ef
  refine ⟨w, ρ, ds, ρ1, ok, e1, fun vs w1 H1 f1 ok1 r => ?_⟩
  intro y dx hy hdx ne
  obtain ⟨z1, z2⟩ := ok1.free hy
  have old : ∀ a o, H1 a = some o → upd (upd H1 dx (.own y)) y (.ins (He.ga X.K c) dx []) a = some o := fun a o q => by
    rw [upd_ne (ne_of_none q hy), upd_ne (ne_of_none q hdx)]; exact q
  obtain ⟨rr, er⟩ : ∃ rr, iniX c n kk body ds = some rr := by
    cases q : iniX c n kk body ds with
    | none => dsimp only at e2; rw [q] at e2; cases e2
    | some rr => exact ⟨rr, rfl⟩
  dsimp only at e2
  rw [er] at e2
  refine ⟨y, dx, vs, rfl, upd_same, w1.hs, ds, rr, z1, fun a o q => ?_, fun a xs q => ?_, r, iniX_len er, er, fun hs' H' s1 s2 s3 s4 t4 s5 => ?_⟩
  · rcases ok1.sub a o q with q' | ⟨n, ob, q'⟩
    · exact .inl (old a o q')
    · exact .inr ⟨n, ob, old a _ q'⟩
  · by_cases n1 : a = y
    · subst n1; rw [upd_same] at q; cases q
    · rw [upd_ne n1] at q
      by_cases n2 : a = dx
      · subst n2; rw [upd_same] at q; cases q
      · rw [upd_ne n2] at q; exact ok1.tups a xs q
  have ke : ∀ a o, H1 a = some o → H' a = some o := fun a o q => s1 a o (ne_of_none q hy) (old a o q)
  have fr2 : Fr w1 H1 ⟨hs', w1.own, w1.me, w1.me2⟩ H' := ⟨s3, fun a o q n => ⟨ke a o q, n, fun z => s5 a o (old a o q) (ne_of_none q hy) z⟩, (fun a o q => ⟨o, ke a o q⟩), rfl, rfl⟩
  have ok2 : EnvOk X.K ⟨hs', w1.own, w1.me, w1.me2⟩ ρ1 σ H' := ok1.keep s3 s4 rfl ⟨rfl, rfl⟩ (fun a i q => by
      obtain ⟨o, ho⟩ := ok1.live a i q
      exact s5 a o (old a o ho) (ne_of_none ho hy) (ok1.disj a i q)) (fun a i q => by
      obtain ⟨o, ho⟩ := ok1.live a i q
      rw [ke a o ho, ho]) t4
  cases rr with
  | inl d =>
    cases e2
    exact fun r' => ⟨rfl, kk' σ ⟨hs', w1.own, w1.me, w1.me2⟩ H' (f1.trans fr2) ok2⟩
  | inr ex =>
    replace e2 : (if ex.1 = cn ∧ ex.2.1 = fl then some (Out.nx ((ρ1.set i (.s ex.2.2)).set ie .u)) else none) = some o := e2
    split at e2
    case isFalse => cases e2
    rename_i hcf
    obtain ⟨cx, fx, vx⟩ := ex
    obtain ⟨h1, h2⟩ := hcf
    have h1' : cx = cn := h1
    have h2' : fx = fl := h2
    subst h1' h2'
    cases e2
    intro dd yv hdd hnone hsn ry
    refine ⟨true, hex, fun _ a ha => ?_, fun z => by cases z⟩
    have hl : ie < σ.length := by rw [← ok.len]; exact hie.1
    refine ⟨yv, dd, rfl, rfl, hdd, by rw [List.getElem?_set_self hl], ?_⟩
    show E.nx ((((σ.set ie (some (V.ref a))).set i (some yv)).set ie none)) H'
    have es : (((σ.set ie (some (V.ref a))).set i (some yv)).set ie none) = (σ.set i (some yv)).set ie none := by
      rw [List.set_comm _ _ hie.2.symm, List.set_set]
    rw [es]
    exact kk' _ ⟨hs', w1.own, w1.me, w1.me2⟩ H' (f1.trans fr2) ((ok2.setS ry).setU)
/-! ### the suite -/
def rIsE2 (K : PySem.W.Frag) (D a dd : Addr) : List V → Hp → VK → Prop := fun xs H Q => ∃ (c : V) (cv : Value) (b : Bool) (fs : List (Str × V)), xs = [.ref a, c] ∧ (∀ u, RelV c u → u = cv) ∧ PySem.W.kitOne K (.ref D) cv = some b ∧ H dd = some (.xd fs) ∧ Q (.bl b) H
theorem call_isE2 {X : Cx} {a D dd : Addr} {oe : Obj} {pn : List (Addr × Obj)} (C : ExcC X.K D) (hz : Zc (.ref D) (some dd) oe) (hf : ∃ vs, oe.data = .fields vs) : CallR (X.suite a ((a, oe) :: pn)) (.builtin "isinstance") (rIsE2 X.K D a dd) := by
  intro pins s σ H xs us Q I r h
  obtain ⟨c, cv, b, fs, rfl, hcv, e, hx, q⟩ := h
  cases r with
  | cons rx rr =>
    cases rr with
    | cons rt rr =>
      cases rr
      cases rx
      have ec := hcv _ rt
      subst ec
      obtain ⟨hget, _⟩ := I.pin (a, oe) (List.mem_append.mpr (.inl List.mem_cons_self))
      obtain ⟨vs, hv⟩ := hf
      have hx' : ObjOk X.prog X.w H s.heap dd (.xd fs) := I.hok dd _ hx
      obtain ⟨mA, hns, hr⟩ := hx'
      obtain ⟨od, ho, hl⟩ := lookIn_ns hns
      have J : PySem.W.InstAt s.heap a oe D (some od) := ⟨hget, hz.1, by unfold PySem.W.notCls; rw [hv] <;> rfl, by rw [hz.2]; exact ho⟩
      have hcl : (PySem.W.clsIn X.K D).isSome = true := by
        obtain ⟨cd, hc, _⟩ := PySem.W.any_some C.hd
        rw [hc]; rfl
      exact PySem.W.kia_one (PySem.W.kitx_exc hcl C.hg C.hk C.hs C.ha C.hn C.ht C.hm) I.kIn J e (fun z => nomatch z) fun tk => ⟨.bl b, H, I.kept (t' := tk) fun _ _ z => z, rfl, q⟩
/-- the state of a suite: the exception at a stands in slot ie, its dict at dd -/
def tHeld (ie : Nat) (a dd : Addr) (b : Bool) : TT := fun σ H Q => σ[ie]? = some (some (.ref a)) ∧ (∃ fs : List (Str × V), H dd = some (.xd fs)) ∧ Q b H
section
variable {X : Cx} {a dd : Addr} {oe : Obj} {pn : List (Addr × Obj)} {en cn c2 : Str} {ie i : Nat} {p p1 p2 pos : Pos} {b : Bool} {D : Addr}
theorem pt_isX (C : ExcC X.K D) (hz : Zc (.ref D) (some dd) oe) (hf : ∃ vs, oe.data = .fields vs) (hi : X.N[ie]? = some en) (hv : Vis X.env.scope en) (hd1 : (en == ("__debug__" : Str)) = false) (hd2 : (en == ("__classdict__" : Str)) = false)
    (hgi : Gl X "isinstance") (hmi : X.mg "isinstance" = none) (hg2 : Gl X c2) (hm2 : X.mg c2 = some (.ref (He.ga X.K c2))) (hd3 : (c2 == ("__debug__" : Str)) = false) (hk : PySem.W.kitOne X.K (.ref D) (.ref (He.ga X.K c2)) = some b)
    (he : ∀ env whole, isTrue (.Call (.Name "isinstance" p) [.Name en p1, .Name c2 p2] [] pos) env whole = (do let v ← whole; standAt (Expr.Call (.Name "isinstance" p) [.Name en p1, .Name c2 p2] [] pos).pos; holding [v] (truthy v)) := by intro _ _; rfl)
    (hs : ∀ env, starEach [.Name en p1, .Name c2 p2] env = (false, eval (.Name en p1) env) :: starEach [.Name c2 p2] env := by intro _; rfl)
    (hs' : ∀ env, starEach [.Name c2 p2] env = (false, eval (.Name c2 p2) env) :: starEach [] env := by intro _; rfl)
    (hpl : ∀ env, (backTo pos (starEach [.Name c2 p2] env)).any (·.1) = false := by intro _; rfl) :
    PT (X.suite a ((a, oe) :: pn)) (.Call (.Name "isinstance" p) [.Name en p1, .Name c2 p2] [] pos) (tHeld ie a dd b) := by
  refine weakT (pt_val (pe_callB (call_isE2 C hz hf) hgi hmi PyProof.Rows.Boot.«isinstance» (pa_cons (pe_var (i := ie) hi hv hd1 hd2) (pa_cons (pe_glob hg2 hm2 (v := .ref (He.ga X.K c2)) rfl hd3) pa_nil (hs' _)) (hs _)) (by decide) (by decide) (hs _) (hpl _)) (he _)) fun σ H Q q => ?_
  obtain ⟨h1, ⟨fs, h2⟩, h3⟩ := q
  exact ⟨_, h1, .ref (He.ga X.K c2), _, b, fs, rfl, fun u hu => hu, hk, h2, b, rfl, h3⟩
end
section
variable {X : Cx} {a dd : Addr} {oe : Obj} {pn : List (Addr × Obj)} {en cn fl fx : Str} {ie i : Nat} {T1 T2 T : Expr} {p' q q2 q3 q4 posA pos pn1 : Pos} {o : Str} {jo : Nat} {cls : Value} {d : Option Addr}
theorem pt_isX2 (h1 : PT X T1 (tHeld ie a dd true)) (h2 : PT X T2 (tHeld ie a dd false)) : PT X (.BoolOp .And [T1, .UnaryOp .Not T2 pn1] pos) (tHeld ie a dd true) := by
  refine weakT (PW.pt (pw_and h1 (pw_and1 (pt_not h2)))) fun σ H Q q => ?_
  obtain ⟨z1, z2, z3⟩ := q
  refine ⟨z1, z2, ?_⟩
  show (if (true : Bool) = true then _ else _)
  rw [if_pos rfl]
  exact ⟨z1, z2, z3⟩
theorem vss_heard (T0 : XfC X.K (He.ga X.K cn)) (hno : PySem.W.findIn X.K (.ref (He.ga X.K cn)) fl = some none)
    (hT : ∀ dd, Zc (.ref (He.ga X.K cn)) (some dd) oe → PT (X.suite a ((a, oe) :: pn)) T (tHeld ie a dd true)) (hz : Zc cls d oe) (hf : ∃ vs, oe.data = .fields vs)
    (hN : X.N.Nodup) (hi : X.N[ie]? = some en) (hv : Vis X.env.scope en) (hd1 : (en == ("__debug__" : Str)) = false) (hd2 : (en == ("__classdict__" : Str)) = false)
    (hfi : X.N[i]? = some fx) (hfx : Loc X.env.scope fx) (hff : X.env.scope.names.lookup fx = some .local)
    (hb : ∀ env whole, attributeBase (.Name en q) fl env whole = whole := by intro _ _; rfl)
    (hsw : ∀ env, swapsWith (.IfExp T (.Attribute (.Name en q) fl q2) (.Constant (.str o) jo q4) q3) (some (.Name fx p')) posA.line env = pure false := by intro _; rfl) :
    PSs (X.suite a ((a, oe) :: pn)) [.Assign [.Name fx p'] (.IfExp T (.Attribute (.Name en q) fl q2) (.Constant (.str o) jo q4) q3) posA] (tHrd X.K cn fl ie i a cls d) := by
  by_cases hc : cls = .ref (He.ga X.K cn) ∧ ∃ dd, d = some dd
  · obtain ⟨rfl, dd, rfl⟩ := hc
    refine weakSs (pss_one (ps_set (i := i) hN hfi hfx (pe_ifExp (hT dd hz) (pe_xf T0 hno hz hf (pe_var (i := ie) hi hv hd1 hd2) (hb _ _)) pe_str) (hsw _) (.inr hff))) fun E σ H q => ?_
    obtain ⟨y, dd', _, e2, h3, h4, h5⟩ := q
    cases e2
    refine ⟨h4, ⟨_, h3⟩, ?_⟩
    show (if (true : Bool) = true then _ else _)
    rw [if_pos rfl]
    exact ⟨_, h4, rfl, rfl, dd, _, y, rfl, h3, by simp [List.lookup], h5⟩
  · refine weakSs (t := fun _ _ _ => False) ⟨fun _ _ _ _ _ _ h => h.elim⟩ fun E σ H q => ?_
    obtain ⟨y, dd', e1, e2, _⟩ := q
    exact hc ⟨e1, dd', e2⟩
end
end
end VS
set_option autoImplicit false
/-! methods and classes called with keywords alone -/
namespace AR
open PySem PySem.Spec PyProof.Rows L2
/-- a method that is called with the keywords ks alone -/
structure MDK (K : PySem.W.Frag) (C : Addr) (m qual : Str) (st : Stmt) (ps : List Str) (ks : List Str) (is : List Nat) : Prop where
  ex : ∃ (f : Addr) (fd : FuncData), FunD K m qual (defArgs st) (defBody st) (defScope st) [] [] f fd ∧ Meth K C m f ∧ KBn K fd ps 1 ks (fun us ws => permL is (us ++ ws)) (fun vs zs => permL is (vs ++ zs))
structure MetK (P : Program) (w : World) (K : PySem.W.Frag) (mg : Str → Option Value) (base : Heap) (k : Nat) (C : Addr) (m : Str) (ks : List Str) (is : List Nat) (sp : Sp) : Prop where
  ex : ∃ (f : Addr) (fd : FuncData) (ps : List Str), Cls K C ∧ Meth K C m f ∧ FnOk P w K mg base C8.CX0 k f fd ps sp ∧ KBn K fd ps 1 ks (fun us ws => permL is (us ++ ws)) (fun vs zs => permL is (vs ++ zs))
section
variable {X : Cx} {k j : Nat} {ks : List Str} {is : List Nat} {sp : Sp} {m x : Str} {C : Addr} {apos pos p : Pos} {o : Expr} {kws : List Keyword} {ta : TE} {tk : TA}
theorem pe_mtK0 {pl : Sem Bool} (c : MetK X.prog X.w X.K X.mg X.base k C m ks is sp) (hr : Room j X.A) (hk : k ≤ j) (he : PE X o ta) (hkw : PK X kws tk)
    (hall : (backToKw pos (keywordEach kws X.env)).all (·.1.isSome) = true := by rfl) (hks : (backToKw pos (keywordEach kws X.env)).filterMap (·.1) = ks := by rfl)
    (hpl : ((backTo pos (starEach [] X.env)).any (·.1) || (backToKw pos (keywordEach kws X.env)).any (·.1.isNone)) = false := by rfl)
    (ht : eval (.Call (.Attribute o m apos) [] kws pos) X.env = (do
      let ov ← eval o X.env
      standAt apos.atName
      let (f, first) ← holding [ov] (getMethod ov m pl)
      callWith pos f first (backTo pos (starEach [] X.env)) (backToKw pos (keywordEach kws X.env))) := by rfl) :
    PE X (.Call (.Attribute o m apos) [] kws pos) (fun σ H Q => ta σ H fun x H1 => ∃ a dx fs, x = .ref a ∧ H1 a = some (.ins C dx fs) ∧ fs.lookup m = none ∧ tk σ H1 fun zs H2 => zs.length = ks.length ∧ sp (permL is (x :: zs)) H2 Q C8.E0) := by
  obtain ⟨f, fd, ps, cl, hm, F, b⟩ := c.ex
  refine ⟨fun pins s σ H Q I h => ?_⟩
  refine PySem.W.methodCall_KW (pl := pl) (thn (he.run pins s σ H _ I h) fun u s1 ⟨x, H1, I1, rx, a, dx, fs, ex, ea, l, q⟩ => ?_) ht
  subst ex
  obtain rfl : u = Value.ref a := rx
  refine getmeth_ok I1 ea cl hm l ?_
  refine PySem.W.callWith_KW0 (first := [.ref a]) (h₀ := X.base) I.ok.mod.kin hm.kp hall ?_ hpl
  refine thn (hkw.run pos pins s1 σ H1 _ I1 q) fun ws s2 ⟨zs, H2, I2, rz, l2, q2⟩ => ⟨I2.kIn, ?_⟩
  rw [hks]
  exact run_fnN (us := [.ref a]) (vs := [.ref a]) F (hr.mono hk) b C8.pass0 I2 (.cons rfl .nil) rz rfl l2 q2
end
end AR
namespace VS
open PySem PySem.Spec PyProof.Rows L2 AR
open C8 (Cal Met Mak)
def kwM (c m : Str) (n : Nat) (is : List Nat) (fn : List D → Option D) : List D → Option D
  | d :: r => if r.length = n then methD c m (fun ds => fn (permL is ds)) (d :: r) else none
  | [] => none
section
variable {X : Cx} {o : Expr} {gk : FA} {f : FE} {pos p apos : Pos} {m x : Str} {k j n kk q : Nat} {body : FS} {ks : List Str} {is : List Nat} {kws : List Keyword}
theorem ve_methK0 {c : Str} {pl : Sem Bool} (hm : MetK X.prog X.w X.K X.mg X.base k (He.ga X.K c) m ks is (spF X.K n (fnD n kk body))) (hr : Room j X.A) (hk : k ≤ j) (hq : ks.length = q) (ho : VE X o f) (hkw : VKw X kws gk)
    (hall : (backToKw pos (keywordEach kws X.env)).all (·.1.isSome) = true := by rfl) (hks : (backToKw pos (keywordEach kws X.env)).filterMap (·.1) = ks := by rfl)
    (hpl : ((backTo pos (starEach [] X.env)).any (·.1) || (backToKw pos (keywordEach kws X.env)).any (·.1.isNone)) = false := by rfl)
    (ht : eval (.Call (.Attribute o m apos) [] kws pos) X.env = (do
      let ov ← eval o X.env
      standAt apos.atName
      let (f, first) ← holding [ov] (getMethod ov m pl)
      callWith pos f first (backTo pos (starEach [] X.env)) (backToKw pos (keywordEach kws X.env))) := by rfl) :
    VE X (.Call (.Attribute o m apos) [] kws pos) (fAp (kwM c m q is (fnD n kk body)) (aC f gk)) := by
  subst hq
  refine weakE (pe_mtK0 (pl := pl) hm hr hk ho hkw hall hks hpl ht) fun σ H Q q => ?_
  obtain ⟨w, ρ, z, ρ', ok, ef, kq⟩ := q
  obtain ⟨⟨ds, ρ1⟩, e1, e2⟩ := Option.bind_eq_some_iff.mp ef
  obtain ⟨d2, e3, e4⟩ := Option.map_eq_some_iff.mp e2
  cases e4
  obtain ⟨⟨d0, ρ2⟩, e5, e6⟩ := Option.bind_eq_some_iff.mp e1
  obtain ⟨⟨dr, ρ3⟩, e7, e8⟩ := Option.map_eq_some_iff.mp e6
  cases e8
  refine ⟨w, ρ, d0, ρ2, ok, e5, fun v w1 H1 f1 ok1 r1 => ?_⟩
  replace e3 : (if dr.length = ks.length then methD c m (fun ds => fnD n kk body (permL is ds)) (d0 :: dr) else none) = some z := e3
  split at e3
  case isFalse => cases e3
  rename_i hl
  obtain ⟨ns, vs, rfl, nm, e9⟩ := methD_inv e3
  cases r1 with
  | @ins a C dx c' fs ns vs h1 h2 h3 h4 =>
    subst h2
    refine ⟨a, dx, fs, rfl, ok1.sub.ins h1, lookup_none (by rw [← h3]; exact nm), w1, ρ2, dr, _, ok1, e7, fun us w2 H2 f2 ok2 r2 => ⟨by rw [r2.length]; exact hl, ?_⟩⟩
    exact call_ok ok2 ((RepAll.cons ((Rep.ins h1 rfl h3 h4).mono (.of f2.sh)) r2).perm is) (fnD_len e9) e9 fun v' w' H' f' ok' r' => kq v' w' H' (f1.trans (f2.trans f')) ok' r'
/-! ### C(k = v, ..) -/
structure MakK (P : Program) (w : World) (K : PySem.W.Frag) (mg : Str → Option Value) (base : Heap) (k : Nat) (x : Str) (C : Addr) (ks : List Str) (is : List Nat) (sp : Sp) : Prop where
  ex : ∃ (f : Addr) (fd : FuncData) (ps : List Str), Mk K C f ∧ FnOk P w K mg base C8.CX0 k f fd ps sp ∧ mg x = some (.ref C) ∧ KBn K fd ps 1 ks (fun us ws => permL is (us ++ ws)) (fun vs zs => permL is (vs ++ zs))
/-- self stands first -/
def kwI (n : Nat) (is : List Nat) (fn : List D → Option D) (ds : List D) : Option D := if ds.length = n then fn (permL is ds) else none
theorem permL_up {α : Type} (x : α) (xs : List α) (is : List Nat) : permL (0 :: is.map (· + 1)) (x :: xs) = x :: permL is xs := by
  unfold permL
  rw [List.filterMap_cons]
  show x :: _ = _
  congr 1
  rw [List.filterMap_map]
  rfl
theorem ve_makeK0 {c : Str} (hm : MakK X.prog X.w X.K X.mg X.base k x (He.ga X.K c) ks (0 :: is.map (· + 1)) (spI X.K c n (iniD c n kk body))) (hr : Room j X.A) (hk : k + 1 ≤ j) (hq : ks.length = q) (hg : Gl X x) (hkw : VKw X kws gk)
    (hall : (backToKw pos (keywordEach kws X.env)).all (·.1.isSome) = true := by rfl) (hks : (backToKw pos (keywordEach kws X.env)).filterMap (·.1) = ks := by rfl) (hdb : (x == ("__debug__" : Str)) = false := by decide)
    (hpl : ((backTo pos (starEach [] X.env)).any (·.1) || (backToKw pos (keywordEach kws X.env)).any (·.1.isNone)) = false := by rfl) :
    VE X (.Call (.Name x p) [] kws pos) (fAp (kwI q is (iniD c n kk body)) gk) := by
  subst hq
  obtain ⟨fI, fd, ps, M, F, hmg, b⟩ := hm.ex
  refine weakE (pe_makeK0 M F (hr.mono hk) hg hmg b C8.pass0 (E := C8.E0) hkw hall hks hdb hpl) fun σ H Q q => ?_
  obtain ⟨w, ρ, z, ρ', ok, ef, kq⟩ := q
  obtain ⟨⟨ds, ρ1⟩, e1, e2⟩ := Option.bind_eq_some_iff.mp ef
  obtain ⟨d2, e3, e4⟩ := Option.map_eq_some_iff.mp e2
  cases e4
  replace e3 : (if ds.length = ks.length then iniD c n kk body (permL is ds) else none) = some z := e3
  split at e3
  case isFalse => cases e3
  rename_i hl
  refine ⟨w, ρ, ds, _, ok, e1, fun vs w1 H1 f1 ok1 r => ⟨rfl, by rw [r.length]; exact hl, fun y dx hy hdx ne => ?_⟩⟩
  obtain ⟨z1, z2⟩ := ok1.free hy
  have old : ∀ a o, H1 a = some o → upd (upd H1 dx (.own y)) y (.ins (He.ga X.K c) dx []) a = some o := fun a o q => by
    rw [upd_ne (ne_of_none q hy), upd_ne (ne_of_none q hdx)]; exact q
  show spI X.K c n (iniD c n kk body) (permL (0 :: is.map (· + 1)) (V.ref y :: vs)) _ _ _
  rw [permL_up]
  refine ⟨y, dx, _, rfl, upd_same, w1.hs, _, z, z1, fun a o q => ?_, fun a xs q => ?_, r.perm is, iniD_len e3, e3, fun hs' H' s1 s2 s3 s4 t4 s5 r' => ⟨rfl, ?_⟩⟩
  · rcases ok1.sub a o q with q' | ⟨n, ob, q'⟩
    · exact .inl (old a o q')
    · exact .inr ⟨n, ob, old a _ q'⟩
  · by_cases n1 : a = y
    · subst n1; rw [upd_same] at q; cases q
    · rw [upd_ne n1] at q
      by_cases n2 : a = dx
      · subst n2; rw [upd_same] at q; cases q
      · rw [upd_ne n2] at q; exact ok1.tups a xs q
  · have ke : ∀ a o, H1 a = some o → H' a = some o := fun a o q => s1 a o (ne_of_none q hy) (old a o q)
    refine kq _ ⟨hs', w1.own, w1.me, w1.me2⟩ H' (f1.trans ⟨s3, fun a o q n => ⟨ke a o q, n, fun z => s5 a o (old a o q) (ne_of_none q hy) z⟩, (fun a o q => ⟨o, ke a o q⟩), rfl, rfl⟩) (ok1.keep s3 s4 rfl ⟨rfl, rfl⟩ (fun a i q => ?_) (fun a i q => ?_) t4) r'
    · obtain ⟨o, ho⟩ := ok1.live a i q
      exact s5 a o (old a o ho) (ne_of_none ho hy) (ok1.disj a i q)
    · obtain ⟨o, ho⟩ := ok1.live a i q
      rw [ke a o ho, ho]
end
end VS
set_option autoImplicit false
/-! == and != by an own __eq__ -/
namespace AR
open PySem PySem.Spec PyProof.Rows L2 PySem.W
open C8 (Met)
section
variable {X : Cx} {k j : Nat} {C : Addr} {sp : Sp}
/-- an instance, then a list -/
def rOwnL (K : PySem.W.Frag) (C : Addr) (sp : Sp) : R2 := fun x y H Q => ∃ a dx fs b ys, x = .ref a ∧ y = .ref b ∧ H a = some (.ins C dx fs) ∧ SqL K H b ys ∧ sp [x, y] H Q C8.E0
theorem op_ownEqL (c : C8.Met X.prog X.w X.K X.mg X.base k C "__eq__" sp []) (hl : subIn X.K (.type "list") (.ref C) = some false) (hr : Room j X.A) (hk : k ≤ j) : OpR X (compareOp .Eq) (rOwnL X.K C sp) := by
  intro pins s σ H x y v u Q I rx ry h
  obtain ⟨a, dx, fs, b, ys, rfl, rfl, ha, hb, q⟩ := h
  cases (show v = Value.ref a from rx)
  cases (show u = Value.ref b from ry)
  obtain ⟨f, fd, ps, ds, cl, me, F, bi, vd⟩ := c.ex
  cases vd
  obtain ⟨mA, O, _⟩ := ins_get I.hok ha
  obtain ⟨od, J, _⟩ := O.look
  obtain ⟨m, hF⟩ := I.fr
  obtain ⟨its, rv, hpl, hz⟩ := I.list hb
  obtain ⟨o, n, e1, e2, e3, e4⟩ := hpl
  have L : Looks (model X.prog X.w) s.heap (typeOf (.ref b)) (.type "list") := fun A Q E s k q => wpAny_typeOf (show Shared.TypeIs s (.ref b) "list" from ⟨o, k _ _ e1, e2⟩) q
  refine cmp_ofEq (cmp_K (op := .Eq) (tb := .type "list") hr.units0 hF I.ok.mod.kin J L (by unfold notFirst; rw [hl]; rfl) me.at_ me.fn (wpAny_mono (run_fn (us := [.ref a, .ref b]) (vs := [.ref a, .ref b]) F (hr.mono hk) bi .nil C8.pass0 I (.cons rfl (.cons rfl .nil)) q) (fun w s' z => ?_) fun _ _ x => x))
  obtain ⟨z', H', I', rz, qz⟩ := z
  exact SlX.cmpback rz ⟨z', H', I', rz, qz⟩
end
end AR
namespace VS
open PySem PySem.Spec PyProof.Rows L2 AR
open C8 (Cal Met Mak)
def eqM (c : Str) (fn : List D → Option D) (x y : D) : Option D := match x, y with
  | .ins c' ns vs, .ins c2 ns2 vs2 => if c' = c ∧ c2 = c then fn [x, y] else none
  | .ins c' ns vs, .lst ys => if c' = c then fn [x, y] else none
  | _, _ => none
def neM (c : Str) (fn : List D → Option D) (x y : D) : Option D := match x, y with
  | .ins c' ns vs, .ins c2 ns2 vs2 => if c' = c ∧ c2 = c then (match fn [x, y] with | some (.bl b) => some (.bl (!b)) | _ => none) else none
  | _, _ => none
section
variable {X : Cx} {k j n kk : Nat} {c : Str} {body : FS}
theorem kb_eqM : KB X.K (ι := Bool) (fun i => match i with | true => rOwnI (He.ga X.K c) (spF X.K n (fnD n kk body)) | false => rOwnL X.K (He.ga X.K c) (spF X.K n (fnD n kk body))) (eqM c (fnD n kk body)) := by
  intro x y z h
  cases x <;> try (cases h; done)
  rename_i c' ns vs
  cases y <;> try (cases h; done)
  · rename_i ys
    refine ⟨false, fun w ρ σ H v u Q ok rv ru kk' => ?_⟩
    replace h : (if c' = c then fnD n kk body [.ins c' ns vs, .lst ys] else none) = some z := h
    split at h
    case isFalse => cases h
    rename_i hc
    subst hc
    cases rv with
    | @ins a C dx c'' fs ns' vs' h1 h2 h3 h4 =>
      subst h2
      cases ru with
      | @lst b xs' ds' g1 g2 g3 =>
        exact ⟨a, dx, fs, b, xs', rfl, rfl, ok.sub.ins h1, ok.sub.sqL g1, call_ok ok (.cons (.ins h1 rfl h3 h4) (.cons (.lst g1 g2 g3) .nil)) (fnD_len h) h kk'⟩
  · rename_i c2 ns2 vs2
    refine ⟨true, fun w ρ σ H v u Q ok rv ru kk' => ?_⟩
    replace h : (if c' = c ∧ c2 = c then fnD n kk body [.ins c' ns vs, .ins c2 ns2 vs2] else none) = some z := h
    split at h
    case isFalse => cases h
    rename_i hc
    obtain ⟨rfl, rfl⟩ := hc
    cases rv with
    | @ins a C dx c'' fs ns' vs' h1 h2 h3 h4 =>
      subst h2
      cases ru with
      | @ins b C2 dx2 c2' fs2 ns2' vs2' g1 g2 g3 g4 =>
        subst g2
        exact ⟨a, dx, fs, b, dx2, fs2, rfl, rfl, ok.sub.ins h1, ok.sub.ins g1, call_ok ok (.cons (.ins h1 rfl h3 h4) (.cons (.ins g1 rfl g3 g4) .nil)) (fnD_len h) h kk'⟩
theorem kb_neM : KB X.K (ι := Unit) (fun _ => rOwnN (He.ga X.K c) (spF X.K n (fnD n kk body))) (neM c (fnD n kk body)) := by
  intro x y z h
  cases x <;> try (cases h; done)
  rename_i c' ns vs
  cases y <;> try (cases h; done)
  rename_i c2 ns2 vs2
  refine ⟨(), fun w ρ σ H v u Q ok rv ru kk' => ?_⟩
  replace h : (if c' = c ∧ c2 = c then (match fnD n kk body [.ins c' ns vs, .ins c2 ns2 vs2] with | some (.bl b) => some (.bl (!b)) | _ => none) else none) = some z := h
  split at h
  case isFalse => cases h
  rename_i hc
  obtain ⟨rfl, rfl⟩ := hc
  split at h
  · rename_i b e
    cases h
    cases rv with
    | @ins a C dx c'' fs ns' vs' h1 h2 h3 h4 =>
      subst h2
      cases ru with
      | @ins b2 C2 dx2 c2' fs2 ns2' vs2' g1 g2 g3 g4 =>
        subst g2
        refine ⟨a, dx, fs, b2, dx2, fs2, rfl, rfl, ok.sub.ins h1, ok.sub.ins g1, call_ok ok (.cons (.ins h1 rfl h3 h4) (.cons (.ins g1 rfl g3 g4) .nil)) (fnD_len e) e fun v' w' H' f' ok' r' => ?_⟩
        cases r'
        exact ⟨b, rfl, kk' _ w' H' f' ok' (.bl _)⟩
  · cases h
variable {a b : Expr} {f g : FE} {pos : Pos}
theorem ve_eqM (hm : Met X.prog X.w X.K X.mg X.base k (He.ga X.K c) "__eq__" (spF X.K n (fnD n kk body)) []) (hl : PySem.W.subIn X.K (.type "list") (.ref (He.ga X.K c)) = some false) (hr : Room j X.A) (hk : k ≤ j) (ha : VE X a f) (hb : VE X b g) (hmk : behindInMarks .Eq b = false) :
    VE X (.Compare a [.Eq] [b] pos) (fB (eqM c (fnD n kk body)) f g) := ve_bin (r := fun i : Bool => match i with | true => rOwnI (He.ga X.K c) (spF X.K n (fnD n kk body)) | false => rOwnL X.K (He.ga X.K c) (spF X.K n (fnD n kk body))) (fun i => pe_cmpR (match i with | true => op_ownEq hm hr hk | false => op_ownEqL hm hl hr hk) ha hb hmk) kb_eqM
theorem vt_eqM (hm : Met X.prog X.w X.K X.mg X.base k (He.ga X.K c) "__eq__" (spF X.K n (fnD n kk body)) []) (hl : PySem.W.subIn X.K (.type "list") (.ref (He.ga X.K c)) = some false) (hr : Room j X.A) (hk : k ≤ j) (ha : VE X a f) (hb : VE X b g) (hmk : behindInMarks .Eq b = false) :
    VT X (.Compare a [.Eq] [b] pos) (tF blD (fB (eqM c (fnD n kk body)) f g)) := vt_bin (r := fun i : Bool => match i with | true => rOwnI (He.ga X.K c) (spF X.K n (fnD n kk body)) | false => rOwnL X.K (He.ga X.K c) (spF X.K n (fnD n kk body))) (fun i => pt_cmpR (match i with | true => op_ownEq hm hr hk | false => op_ownEqL hm hl hr hk) ha hb hmk) kb_eqM
theorem ve_neM (hm : Met X.prog X.w X.K X.mg X.base k (He.ga X.K c) "__eq__" (spF X.K n (fnD n kk body)) []) (hne : PySem.W.findIn X.K (.ref (He.ga X.K c)) "__ne__" = some (some (.builtin "object.__ne__"))) (hmo : PySem.W.mroIn X.K (He.ga X.K c) (.type "object") = some true) (hr : Room j X.A) (hk : k + 1 ≤ j) (ha : VE X a f) (hb : VE X b g) (hmk : behindInMarks .NotEq b = false) :
    VE X (.Compare a [.NotEq] [b] pos) (fB (neM c (fnD n kk body)) f g) := ve_bin (ι := Unit) (fun _ => pe_cmpR (op_ownNe hm hne hmo hr hk) ha hb hmk) kb_neM
theorem vt_neM (hm : Met X.prog X.w X.K X.mg X.base k (He.ga X.K c) "__eq__" (spF X.K n (fnD n kk body)) []) (hne : PySem.W.findIn X.K (.ref (He.ga X.K c)) "__ne__" = some (some (.builtin "object.__ne__"))) (hmo : PySem.W.mroIn X.K (He.ga X.K c) (.type "object") = some true) (hr : Room j X.A) (hk : k + 1 ≤ j) (ha : VE X a f) (hb : VE X b g) (hmk : behindInMarks .NotEq b = false) :
    VT X (.Compare a [.NotEq] [b] pos) (tF blD (fB (neM c (fnD n kk body)) f g)) := vt_bin (ι := Unit) (fun _ => pt_cmpR (op_ownNe hm hne hmo hr hk) ha hb hmk) kb_neM
end
end VS
set_option autoImplicit false
/-! a list of one's own, lent to the making of an instance that keeps nothing of it -/
namespace VS
open PySem PySem.Spec PyProof.Rows L2 AR
open C8 (Cal Met Mak)
mutual
def noL : D → Bool
  | .non => true
  | .bl _ => true
  | .int _ => true
  | .str _ => true
  | .tup xs => noLs xs
  | .ins _ _ vs => noLs vs
  | _ => false
def noLs : List D → Bool
  | [] => true
  | d :: ds => noL d && noLs ds
end
mutual
theorem Rep.drop1 {K : PySem.W.Frag} {h : Hp} {a : Addr} {xs : List V} (ha : h a = some (.lst xs)) : ∀ {v : V} {d : D}, Rep K h v d → noL d = true → Rep K (del h a) v d
  | _, _, .non, _ => .non
  | _, _, .bl b, _ => .bl b
  | _, _, .int i, _ => .int i
  | _, _, .str s, _ => .str s
  | _, _, .lst _ _ _, q => by cases q
  | _, _, .tup h1 h2 h3, q => .tup (by rw [del_ne (fun z => by rw [z, ha] at h1; cases h1)]; exact h1) h2 (RepAll.drop1 ha h3 q)
  | _, _, .ktp _ _ _, q => by cases q
  | _, _, .dK _ _ _, q => by cases q
  | _, _, .dT _ _ _, q => by cases q
  | _, _, .ins h1 h2 h3 h4, q => .ins (by rw [del_ne (fun z => by rw [z, ha] at h1; cases h1)]; exact h1) h2 h3 (RepAll.drop1 ha h4 q)
theorem RepAll.drop1 {K : PySem.W.Frag} {h : Hp} {a : Addr} {xs : List V} (ha : h a = some (.lst xs)) : ∀ {vs : List V} {ds : List D}, RepAll K h vs ds → noLs ds = true → RepAll K (del h a) vs ds
  | _, _, .nil, _ => .nil
  | _, _, .cons h1 h2, q => .cons (Rep.drop1 ha h1 (Bool.and_eq_true_iff.mp q).1) (RepAll.drop1 ha h2 (Bool.and_eq_true_iff.mp q).2)
end
/-- C(e, xs), xs the list of slot i -/
def fMkB (fn : List D → Option D) (f : FE) (i : Nat) : FE := fun ρ => (f ρ).bind fun p => match p.2[i]? with
  | some (Sl.o (.lst ds)) => (fn [p.1, .lst ds]).bind fun r => if noL r then some (r, p.2) else none
  | _ => none
section
variable {X : Cx} {e1 : Expr} {f : FE} {pos p p2 : Pos} {x y : Str} {k j n kk i : Nat} {body : FS}
theorem ve_makeB {c : Str} (hm : Mak X.prog X.w X.K X.mg X.base k x (He.ga X.K c) (spI X.K c n (iniD c n kk body)) []) (hr : Room j X.A) (hk : k + 1 ≤ j) (hg : Gl X x) (ha : VE X e1 f) (hb : PE X (.Name y p2) (tVar i))
    (hdb : (x == ("__debug__" : Str)) = false := by decide) (hs1 : starEach [e1, .Name y p2] X.env = (false, eval e1 X.env) :: starEach [.Name y p2] X.env := by rfl) (hs2 : starEach [.Name y p2] X.env = (false, eval (.Name y p2) X.env) :: starEach [] X.env := by rfl)
    (hpl : (backTo pos (starEach [.Name y p2] X.env)).any (·.1) = false := by rfl) :
    VE X (.Call (.Name x p) [e1, .Name y p2] [] pos) (fMkB (iniD c n kk body) f i) := by
  refine weakE (C8.pe_mk hm hr hk hg (pa_cons ha (pa_cons hb pa_nil hs2) hs1) hdb hs1 hpl) fun σ H Q q => ?_
  obtain ⟨w, ρ, z, ρ', ok, ef, kq⟩ := q
  obtain ⟨⟨d1, ρ1⟩, g1, g2⟩ := Option.bind_eq_some_iff.mp ef
  refine ⟨w, ρ, d1, ρ1, ok, g1, fun v1 w1 H1 f1 ok1 r1 => ?_⟩
  split at g2
  case h_2 => cases g2
  rename_i ds hsl
  obtain ⟨r, g3, g4⟩ := Option.bind_eq_some_iff.mp g2
  split at g4
  case isFalse => cases g4
  rename_i hno
  cases g4
  obtain ⟨u, hu, ro⟩ := ok1.ow i _ hsl
  cases ro with
  | @lst a xs ds' h1 h2 h3 h4 =>
    refine ⟨_, hu, fun yy dx hy hdx ne => ?_⟩
    have hsa : w1.hs a = none := ok1.disj a i h1
    obtain ⟨z1, z2⟩ := ok1.free hy
    have hay : a ≠ yy := ne_of_none h2 hy
    have old : ∀ b o, H1 b = some o → upd (upd H1 dx (.own yy)) yy (.ins (He.ga X.K c) dx []) b = some o := fun b o q => by
      rw [upd_ne (ne_of_none q hy), upd_ne (ne_of_none q hdx)]; exact q
    have sm : Same w1.hs (upd w1.hs a (.lst xs)) := fun b o q => by
      rw [upd_ne (fun z => by subst z; rw [hsa] at q; cases q)]; exact q
    refine ⟨yy, dx, [v1, .ref a], rfl, upd_same, upd w1.hs a (.lst xs), [d1, .lst ds], z, by rw [upd_ne hay.symm]; exact z1, fun b o q => ?_, fun b ys q => ?_,
      .cons (r1.mono (.of sm)) (.cons (.lst (SqL.of upd_same) h3 (h4.mono (.of sm))) .nil), iniD_len g3, g3, fun hs' H' s1 s2 s3 s4 t4 s5 r' => ⟨rfl, ?_⟩⟩
    · by_cases hb' : b = a
      · subst hb'; rw [upd_same] at q; cases q; exact .inl (old _ _ h2)
      · rw [upd_ne hb'] at q
        rcases ok1.sub b o q with q' | ⟨n, ob, q'⟩
        · exact .inl (old b o q')
        · exact .inr ⟨n, ob, old b _ q'⟩
    · by_cases n1 : b = yy
      · subst n1; rw [upd_same] at q; cases q
      · rw [upd_ne n1] at q
        by_cases n2 : b = dx
        · subst n2; rw [upd_same] at q; cases q
        · rw [upd_ne n2] at q
          exact sm b _ (ok1.tups b ys q)
    · have ke : ∀ b o, H1 b = some o → H' b = some o := fun b o q => s1 b o (ne_of_none q hy) (old b o q)
      have ha' : hs' a = some (.lst xs) := s3 a _ upd_same
      have smd : Same w1.hs (del hs' a) := fun b o q => by
        rw [del_ne (fun z => by subst z; rw [hsa] at q; cases q)]
        exact s3 b o (sm b o q)
      have nod : ∀ b o, H1 b = some o → w1.hs b = none → del hs' a b = none := fun b o q hn => by
        by_cases hb' : b = a
        · subst hb'; exact del_same
        · rw [del_ne hb']
          exact s5 b o (old b o q) (ne_of_none q hy) (by rw [upd_ne hb']; exact hn)
      refine kq _ ⟨del hs' a, w1.own, w1.me, w1.me2⟩ H' (f1.trans ⟨smd, fun b o q n => ⟨ke b o q, n, fun z => nod b o q z⟩, (fun b o q => ⟨o, ke b o q⟩), rfl, rfl⟩) (ok1.keep smd (fun b o q => ?_) rfl ⟨rfl, rfl⟩ (fun b i q => ?_) (fun b i q => ?_) fun b ys q => ?_) (Rep.drop1 ha' r' hno)
      · have q0 : del hs' a b = some o := q
        have hb' : b ≠ a := fun z => by subst z; rw [del_same] at q0; cases q0
        rw [del_ne hb'] at q0
        exact s4 b o q0
      · obtain ⟨o, ho⟩ := ok1.live b i q
        exact nod b o ho (ok1.disj b i q)
      · obtain ⟨o, ho⟩ := ok1.live b i q
        rw [ke b o ho, ho]
      · have hb' : b ≠ a := fun z => by
          subst z
          rw [ke _ _ h2] at q; cases q
        show del hs' a b = _
        rw [del_ne hb']
        exact t4 b ys q
end
end VS
set_option autoImplicit false
/-! the head's facts of own exception classes -/
namespace AR
open PySem PySem.Spec PyProof.Rows L2
theorem band {a b : Bool} (h : (a && b) = true) : a = true ∧ b = true := Bool.and_eq_true_iff.mp h
def oxB (K : PySem.W.Frag) (C : Addr) : Bool := (match K.lookup C with
  | some ⟨.type "type", _, .cls cd, sl⟩ => (match cd.mro, sl.toList with
    | .ref C' :: bm, [_, _, _, _, some (.builtin n), _] => C' == C && (n == "ValueError.__new__" && (!cd.hasDel && (cd.hasDict && PySem.HandSPX.refsVE bm)))
    | _, _ => false)
  | _ => false) && (decide (PySem.W.findIn K (.ref C) "__setattr__" = some (some (.builtin "object.__setattr__"))) && (decide (PySem.W.subIn K (.ref C) (.type "BaseException") = some true) && (decide (PySem.W.typeIn K (.ref C) = some (.type "type")) && PySem.W.keepIn K (.ref C))))
theorem oxB_ok {K : PySem.W.Frag} {C : Addr} (h : oxB K C = true) : OexC K C := by
  obtain ⟨q, h⟩ := band h
  obtain ⟨h1, h⟩ := band h
  obtain ⟨h2, h⟩ := band h
  obtain ⟨h3, h4⟩ := band h
  refine ⟨?_, of_decide_eq_true h1, of_decide_eq_true h2, of_decide_eq_true h3, h4⟩
  split at q
  · rename_i dd cd sl ho
    split at q
    · rename_i C' bm k0 k1 k2 k3 n k5 hm hs
      simp only [Bool.and_eq_true, beq_iff_eq, Bool.not_eq_true'] at q
      obtain ⟨rfl, rfl, hdel, hdc, ht⟩ := q
      obtain ⟨nm, bs, mro, ns, qn, hd, sn, sub, ab, col, del⟩ := cd
      dsimp only at hm hdel hdc
      subst hm hdel hdc
      have hsl : sl = #[k0, k1, k2, k3, some (.builtin "ValueError.__new__"), k5] := by
        obtain ⟨l⟩ := sl
        simp only at hs
        rw [hs]
      subst hsl
      exact ⟨nm, qn, ns, bs, bm, sn, sub, ab, col, dd, k0, k1, k2, k3, k5, ho, ht⟩
    · cases q
  · cases q
def xcB (K : PySem.W.Frag) (C : Addr) (f : Str) : Bool := oxB K C && (PySem.W.excInitIn K C veB "ValueError.__new__" && (decide (PySem.W.ks_superIn K C C "__init__" = some (some (.builtin "ValueError.__init__"))) && (decide (PySem.W.subIn K (.ref C) (.type "ValueError") = some true) &&
  (decide (PySem.W.mroIn K C (.ref C) = some true) && decide (PySem.W.findIn K (.ref C) f = some none)))))
theorem xcB_ok {K : PySem.W.Frag} {C : Addr} {f : Str} (h : xcB K C f = true) : XiC K C f := by
  obtain ⟨h1, h⟩ := band h
  obtain ⟨h2, h⟩ := band h
  obtain ⟨h3, h⟩ := band h
  obtain ⟨h4, h⟩ := band h
  obtain ⟨h5, h7⟩ := band h
  exact ⟨oxB_ok h1, h2, of_decide_eq_true h3, of_decide_eq_true h4, of_decide_eq_true h5, of_decide_eq_true h7⟩
def excB (K : PySem.W.Frag) (D : Addr) : Bool := decide (PySem.W.findIn K (.ref D) "__getattribute__" = some (some (.builtin "BaseException.__getattribute__"))) && (decide (PySem.W.findIn K (.ref D) "__getattr__" = some none) && (decide (PySem.W.subIn K (.ref D) (.type "BaseException") = some true) &&
  (PySem.W.hasDictIn K D && (decide (PySem.W.findIn K (.ref D) "__class__" = some (some (.builtin "object.__class__"))) && (decide (PySem.W.specialIn K (.builtin "object.__class__") "__get__" = some (some (.builtin "getset_descriptor.__get__"))) &&
  (decide (PySem.W.takesIn K (.builtin "object.__class__") = some true) && decide (PySem.W.mroIn K D (.type "object") = some true)))))))
theorem excB_ok {K : PySem.W.Frag} {D : Addr} (h : excB K D = true) : ExcC K D ∧ XfC K D := by
  obtain ⟨h1, h⟩ := band h
  obtain ⟨h2, h⟩ := band h
  obtain ⟨h3, h⟩ := band h
  obtain ⟨h4, h⟩ := band h
  obtain ⟨h5, h⟩ := band h
  obtain ⟨h6, h⟩ := band h
  obtain ⟨h7, h8⟩ := band h
  exact ⟨⟨of_decide_eq_true h1, of_decide_eq_true h2, of_decide_eq_true h3, h4, of_decide_eq_true h5, of_decide_eq_true h6, of_decide_eq_true h7, of_decide_eq_true h8⟩, ⟨of_decide_eq_true h1, of_decide_eq_true h2, of_decide_eq_true h3, h4⟩⟩
/-- the __init__ of an own exception class, as the text has it -/
structure XD where
  cn : Str
  fl : Str
  qual : Str
  params : Arguments
  body : List Stmt
  scope : Scope
abbrev XW : Type := Option (Str × Str × Arguments × FuncBody × Scope × Addr × List Str × Addr)
def XD.val (d : XD) : XW := some ("__init__", d.qual, d.params, .stmts d.body, d.scope, mainGlobals, ["__class__"], builtinsNs)
def XD.obs (K : PySem.W.Frag) (d : XD) : XW := match K.lookup (He.fAd K (d.cn, some "__init__")) with
  | some ⟨_, _, .func fd, _⟩ => some (fd.name, fd.qualname, fd.params, fd.body, fd.scope, fd.globals, fd.closure.map (·.1), fd.builtins)
  | _ => none
def XD.ok (file : Str) (K : PySem.W.Frag) (d : XD) : Bool := xcB K (He.ga K d.cn) d.fl && (excB K (He.ga K d.cn) && (decide (PySem.W.findIn K (.ref (He.ga K d.cn)) "__init__" = some (some (.ref (He.fAd K (d.cn, some "__init__"))))) && (decide (PySem.W.typeIn K (.ref (He.fAd K (d.cn, some "__init__"))) = some (.type "function")) &&
  (decide (PySem.W.exmOne K (.ref (He.ga K d.cn)) (.ref (He.ga K d.cn)) = some true) && (match K.lookup (He.fAd K (d.cn, some "__init__")) with
    | some ⟨_, _, .func fd, _⟩ => (match fd.defaults, fd.kwdefaults with
      | .none, .none => true
      | _, _ => false) && (PySem.W.codeIn K fd.code d.qual && (match fd.code, fd.closure with
      | .ref cda, [(_, cc)] => (match K.lookup cda with
        | some ⟨_, _, .fields vs, _⟩ => (match (vs[2]? : Option Value) with
          | some (Value.str fl _) => decide (file = fl)
          | _ => false)
        | _ => false) && (match K.lookup cc with
        | some ⟨_, _, .cell (some (.ref C)), _⟩ => C == He.ga K d.cn
        | _ => false)
      | _, _ => false))
    | _ => false)))))
theorem XD.xif {P : Program} {K : PySem.W.Frag} {d : XD} (h : d.ok P.main.file K = true) (e : d.obs K = d.val) : XiC K (He.ga K d.cn) d.fl ∧ ExcC K (He.ga K d.cn) ∧ XfC K (He.ga K d.cn) ∧ PySem.W.exmOne K (.ref (He.ga K d.cn)) (.ref (He.ga K d.cn)) = some true ∧
    PySem.W.findIn K (.ref (He.ga K d.cn)) "__init__" = some (some (.ref (He.fAd K (d.cn, some "__init__")))) ∧ PySem.W.typeIn K (.ref (He.fAd K (d.cn, some "__init__"))) = some (.type "function") ∧
    ∃ fd cda cc, XiF P K (He.ga K d.cn) (He.fAd K (d.cn, some "__init__")) "__init__" d.qual d.params d.body d.scope fd cda cc ∧ fd.defaults = .none ∧ fd.kwdefaults = .none := by
  obtain ⟨h1, h⟩ := band h
  obtain ⟨h2, h⟩ := band h
  obtain ⟨h3, h⟩ := band h
  obtain ⟨h4, h⟩ := band h
  obtain ⟨h5, h6⟩ := band h
  refine ⟨xcB_ok h1, (excB_ok h2).1, (excB_ok h2).2, of_decide_eq_true h5, of_decide_eq_true h3, of_decide_eq_true h4, ?_⟩
  unfold XD.obs at e
  cases q : K.lookup (He.fAd K (d.cn, some "__init__")) with
  | none => rw [q] at e; cases e
  | some o =>
    obtain ⟨oc, od, dt, osl⟩ := o
    rw [q] at e h6
    cases dt with
    | func fd =>
      obtain ⟨n1, n2, n3, n4, n5, n6, n7, n8, n9, n10, n11, n12, n13, n14, n15⟩ := fd
      have e2 : (some (n1, n2, n3, n4, n5, n6, n7.map (·.1), n15) : XW) = d.val := e
      unfold XD.val at e2
      simp only [Option.some.injEq, Prod.mk.injEq] at e2
      obtain ⟨g1, g2, g3, g4, g5, g6, g7, g8⟩ := e2
      subst g1 g2 g3 g4 g5 g6 g8
      dsimp only at h6
      obtain ⟨c0, h6⟩ := band h6
      obtain ⟨c1, c2⟩ := band h6
      have cdf : n8 = .none ∧ n9 = .none := by
        cases n8 <;> cases n9 <;> first | exact ⟨rfl, rfl⟩ | cases c0
      have shape : ∃ cda nm cc, n13 = .ref cda ∧ n7 = [(nm, cc)] := by
        clear h6 q e
        cases n13 <;> try (cases c2; done)
        rename_i cda
        cases n7 with
        | nil => cases c2
        | cons q r =>
          cases r with
          | nil => exact ⟨cda, q.1, q.2, rfl, rfl⟩
          | cons => cases c2
      obtain ⟨cda, nm, cc, rfl, rfl⟩ := shape
      obtain ⟨c3, c4⟩ := band c2
      have gn : nm = "__class__" := by simpa using g7
      subst gn
      refine ⟨_, cda, cc, ⟨⟨oc, od, _, _, _, _, _, _, _, rfl, q⟩, c1, ?_, ?_⟩, cdf.1, cdf.2⟩
      · split at c3
        · rename_i ccl cdd vs ccs ho
          split at c3
          · rename_i fl tf hv
            exact ⟨_, _, _, _, fl, tf, ho, hv, by rw [of_decide_eq_true c3]; simp⟩
          · cases c3
        · cases c3
      · split at c4
        · rename_i cl cld C csl ho
          have : C = He.ga K d.cn := by simpa using c4
          subst this
          exact ⟨_, _, _, ho⟩
        · cases c4
    | _ => cases e
end AR
namespace AR
open PySem PySem.Spec PyProof.Rows L2 He
/-! ### the Hook -/
abbrev AlY : Type := AlX × List XW × Bool
def opqB (g : Addr → Option Obj) : Bool := decide (PySem.W.nsIn (frT g [PySem.cStatics]) PySem.cStatics "thirdparty.any" = some none)
def obsY (n : Nat) (fa : List Fa) (fn : List DefD) (xs : List XD) (ex : PySem.W.Frag → Bool) (file : Str) (g : Addr → Option Obj) : AlY :=
  (obsX n fa fn [] [] (fun K => ex K && xs.all fun d => d.ok file K) g, xs.map fun d => d.obs (frT g (asD g n)), opqB g)
def valY (fn : List DefD) (xs : List XD) (w : World) : AlY := (valX fn [] w, xs.map XD.val, true)
structure SaysY (fa : List Fa) (fn : List DefD) (xs : List XD) (ex : PySem.W.Frag → Bool) (file : Str) (w : World) (h : Heap) (K : PySem.W.Frag) : Prop where
  x : SaysX fa fn [] [] (fun K => ex K && xs.all fun d => d.ok file K) w h K
  o : (xs.map fun d => d.obs K) = xs.map XD.val
  q : NoOpq h
theorem NoOpq.keeps {h h' : Heap} (q : NoOpq h) (k : ∀ b o, h.get? b = some o → h'.get? b = some o) : NoOpq h' := by
  obtain ⟨K2, h1, h2⟩ := q
  exact ⟨K2, h1.keeps k, h2⟩
def hookY (n : Nat) (fa : List Fa) (fn : List DefD) (xs : List XD) (ex : PySem.W.Frag → Bool) (file : Str) : PySem.W.Hook where
  α := AlY
  obs := fun s => obsY n fa fn xs ex file s.heap.get?
  val := fun w => valY fn xs w
  says := fun w h => ∃ K : PySem.W.Frag, K.In h ∧ SaysY fa fn xs ex file w h K
  of := fun _ s e => ⟨_, frT_in, saysX_of (congrArg (fun z : AlY => z.1) e), congrArg (fun z : AlY => z.2.1) e, ⟨frT s.heap.get? [PySem.cStatics], frT_in, of_decide_eq_true (show opqB s.heap.get? = true from congrArg (fun z : AlY => z.2.2) e)⟩⟩
  keeps := fun _ _ _ ⟨K, hK, c⟩ k => ⟨K, PySem.W.Frag.In.keeps hK k, ⟨⟨c.x.t, c.x.more, c.x.hd, c.x.out, fun p hp => k _ _ (c.x.empty p hp)⟩, c.o, c.q.keeps k⟩⟩
theorem obsY_eq {n : Nat} {fa : List Fa} {fn : List DefD} {xs : List XD} {ex : PySem.W.Frag → Bool} {file : Str} {g : Addr → Option Obj} {s : Shared} (h : ∀ a, g a = s.heap.get? a) : obsY n fa fn xs ex file g = (hookY n fa fn xs ex file).obs s := by
  have e : g = s.heap.get? := funext h
  rw [e] <;> rfl
theorem SaysY.xd {fa : List Fa} {fn : List DefD} {xs : List XD} {ex : PySem.W.Frag → Bool} {file : Str} {w : World} {h : Heap} {K : PySem.W.Frag} (c : SaysY fa fn xs ex file w h K) (i : Nat) {d : XD} (hi : xs[i]? = some d := by rfl) : d.ok file K = true ∧ d.obs K = d.val := by
  refine ⟨List.all_eq_true.mp (band c.x.more).2 d (List.mem_of_getElem? hi), ?_⟩
  have e2 : (xs.map fun d => d.obs K)[i]? = (xs.map XD.val)[i]? := by rw [c.o]
  rw [List.getElem?_map, List.getElem?_map, hi] at e2
  exact Option.some.inj e2
theorem SaysY.ex' {fa : List Fa} {fn : List DefD} {xs : List XD} {ex : PySem.W.Frag → Bool} {file : Str} {w : World} {h : Heap} {K : PySem.W.Frag} (c : SaysY fa fn xs ex file w h K) : ex K = true := (band c.x.more).1
end AR
set_option autoImplicit false
/-! an own exception class, from the head's facts -/
namespace VS
open PySem PySem.Spec PyProof.Rows L2 AR
theorem XMk.of {P : Program} {w : World} {K : PySem.W.Frag} {mg : Str → Option Value} {base : Heap} {k : Nat} {d : XD} {txt pv : Str} {p0 p1 p2 p3 p4 p5 p6 p7 p8 p9 : Pos} {j : Nat} (hd : d.ok P.main.file K = true) (ho : d.obs K = d.val)
    (hb : d.body = xiBody txt d.fl pv p0 p1 p2 p3 p4 p5 p6 p7 p8 p9 j) (S : XiS P pv d.params d.scope) (hop : NoOpq base) (hsm : mg "super" = none) (hmg : mg d.cn = some (.ref (He.ga K d.cn)))
    (hbind : ∀ (doc pm : Value) (an : Option Addr) (cda : Addr) (ct : Value) (cc : Addr) (us : List Value), us.length = 2 → bindArgs (PySem.W.ksFn "__init__" d.qual d.params d.body d.scope .none .none doc pm an (.ref cda) ct cc) ⟨us, []⟩ = pure ((["self", pv] : List Str).zip us))
    {pl : Sem Bool}
    (hcall : ∀ env : Env, eval (.Call (.Attribute (.Call (.Name "super" p0) [] [] p1) "__init__" p2) [.Constant (.str txt) j p3] [] p4) env = (do
      let ov ← attributeBase (.Call (.Name "super" p0) [] [] p1) "__init__" env (eval (.Call (.Name "super" p0) [] [] p1) env)
      standAt p2.atName
      let (f, first) ← holding [ov] (getMethod ov "__init__" pl)
      callWith p4 f first (backTo p4 (starEach [.Constant (.str txt) j p3] env)) []) := by intro _; rfl)
    (hs1 : ∀ env : Env, swapsWith (.Call (.Attribute (.Call (.Name "super" p0) [] [] p1) "__init__" p2) [.Constant (.str txt) j p3] [] p4) none p5.line env = pure false := by intro _; rfl)
    (hs2 : ∀ env : Env, swapsWith (.Name pv p8) (some (.Attribute (.Name "self" p6) d.fl p7)) p9.line env = pure false := by intro _; rfl)
    (hdp : (pv == ("__debug__" : Str)) = false := by decide) : XMk P w K mg base k d.cn d.fl := by
  obtain ⟨T, E, X, m, i1, i2, fd, cda, cc, F, f1, f2⟩ := XD.xif hd ho
  refine ⟨He.fAd K (d.cn, some "__init__"), fd, ["self", pv], T.ox, i1, i2, exc_init_fn T (by rw [← hb]; exact F) S hop hsm hdp hcall hs1 hs2, ?_, hmg⟩
  obtain ⟨oc, od, dV, kV, doc, pm, an, ct, osl, rfl, lk⟩ := F.ex
  have g1 : dV = .none := f1
  have g2 : kV = .none := f2
  subst g1 g2
  exact Binds.all fun us hl => hbind _ _ _ _ _ _ us hl
end VS
set_option autoImplicit false
namespace VS
open PySem PySem.Spec PyProof.Rows L2 AR
/-! ### isinstance(x, C), C an own class: of an instance of C, or of a plain value -/
structure IsW (K : PySem.W.Frag) (c : Str) : Prop where
  ins : C8.InsC K (He.ga K c)
  no : ∀ T ∈ ["NoneType", "bool", "int", "str", "list", "tuple"], PySem.W.kitOne K (.type T) (.ref (He.ga K c)) = some false
theorem tyN_mem {d : D} {T : String} (h : tyN d = some T) : T ∈ ["NoneType", "bool", "int", "str", "list", "tuple"] := by
  cases d <;> first | (cases h; decide) | cases h
def isWO (c : Str) : D → Option D
  | .ins c' _ _ => if c' = c then some (.bl true) else none
  | d => (tyN d).map fun _ => .bl false
section
variable {X : Cx} {a : Expr} {f : FE} {p pos p2 p3 : Pos} {c : Str}
theorem ve_isW (k : IsW X.K c) (hg : Gl X "isinstance") (hb : X.mg "isinstance" = none) (h : VP X a f) (hgT : Gl X c) (hmT : X.mg c = some (.ref (He.ga X.K c))) (hd : (c == ("__debug__" : Str)) = false)
    (he : starEach [a, .Name c p2] X.env = (false, eval a X.env) :: starEach [.Name c p2] X.env := by rfl) (he2 : starEach [.Name c p2] X.env = (false, eval (.Name c p2) X.env) :: starEach [] X.env := by rfl) (hpl : (backTo pos (starEach [.Name c p2] X.env)).any (·.1) = false := by rfl) :
    VE X (.Call (.Name "isinstance" p) [a, .Name c p2] [] pos) (fU (isWO c) f) := by
  refine ve_unP (ι := Unit) (r := fun _ x H Q => rIsi X.K [x, .ref (He.ga X.K c)] H Q) (fun _ => pe_callB call_isi hg hb (by decide +kernel) (pa_cons h (pa_cons (pe_glob hgT hmT (v := .ref (He.ga X.K c)) rfl hd) pa_nil he2) he) (he := he) (hpl := hpl)) fun d d' ed => ⟨(), fun w ρ σ H v Q ok r kk => ?_⟩
  have base : ∀ T, tyN d = some T → d' = .bl false → rIsi X.K [v, .ref (He.ga X.K c)] H Q := fun T hT e => by
    subst e
    exact ⟨_, _, _, _, false, rfl, .own _, ty_view r hT, k.no T (tyN_mem hT), kk _ w H (.refl _ _) ok (.bl _)⟩
  cases r with
  | ins h1 h2 h3 h4 =>
    unfold isWO at ed
    split at ed
    · rename_i hc
      split at ed
      · rename_i e
        cases ed
        cases hc
        subst e
        subst h2
        exact ⟨_, _, _, _, true, rfl, .own _, .base (.ins h1 k.ins.cl k.ins.ha k.ins.hn k.ins.htk k.ins.hm), k.ins.me, kk _ w H (.refl _ _) ok (.bl _)⟩
      · cases ed
    · rename_i hc
      exact absurd rfl (hc _ _ _)
  | non => cases ed; exact base _ rfl rfl
  | bl _ => cases ed; exact base _ rfl rfl
  | int _ => cases ed; exact base _ rfl rfl
  | str _ => cases ed; exact base _ rfl rfl
  | lst _ _ _ => cases ed; exact base _ rfl rfl
  | tup _ _ _ => cases ed; exact base _ rfl rfl
  | ktp _ _ _ => cases ed; exact base _ rfl rfl
  | _ => cases ed
end
/-! ### x[::step], the step -1 -/
def revO : D → D → Option D
  | .lst xs, .int i => if i = -1 then some (.lst xs.reverse) else none
  | _, _ => none
def fRev (f g : FE) : FE := fun ρ => (f ρ).bind fun p => (g p.2).bind fun q => (revO p.1 q.1).map fun d => (d, q.2)
section
variable {X : Cx} {e se : Expr} {f g : FE} {p3 pos : Pos}
/-- a list turned about is new -/
theorem vn_rev (h : VE X e f) (hs : VE X se g) : VN X (.Subscript e (.Slice none none (some se) p3) pos) (fRev f g) := by
  refine weakE (pe_revX X.K h hs) fun σ H Q q => ?_
  obtain ⟨w, ρ, z, ρ', ok, ef, kk⟩ := q
  obtain ⟨⟨x, ρ1⟩, e1, e2⟩ := Option.bind_eq_some_iff.mp ef
  obtain ⟨⟨l, ρ2⟩, e3, e4⟩ := Option.bind_eq_some_iff.mp e2
  obtain ⟨z2, e7, e8⟩ := Option.map_eq_some_iff.mp e4
  cases e8
  refine ⟨w, ρ, _, _, ok, e1, fun v w1 H1 f1 ok1 r1 => ⟨w1, _, _, _, ok1, e3, fun u w2 H2 f2 ok2 r2 => ?_⟩⟩
  cases x <;> try (cases e7; done)
  cases l <;> try (cases e7; done)
  rename_i xs i
  have e7' : (if i = -1 then some (D.lst xs.reverse) else none) = some z := e7
  split at e7'
  · rename_i ei
    subst ei
    cases e7'
    have r3 := r1.mono (.of f2.sh)
    cases r2
    cases r3 with
    | @lst a vs _ q l' t =>
      refine ⟨_, _, rfl, rfl, ok2.sub.sqL q, new_lst ok2 t.rev (by rw [List.length_reverse]; exact l') fun v' w' H' f' ok' r' => kk v' w' H' ((f1.trans f2).trans f') ok' (r'.old (f1.trans f2))⟩
  · cases e7'
theorem ve_rev (h : VE X e f) (hs : VE X se g) : VE X (.Subscript e (.Slice none none (some se) p3) pos) (fRev f g) := by
  refine weakE (pe_revX X.K h hs) fun σ H Q q => ?_
  obtain ⟨w, ρ, z, ρ', ok, ef, kk⟩ := q
  obtain ⟨⟨x, ρ1⟩, e1, e2⟩ := Option.bind_eq_some_iff.mp ef
  obtain ⟨⟨l, ρ2⟩, e3, e4⟩ := Option.bind_eq_some_iff.mp e2
  obtain ⟨z2, e7, e8⟩ := Option.map_eq_some_iff.mp e4
  cases e8
  refine ⟨w, ρ, _, _, ok, e1, fun v w1 H1 f1 ok1 r1 => ⟨w1, _, _, _, ok1, e3, fun u w2 H2 f2 ok2 r2 => ?_⟩⟩
  cases x <;> try (cases e7; done)
  cases l <;> try (cases e7; done)
  rename_i xs i
  have e7' : (if i = -1 then some (D.lst xs.reverse) else none) = some z := e7
  split at e7'
  · rename_i ei
    subst ei
    cases e7'
    have r3 := r1.mono (.of f2.sh)
    cases r2
    cases r3 with
    | @lst a vs _ q l' t =>
      refine ⟨_, _, rfl, rfl, ok2.sub.sqL q, new_lst ok2 t.rev (by rw [List.length_reverse]; exact l') fun v' w' H' f' ok' r' => ?_⟩
      obtain ⟨w4, f4, ok4, r4⟩ := r'.share (fun p c z => nomatch z) ok' f'
      exact kk v' w4 H' ((f1.trans f2).trans f4) ok4 r4
  · cases e7'
end
end VS
set_option autoImplicit false
namespace VS
open PySem PySem.Spec PyProof.Rows L2 AR
open C8 (Cal Met Mak)
/-- a class that is called with the keywords ks alone -/
structure IDK (K : PySem.W.Frag) (mg : Str → Option Value) (x : Str) (C : Addr) (qual : Str) (st : Stmt) (ps ks : List Str) (is : List Nat) : Prop where
  ex : ∃ (f : Addr) (fd : FuncData), FunD K "__init__" qual (defArgs st) (defBody st) (defScope st) [] [] f fd ∧ Mk K C f ∧ mg x = some (.ref C) ∧ KBn K fd ps 1 ks (fun us ws => permL is (us ++ ws)) (fun vs zs => permL is (vs ++ zs))
section
variable {P : Program} {w : World} {K : PySem.W.Frag} {mg : Str → Option Value} {base : Heap}
theorem MDK.vmetK {C : Addr} {m qual : Str} {st : Stmt} {N ps ks : List Str} {is : List Nat} {k n kk : Nat} {body : FS} (M : MDK K C m qual st ps ks is) (c : Cls K C) (S : FnScope N ps (defScope st)) (hn : ps.length = n) (hkk : N.length = kk)
    (hbody : ∀ (f : Addr) (cdv : Value) (A : Around) (outer : List Env) (s : Shared) (H : Hp) (E : XK), Room k (A.deeper (envOfC qual (defScope st) s.heap.objs.size f cdv)) →
      VSs (cxOf CX0 P w K mg base N qual (defScope st) f cdv A outer s H E).nox (defBody st) body) : MetK P w K mg base (k + 1) C m ks is (spF K n (fnD n kk body)) := by
  subst hkk
  obtain ⟨f, fd, F, mk, b⟩ := M.ex
  refine ⟨f, fd, ps, c, mk, F.ok S (fun vs H Q E h => ?_) fun cdv A outer s H vs Q E hr h => ⟨_, PSs.nox (hbody f cdv A outer s H E hr), body_ok h⟩, b⟩
  obtain ⟨hs, ds, r, s, tp, rp, hl, _⟩ := h
  rw [rp.length, hl, hn]
theorem IDK.vmakK {x qual c : Str} {st : Stmt} {N ps ks : List Str} {is : List Nat} {k n kk : Nat} {body : FS} (M : IDK K mg x (He.ga K c) qual st ps ks is) (S : FnScope N ps (defScope st)) (hn : ps.length = n + 1) (hkk : N.length = kk)
    (hbody : ∀ (f : Addr) (cdv : Value) (A : Around) (outer : List Env) (s : Shared) (H : Hp) (E : XK), Room k (A.deeper (envOfC qual (defScope st) s.heap.objs.size f cdv)) →
      VSs (cxOf CX0 P w K mg base N qual (defScope st) f cdv A outer s H E).nox (defBody st) body) : MakK P w K mg base (k + 1) x (He.ga K c) ks is (spI K c n (iniD c n kk body)) := by
  subst hkk
  obtain ⟨f, fd, F, mk, hm, b⟩ := M.ex
  refine ⟨f, fd, ps, mk, F.ok S (fun vs H Q E h => ?_) fun cdv A outer s H vs Q E hr h => ⟨_, PSs.nox (hbody f cdv A outer s H E hr), init_ok h⟩, hm, b⟩
  obtain ⟨x, dx, vs', rfl, hx, hs, ds, r, hs0, s, tp, rp, hl, _⟩ := h
  rw [List.length_cons, rp.length, hl, hn]
end
end VS
set_option autoImplicit false
namespace VS
open PySem PySem.Spec PyProof.Rows L2 AR
/-! ### tuple(x) of an own list that is looked at alone -/
def tupLO : D → Option D
  | .lst ds => some (.tup ds)
  | _ => none
section
variable {X : Cx} {a : Expr} {f : FE} {p pos : Pos}
theorem ve_tupleP (hg : Gl X "tuple") (hb : X.mg "tuple" = none) (h : VP X a f) (he : starEach [a] X.env = (false, eval a X.env) :: starEach [] X.env := by rfl) : VE X (.Call (.Name "tuple" p) [a] [] pos) (fU tupLO f) := by
  refine ve_unP (ι := Unit) (r := fun _ x H Q => rTupQ X.K [x] H Q) (fun _ => pe_callTy (call_tupK X.K) hg hb (by decide +kernel) (pa_cons h pa_nil he) (he := he)) fun d d' ed => ⟨(), fun w ρ σ H v Q ok r k => ?_⟩
  cases r with
  | lst q l t => cases ed; exact ⟨_, _, rfl, .inl ⟨q, new_tup ok t l k⟩⟩
  | _ => cases ed
end
end VS
set_option autoImplicit false
namespace VS
open PySem PySem.Spec PyProof.Rows L2 AR
/-! ### meanings computed: loops, comprehensions -/
def isFl : BoxC → Prop
  | .flow _ _ _ => True
  | _ => False

theorem lc_map {us : List Nat} {fg : FG} {fe : FE} (g : D → D) {E0 : En} : ∀ (xs : List D) (ρ : En), wipeE ρ us = E0 → (∀ x ∈ xs, ∃ ρ1 ρ2, fg x E0 = some ρ1 ∧ fe ρ1 = some (g x, ρ2) ∧ wipeE ρ2 us = E0) → ∃ ρ', lcL us fg cYes fe xs ρ = some (xs.map g, ρ') ∧ wipeE ρ' us = E0
  | [], ρ, h, _ => ⟨ρ, rfl, h⟩
  | x :: xs, ρ, h, k => by
    obtain ⟨ρ1, ρ2, h1, h2, h3⟩ := k x List.mem_cons_self
    obtain ⟨ρ', h4, h5⟩ := lc_map g xs ρ2 h3 fun y hy => k y (List.mem_cons_of_mem _ hy)
    refine ⟨ρ', ?_, h5⟩
    unfold lcL
    rw [h, h1]
    show (fe ρ1).bind _ = _
    rw [h2]
    show Option.map _ (lcL us fg cYes fe xs ρ2) = _
    rw [h4]; rfl
theorem fLC_map {us : List Nat} {fi : FI} {fg : FG} {fe : FE} (g : D → D) {ρ ρ0 E0 : En} {xs : List D} (hi : fi ρ = some (xs, ρ0)) (hw : wipeE ρ0 us = E0) (hl : xs.length ≤ sizeLine) (k : ∀ x ∈ xs, ∃ ρ1 ρ2, fg x E0 = some ρ1 ∧ fe ρ1 = some (g x, ρ2) ∧ wipeE ρ2 us = E0) : fLC us fi fg cYes fe ρ = some (.lst (xs.map g), E0) := by
  obtain ⟨ρ', h4, h5⟩ := lc_map g xs ρ0 hw k
  unfold fLC
  rw [hi]
  show (lcL us fg cYes fe xs ρ0).bind _ = _
  rw [h4]
  show Option.map _ (mkL (xs.map g)) = _
  unfold mkL
  rw [if_pos (by rw [List.length_map]; exact hl)]
  show some (_, wipeE ρ' us) = _
  rw [h5]
theorem lc_inv {us : List Nat} {fg : FG} {fe : FE} (I : En → Prop) (P : D → Prop) : ∀ (xs : List D) (ρ : En), I (wipeE ρ us) → (∀ x ∈ xs, ∀ E, I E → ∃ ρ1 d ρ2, fg x E = some ρ1 ∧ fe ρ1 = some (d, ρ2) ∧ P d ∧ I (wipeE ρ2 us)) → ∃ ds ρ', lcL us fg cYes fe xs ρ = some (ds, ρ') ∧ ds.length = xs.length ∧ (∀ d ∈ ds, P d) ∧ I (wipeE ρ' us)
  | [], ρ, h, _ => ⟨[], ρ, rfl, rfl, (fun _ z => nomatch z), h⟩
  | x :: xs, ρ, h, k => by
    obtain ⟨ρ1, d, ρ2, h1, h2, h3, h4⟩ := k x List.mem_cons_self _ h
    obtain ⟨ds, ρ', h5, h6, h7, h8⟩ := lc_inv I P xs ρ2 h4 fun y hy => k y (List.mem_cons_of_mem _ hy)
    refine ⟨d :: ds, ρ', ?_, congrArg (· + 1) h6, fun y hy => by rcases List.mem_cons.mp hy with q | q; exact q ▸ h3; exact h7 y q, h8⟩
    unfold lcL
    rw [h1]
    show (fe ρ1).bind _ = _
    rw [h2]
    show Option.map _ (lcL us fg cYes fe xs ρ2) = _
    rw [h5]; rfl
theorem fLC_inv {us : List Nat} {fi : FI} {fg : FG} {fe : FE} (I : En → Prop) (P : D → Prop) {ρ ρ0 : En} {xs : List D} (hi : fi ρ = some (xs, ρ0)) (hw : I (wipeE ρ0 us)) (hl : xs.length ≤ sizeLine) (k : ∀ x ∈ xs, ∀ E, I E → ∃ ρ1 d ρ2, fg x E = some ρ1 ∧ fe ρ1 = some (d, ρ2) ∧ P d ∧ I (wipeE ρ2 us)) : ∃ ds E, fLC us fi fg cYes fe ρ = some (.lst ds, E) ∧ ds.length = xs.length ∧ (∀ d ∈ ds, P d) ∧ I E := by
  obtain ⟨ds, ρ', h1, h2, h3, h4⟩ := lc_inv I P xs ρ0 hw k
  refine ⟨ds, wipeE ρ' us, ?_, h2, h3, h4⟩
  unfold fLC
  rw [hi]
  show (lcL us fg cYes fe xs ρ0).bind _ = _
  rw [h1]
  show Option.map _ (mkL ds) = _
  unfold mkL
  rw [if_pos (by rw [h2]; exact hl)]
  rfl
theorem for_rec {tg : FG} {b : FS} (I : List D → En → Prop) : ∀ (xs : List D) (ρ : En), I xs ρ → (∀ x xs ρ, I (x :: xs) ρ → ∃ ρ1 ρ2, tg x ρ = some ρ1 ∧ b ρ1 = some (.nx ρ2) ∧ I xs ρ2) → ∃ ρ', forL tg b xs ρ = some (.nx ρ') ∧ I [] ρ'
  | [], ρ, h, _ => ⟨ρ, rfl, h⟩
  | x :: xs, ρ, h, k => by
    obtain ⟨ρ1, ρ2, h1, h2, h3⟩ := k x xs ρ h
    obtain ⟨ρ', h4, h5⟩ := for_rec I xs ρ2 h3 k
    refine ⟨ρ', ?_, h5⟩
    unfold forL
    rw [h1]
    show (match b ρ1 with | some (.nx ρ2) => _ | some (.ct ρ2) => _ | some (.bk ρ2) => _ | some (.rt d ρ2) => _ | none => _) = _
    rw [h2]
    exact h4
theorem forL_nx {tg : FG} {b : FS} {x : D} {xs : List D} {ρ ρ1 ρ2 : En} (h1 : tg x ρ = some ρ1) (h2 : b ρ1 = some (.nx ρ2)) : forL tg b (x :: xs) ρ = forL tg b xs ρ2 := by
  show (tg x ρ).bind _ = _
  rw [h1]
  show (match b ρ1 with | some (.nx ρ2) => _ | some (.ct ρ2) => _ | some (.bk ρ2) => _ | some (.rt d ρ2) => _ | none => _) = _
  rw [h2]
theorem forL_bk {tg : FG} {b : FS} {x : D} {xs : List D} {ρ ρ1 ρ2 : En} (h1 : tg x ρ = some ρ1) (h2 : b ρ1 = some (.bk ρ2)) : forL tg b (x :: xs) ρ = some (.nx ρ2) := by
  show (tg x ρ).bind _ = _
  rw [h1]
  show (match b ρ1 with | some (.nx ρ2) => _ | some (.ct ρ2) => _ | some (.bk ρ2) => _ | some (.rt d ρ2) => _ | none => _) = _
  rw [h2]
theorem sFor_rec {fi : FI} {tg : FG} {b : FS} (I : List D → En → Prop) {xs : List D} {ρ ρ0 : En} (hi : fi ρ = some (xs, ρ0)) (h : I xs ρ0) (k : ∀ x xs ρ, I (x :: xs) ρ → ∃ ρ1 ρ2, tg x ρ = some ρ1 ∧ b ρ1 = some (.nx ρ2) ∧ I xs ρ2) : ∃ ρ', sFor fi tg b ρ = some (.nx ρ') ∧ I [] ρ' := by
  obtain ⟨ρ', h1, h2⟩ := for_rec I xs ρ0 h k
  exact ⟨ρ', by unfold sFor; rw [hi]; exact h1, h2⟩
theorem sSeq_nx {a b : FS} {ρ ρ1 : En} (h : a ρ = some (.nx ρ1)) : sSeq a b ρ = b ρ1 := by unfold sSeq; rw [h]
theorem sSeq_of {a b : FS} {ρ ρ1 : En} {o : Option Out} (h : a ρ = some (.nx ρ1)) (h2 : b ρ1 = o) : sSeq a b ρ = o := by unfold sSeq; rw [h]; exact h2
/-! ### one step -/
section
variable {f g h : FE} {ρ ρ1 ρ2 ρ3 : En} {x y z d : D} {b : Bool} {i j : Nat}
theorem fU_of {op : D → Option D} (h : f ρ = some (x, ρ1)) (e : op x = some d) : fU op f ρ = some (d, ρ1) := by unfold fU; rw [h]; show Option.map _ (op x) = _; rw [e]; rfl
theorem fB_of {op : D → D → Option D} (h : f ρ = some (x, ρ1)) (h2 : g ρ1 = some (y, ρ2)) (e : op x y = some d) : fB op f g ρ = some (d, ρ2) := by unfold fB; rw [h]; show (g ρ1).bind _ = _; rw [h2]; show Option.map _ (op x y) = _; rw [e]; rfl
theorem tF_of {op : D → Option Bool} (h : f ρ = some (x, ρ1)) (e : op x = some b) : tF op f ρ = some (b, ρ1) := by unfold tF; rw [h]; show Option.map _ (op x) = _; rw [e]; rfl
theorem fAp_of {op : List D → Option D} {a : FA} {ds : List D} (h : a ρ = some (ds, ρ1)) (e : op ds = some d) : fAp op a ρ = some (d, ρ1) := by unfold fAp; rw [h]; show Option.map _ (op ds) = _; rw [e]; rfl
theorem aC_of {a : FA} {ds : List D} (h : f ρ = some (x, ρ1)) (e : a ρ1 = some (ds, ρ2)) : aC f a ρ = some (x :: ds, ρ2) := by unfold aC; rw [h]; show Option.map _ (a ρ1) = _; rw [e]; rfl
theorem sSet_of (h : f ρ = some (d, ρ1)) : sSet i f ρ = some (.nx (ρ1.set i (.s d))) := by unfold sSet; rw [h]; rfl
theorem sSetO_of (h : f ρ = some (d, ρ1)) : sSetO i f ρ = some (.nx (ρ1.set i (.o d))) := by unfold sSetO; rw [h]; rfl
theorem sRt_of (h : f ρ = some (d, ρ1)) : sRt f ρ = some (.rt d ρ1) := by unfold sRt; rw [h]; rfl
theorem sEx_of (h : f ρ = some (d, ρ1)) : sEx f ρ = some (.nx ρ1) := by unfold sEx; rw [h]; rfl
theorem sIf_t {c : FT} {s t : FS} (h : c ρ = some (true, ρ1)) : sIf c s t ρ = s ρ1 := by unfold sIf; rw [h]; rfl
theorem sIf_f {c : FT} {s t : FS} (h : c ρ = some (false, ρ1)) : sIf c s t ρ = t ρ1 := by unfold sIf; rw [h]; rfl
theorem cOr_f {c e : FT} (h : c ρ = some (false, ρ1)) : cOr c e ρ = e ρ1 := by unfold cOr; rw [h]; rfl
theorem cNot_of {c : FT} (h : c ρ = some (b, ρ1)) : cNot c ρ = some (!b, ρ1) := by unfold cNot; rw [h]; rfl
theorem iS_of {ds : List D} (h : f ρ = some (x, ρ1)) (e : itD x = some ds) : iS f ρ = some (ds, ρ1) := by unfold iS; rw [h]; show Option.map _ (itD x) = _; rw [e]; rfl
theorem sPar_of {o1 o2 : Bool} (h1 : f ρ = some (x, ρ1)) (h2 : g ρ1 = some (y, ρ2)) : sPar i j o1 o2 f g ρ = some (.nx ((ρ2.set i (slot o1 x)).set j (slot o2 y))) := by unfold sPar; rw [h1]; show Option.map _ (g ρ1) = _; rw [h2]; rfl
theorem sPar3_of {l : Nat} {o1 o2 o3 : Bool} (h1 : f ρ = some (x, ρ1)) (h2 : g ρ1 = some (y, ρ2)) (h3 : h ρ2 = some (z, ρ3)) : sPar3 i j l o1 o2 o3 f g h ρ = some (.nx (((ρ3.set i (slot o1 x)).set j (slot o2 y)).set l (slot o3 z))) := by
  unfold sPar3; rw [h1]; show (g ρ1).bind _ = _; rw [h2]; show Option.map _ (h ρ2) = _; rw [h3]; rfl
theorem fnD_rt {n k : Nat} {body : FS} {ds : List D} (hl : ds.length = n) (h : body (startE k ds) = some (.rt d ρ)) : fnD n k body ds = some d := by unfold fnD; rw [if_pos hl, h]
theorem fnB_rt {n k : Nat} {body : FS} {ds : List D} {c c' : BoxC} (hl : ds.length = n) (h : body (startB c k ds) = some (.rt d ρ)) (hb : boxD ρ = some c') (hf : formB c c' = true) : fnB n k body c ds = some (d, c') := by
  unfold fnB; rw [if_pos hl, h]; show (boxD ρ).bind _ = _; rw [hb]; show (if formB c c' = true then _ else _) = _; rw [if_pos hf]
theorem fCaB_of {F : BoxC → List D → Option (D × BoxC)} {ga : FA} {ds : List D} {p : Bool} {c c' : BoxC} (hi : ρ[i]? = some (Sl.o (.box p c))) (ha : ga ρ = some (ds, ρ1)) (hi1 : ρ1[i]? = some (Sl.o (.box p c))) (e : F c ds = some (d, c')) : fCaB F i ga ρ = some (d, ρ1.set i (Sl.o (.box p c'))) := by
  unfold fCaB
  rw [hi]
  show (ga ρ).bind _ = _
  rw [ha]
  show (match ρ1[i]? with | some (Sl.o (.box p c)) => _ | _ => _) = _
  rw [hi1]
  show Option.map _ (F c ds) = _
  rw [e]; rfl
theorem fl_form {c c' : BoxC} (h : isFl c) (h' : isFl c') : formB c c' = true := by
  cases c <;> cases c' <;> first | rfl | exact h.elim | exact h'.elim
end
/-! ### dicts -/
theorem dmem_put {ks : List D} {k : D} : k ∈ dputK ks k := by
  unfold dputK
  split
  · assumption
  · simp
theorem dval_map {k v : D} : ∀ {ks vs : List D}, k ∈ ks → ks.length = vs.length → dval ks (dmapV ks vs k v) k = some v
  | [], _, h, _ => nomatch h
  | k' :: ks, [], _, hl => nomatch hl
  | k' :: ks, v' :: vs, h, hl => by
    unfold dmapV dval
    by_cases e : k' = k
    · rw [if_pos e, if_pos e]
    · rw [if_neg e]
      exact dval_map (by rcases List.mem_cons.mp h with q | q; exact absurd q.symm e; exact q) (Nat.succ.inj hl)
theorem dval_map_ne {k v k2 : D} (hn : k2 ≠ k) : ∀ {ks vs : List D}, ks.length = vs.length → dval ks (dmapV ks vs k v) k2 = dval ks vs k2
  | [], _, _ => by cases ‹List D› <;> rfl
  | k' :: ks, [], hl => nomatch hl
  | k' :: ks, v' :: vs, hl => by
    unfold dmapV dval
    by_cases e : k' = k2
    · rw [if_pos e, if_pos e, if_neg (fun z => hn (e.symm.trans z))]
    · rw [if_neg e, if_neg e]; exact dval_map_ne hn (Nat.succ.inj hl)
theorem dval_app_new {k v : D} : ∀ {ks vs : List D}, k ∉ ks → ks.length = vs.length → dval (ks ++ [k]) (vs ++ [v]) k = some v
  | [], [], _, _ => by show (if k = k then _ else _) = _; rw [if_pos rfl]
  | [], _ :: _, _, hl => nomatch hl
  | _ :: _, [], _, hl => nomatch hl
  | k' :: ks, v' :: vs, h, hl => by
    show (if k' = k then _ else _) = _
    rw [if_neg (fun z => h (by rw [z]; exact List.mem_cons_self))]
    exact dval_app_new (fun z => h (List.mem_cons_of_mem _ z)) (Nat.succ.inj hl)
theorem dval_app_old {k v k2 : D} (hn : k2 ≠ k) : ∀ {ks vs : List D}, ks.length = vs.length → dval (ks ++ [k]) (vs ++ [v]) k2 = dval ks vs k2
  | [], [], _ => by show (if k = k2 then _ else _) = _; rw [if_neg (fun z => hn z.symm)]
  | [], _ :: _, hl => nomatch hl
  | _ :: _, [], hl => nomatch hl
  | k' :: ks, v' :: vs, hl => by
    show (if k' = k2 then some v' else dval (ks ++ [k]) (vs ++ [v]) k2) = (if k' = k2 then some v' else dval ks vs k2)
    rw [dval_app_old hn (Nat.succ.inj hl)]
theorem dmapV_len {k v : D} : ∀ {ks vs : List D}, ks.length = vs.length → (dmapV ks vs k v).length = vs.length
  | [], [], _ => rfl
  | [], _ :: _, hl => nomatch hl
  | _ :: _, [], hl => nomatch hl
  | _ :: ks, _ :: vs, hl => congrArg (· + 1) (dmapV_len (Nat.succ.inj hl))
theorem dput_len {ks vs : List D} {k v : D} (hl : ks.length = vs.length) : (dputK ks k).length = (dputV ks vs k v).length := by
  unfold dputK dputV
  split
  · rw [dmapV_len hl]; exact hl
  · simp [hl]
theorem dval_put {ks vs : List D} {k v : D} (hl : ks.length = vs.length) : dval (dputK ks k) (dputV ks vs k v) k = some v := by
  unfold dputK dputV
  split
  · exact dval_map (ks := ks) (vs := vs) (by assumption) hl
  · exact dval_app_new (by assumption) hl
theorem dval_put_ne {ks vs : List D} {k v k2 : D} (hl : ks.length = vs.length) (hn : k2 ≠ k) : dval (dputK ks k) (dputV ks vs k v) k2 = dval ks vs k2 := by
  unfold dputK dputV
  split
  · exact dval_map_ne hn hl
  · exact dval_app_old hn hl
theorem dputK_len {ks : List D} {k : D} : (dputK ks k).length ≤ ks.length + 1 := by
  unfold dputK
  split
  · omega
  · simp
theorem dput_new {ks vs : List D} {k v : D} (h : k ∉ ks) : dputK ks k = ks ++ [k] ∧ dputV ks vs k v = vs ++ [v] := by
  unfold dputK dputV
  rw [if_neg h, if_neg h]; exact ⟨rfl, rfl⟩
theorem dmerge_nd : ∀ (ks vs aks avs : List D), (aks ++ ks).Nodup → ks.length = vs.length → dmerge ks vs aks avs = (aks ++ ks, avs ++ vs)
  | [], [], aks, avs, _, _ => by show (aks, avs) = _; simp
  | [], _ :: _, _, _, _, hl => nomatch hl
  | _ :: _, [], _, _, _, hl => nomatch hl
  | k :: ks, v :: vs, aks, avs, nd, hl => by
    have hk : k ∉ aks := fun z => by
      rw [List.nodup_append] at nd
      exact nd.2.2 k z k List.mem_cons_self rfl
    show dmerge ks vs (dputK aks k) (dputV aks avs k v) = _
    rw [(dput_new (v := v) (vs := avs) hk).1, (dput_new (v := v) (vs := avs) hk).2, dmerge_nd ks vs _ _ (by rw [List.append_assoc]; exact nd) (Nat.succ.inj hl)]
    simp
/-- a dict comprehension of plain keys that differ -/
theorem dc_map {us : List Nat} {fg : FG} {fk fv : FE} (key val : D → D) {E0 : En} : ∀ (xs : List D) (ρ : En) (ks vs : List D), wipeE ρ us = E0 → (∀ x ∈ xs, ∃ ρ1 ρ2 ρ3, fg x E0 = some ρ1 ∧ fk ρ1 = some (key x, ρ2) ∧ fv ρ2 = some (val x, ρ3) ∧ wipeE ρ3 us = E0 ∧ (keyOf (key x)).isSome = true) → (ks ++ xs.map key).Nodup → ks.length + xs.length ≤ sizeLine →
    ∃ ρ', dcL us fg cYes fk fv xs ρ ks vs = some ((ks ++ xs.map key, vs ++ xs.map val), ρ') ∧ wipeE ρ' us = E0
  | [], ρ, ks, vs, h, _, _, _ => ⟨ρ, by simp [dcL], h⟩
  | x :: xs, ρ, ks, vs, h, k, nd, hl => by
    obtain ⟨ρ1, ρ2, ρ3, h1, h2, h3, h4, h5⟩ := k x List.mem_cons_self
    have hk : key x ∉ ks := fun z => by
      rw [List.nodup_append] at nd
      exact nd.2.2 _ z (key x) (by simp) rfl
    obtain ⟨ρ', h6, h7⟩ := dc_map key val xs ρ3 (ks ++ [key x]) (vs ++ [val x]) h4 (fun y hy => k y (List.mem_cons_of_mem _ hy)) (by simpa using nd) (by rw [List.length_append]; simp at hl ⊢; omega)
    refine ⟨ρ', ?_, h7⟩
    unfold dcL
    rw [h, h1]
    show (fk ρ1).bind _ = _
    rw [h2]
    show (fv ρ2).bind _ = _
    rw [h3]
    show (if ks.length < sizeLine then _ else _) = _
    rw [if_pos (by simp at hl; omega)]
    obtain ⟨kk, hkk⟩ := Option.isSome_iff_exists.mp h5
    show (keyOf (key x)).bind _ = _
    rw [hkk]
    show dcL us fg cYes fk fv xs ρ3 (dputK ks (key x)) (dputV ks vs (key x) (val x)) = _
    rw [(dput_new (v := val x) (vs := vs) hk).1, (dput_new (v := val x) (vs := vs) hk).2, h6]
    simp
theorem fDC_map {us : List Nat} {fi : FI} {fg : FG} {fk fv : FE} (key val : D → D) {ρ ρ0 E0 : En} {xs : List D} (hi : fi ρ = some (xs, ρ0)) (hw : wipeE ρ0 us = E0) (k : ∀ x ∈ xs, ∃ ρ1 ρ2 ρ3, fg x E0 = some ρ1 ∧ fk ρ1 = some (key x, ρ2) ∧ fv ρ2 = some (val x, ρ3) ∧ wipeE ρ3 us = E0 ∧ (keyOf (key x)).isSome = true) (nd : (xs.map key).Nodup) (hl : xs.length ≤ sizeLine) :
    fDC us fi fg cYes fk fv ρ = some (.dct 0 (xs.map key) (xs.map val), E0) := by
  obtain ⟨ρ', h1, h2⟩ := dc_map key val xs ρ0 [] [] hw k (by simpa using nd) (by simpa using hl)
  unfold fDC
  rw [hi]
  show Option.map _ (dcL us fg cYes fk fv xs ρ0 [] []) = _
  rw [h1]
  show some (_, wipeE ρ' us) = _
  rw [h2]; rfl
theorem sPut_of {i t : Nat} {fk fv : FE} {ρ ρ1 ρ2 : En} {ks vs : List D} {k v d : D} (h1 : fv ρ = some (v, ρ1)) (h2 : hasSl ρ1 i = true) (h3 : fk ρ1 = some (k, ρ2)) (h4 : ρ2[i]? = some (Sl.o (.dct t ks vs))) (h5 : putSl t ks vs k v = some d) : sPut i fk fv ρ = some (.nx (ρ2.set i (Sl.o d))) := by
  unfold sPut
  rw [h1]
  show (if hasSl ρ1 i = true then _ else _) = _
  rw [if_pos h2, h3]
  show (match ρ2[i]? with | some (Sl.o (.dct t ks vs)) => _ | _ => _) = _
  rw [h4]
  show Option.map _ (putSl t ks vs k v) = _
  rw [h5]; rfl
theorem fMuL_of {op : List D → List D → Option (D × List D)} {i : Nat} {a : FA} {ρ ρ1 : En} {ds0 ds as ds' : List D} {d : D} (h0 : ρ[i]? = some (Sl.o (.lst ds0))) (h1 : a ρ = some (as, ρ1)) (h2 : ρ1[i]? = some (Sl.o (.lst ds))) (h3 : op ds as = some (d, ds')) : fMuL op i a ρ = some (d, ρ1.set i (Sl.o (.lst ds'))) := by
  unfold fMuL
  rw [h0]
  show (a ρ).bind _ = _
  rw [h1]
  show (match ρ1[i]? with | some (Sl.o (.lst ds)) => _ | _ => _) = _
  rw [h2]
  show Option.map _ (op ds as) = _
  rw [h3]; rfl
theorem fBN_o {op : D → D → Option D} {i : Nat} {g : FE} {ρ ρ1 : En} {d x r : D} (h0 : hasSl ρ i = true) (h1 : g ρ = some (x, ρ1)) (h2 : ρ1[i]? = some (Sl.o d)) (hb : d.isBox = false) (h3 : op d x = some r) : fBN op i g ρ = some (r, ρ1) := by
  unfold fBN
  rw [if_pos h0, h1]
  show (match ρ1[i]? with | some (Sl.s d) => _ | some (Sl.o d) => _ | _ => _) = _
  rw [h2]
  show (if d.isBox = true then _ else _) = _
  rw [hb, h3]; rfl
theorem fBN_s {op : D → D → Option D} {i : Nat} {g : FE} {ρ ρ1 : En} {d x r : D} (h0 : hasSl ρ i = true) (h1 : g ρ = some (x, ρ1)) (h2 : ρ1[i]? = some (Sl.s d)) (h3 : op d x = some r) : fBN op i g ρ = some (r, ρ1) := by
  unfold fBN
  rw [if_pos h0, h1]
  show (match ρ1[i]? with | some (Sl.s d) => _ | some (Sl.o d) => _ | _ => _) = _
  rw [h2]
  show Option.map _ (op d x) = _
  rw [h3]; rfl
theorem dval_at {α : Type} {f g : α → D} : ∀ {rs : List α} {r : α}, (rs.map f).Nodup → r ∈ rs → dval (rs.map f) (rs.map g) (f r) = some (g r)
  | [], _, _, h => nomatch h
  | a :: rs, r, nd, h => by
    rw [List.map_cons, List.nodup_cons] at nd
    show (if f a = f r then some (g a) else dval (rs.map f) (rs.map g) (f r)) = _
    rcases List.mem_cons.mp h with q | q
    · rw [q, if_pos rfl]
    · rw [if_neg (fun z => nd.1 (by rw [z]; exact List.mem_map_of_mem q))]
      exact dval_at nd.2 q
theorem iR1_of {a : FA} {ρ ρ1 : En} {j : Int} (h : a ρ = some ([.int j], ρ1)) (h1 : -(2 ^ 62) ≤ j) (h2 : j < 2 ^ 62) : iR1 a ρ = some (rngD 0 j, ρ1) := by
  unfold iR1
  rw [h]
  show (if -(2 ^ 62) ≤ j ∧ j < 2 ^ 62 then _ else _) = _
  rw [if_pos ⟨h1, h2⟩]
/-! ### texts compared -/
theorem toPs_strs : ∀ ms : List Str, toPs (ms.map D.str) = some (ms.map PyData.str)
  | [] => by simp [toPs]
  | m :: ms => by
    show Option.bind (toP (.str m)) _ = _
    rw [toP]
    show Option.map _ (toPs (ms.map D.str)) = _
    rw [toPs_strs ms]; rfl
theorem depth_strs : ∀ ms : List Str, PyData.depthAll (ms.map PyData.str) = 0
  | [] => by simp [PyData.depthAll]
  | m :: ms => by rw [List.map_cons, PyData.depthAll, depth_strs ms, PyData.depth]; rfl
theorem in_strs {m : Str} {ms : List Str} (h : m ∈ ms) : inB (.str m) (.lst (ms.map D.str)) = some true := by
  unfold inB
  simp only [toP, toPs_strs, Option.bind_some]
  show (if (PyData.str m).depth ≤ 64 ∧ (PyData.list (ms.map PyData.str)).depth ≤ 64 then some ((ms.map PyData.str).any fun z => PyData.eqv z (.str m)) else none) = _
  rw [if_pos ⟨by rw [PyData.depth]; omega, by rw [PyData.depth, depth_strs]; omega⟩]
  congr 1
  rw [List.any_eq_true]
  exact ⟨.str m, List.mem_map_of_mem h, by simp [PyData.eqv]⟩
theorem ne_int (i j : Int) : neO (.int i) (.int j) = some (.bl (!(i == j))) := by
  show some (D.bl (!PyData.eqv (.int i) (.int j))) = _
  simp [PyData.eqv]
theorem all_true {α : Type} (xs : List α) : allO (.lst (xs.map fun _ => .bl true)) = some (.bl true) := by
  have h : blsOf (xs.map fun _ => D.bl true) = some (xs.map fun _ => true) := by
    induction xs with
    | nil => rfl
    | cons x xs ih => show Option.map _ (blsOf (xs.map fun _ => D.bl true)) = _; rw [ih]; rfl
  show Option.map _ (blsOf (xs.map fun _ => D.bl true)) = _
  rw [h]
  show some (D.bl _) = _
  congr 2
  simp
/-! ### dict comprehensions of two loops: something comes out -/
theorem in_ex {us : List Nat} {gj : FG} {fk fv : FE} {E0 : En} : ∀ (xs : List D) (ρ : En) (ks vs : List D), wipeE ρ us = E0 → (∀ x ∈ xs, ∃ ρ1 k ρ2 v ρ3, gj x E0 = some ρ1 ∧ fk ρ1 = some (k, ρ2) ∧ fv ρ2 = some (v, ρ3) ∧ wipeE ρ3 us = E0 ∧ (keyTOf k).isSome = true) → ks.length + xs.length ≤ sizeLine →
    ∃ ks' vs' ρ', inL us gj cYes fk fv xs ρ ks vs = some ((ks', vs'), ρ') ∧ ks'.length ≤ ks.length + xs.length ∧ wipeE ρ' us = E0
  | [], ρ, ks, vs, h, _, _ => ⟨ks, vs, ρ, rfl, by simp, h⟩
  | x :: xs, ρ, ks, vs, h, k, hl => by
    obtain ⟨ρ1, kk, ρ2, v, ρ3, h1, h2, h3, h4, h5⟩ := k x List.mem_cons_self
    rw [List.length_cons] at hl
    have hp := dputK_len (ks := ks) (k := kk)
    obtain ⟨ks', vs', ρ', h6, h7, h8⟩ := in_ex xs ρ3 (dputK ks kk) (dputV ks vs kk v) h4 (fun y hy => k y (List.mem_cons_of_mem _ hy)) (by omega)
    refine ⟨ks', vs', ρ', ?_, by rw [List.length_cons]; omega, h8⟩
    unfold inL
    rw [h, h1]
    show (fk ρ1).bind _ = _
    rw [h2]
    show (fv ρ2).bind _ = _
    rw [h3]
    show (if ks.length < sizeLine then _ else _) = _
    rw [if_pos (by omega)]
    obtain ⟨q, hq⟩ := Option.isSome_iff_exists.mp h5
    show (keyTOf kk).bind _ = _
    rw [hq]
    exact h6
theorem d2_ex {vs us : List Nat} {fg : FG} {fj : FI} {gj : FG} {fk fv : FE} {E0 : En} {n B : Nat} : ∀ (xs : List D) (ρ : En) (ks ds : List D), wipeE ρ vs = E0 → (∀ x ∈ xs, ∀ ks ds : List D, ks.length ≤ B → ∃ ρ1 ys ρ2 ks' ds' ρ3, fg x E0 = some ρ1 ∧ fj ρ1 = some (ys, ρ2) ∧ inL us gj cYes fk fv ys ρ2 ks ds = some ((ks', ds'), ρ3) ∧ ks'.length ≤ ks.length + n ∧ wipeE ρ3 vs = E0) → ks.length + n * xs.length ≤ B →
    ∃ ks' ds' ρ', dcL2 vs us fg cYes fj gj cYes fk fv xs ρ ks ds = some ((ks', ds'), ρ') ∧ wipeE ρ' vs = E0
  | [], ρ, ks, ds, h, _, _ => ⟨ks, ds, ρ, rfl, h⟩
  | x :: xs, ρ, ks, ds, h, k, hl => by
    rw [List.length_cons, Nat.mul_succ] at hl
    obtain ⟨ρ1, ys, ρ2, ks', ds', ρ3, h1, h2, h3, h4, h5⟩ := k x List.mem_cons_self ks ds (by omega)
    obtain ⟨ks2, ds2, ρ', h6, h7⟩ := d2_ex xs ρ3 ks' ds' h5 (fun y hy => k y (List.mem_cons_of_mem _ hy)) (by omega)
    refine ⟨ks2, ds2, ρ', ?_, h7⟩
    unfold dcL2
    rw [h, h1]
    show (fj ρ1).bind _ = _
    rw [h2]
    show (inL us gj cYes fk fv ys ρ2 ks ds).bind _ = _
    rw [h3]
    exact h6
theorem sFl_of {cs : List Str} {i : Nat} {a c : Str} {f : FE} {ρ ρ1 : En} {d : D} {ns : List Str} {vs : List D} (h : f ρ = some (d, ρ1)) (h1 : ρ1[i]? = some (Sl.o (.ins c ns vs))) (h2 : c ∈ cs) (h3 : ns.length < 1000) : sFl cs i a f ρ = some (.nx (ρ1.set i (Sl.o (.ins c (putD a d ns vs).1 (putD a d ns vs).2)))) := by
  unfold sFl
  rw [h]
  show (match ρ1[i]? with | some (Sl.o (.ins c ns vs)) => _ | _ => _) = _
  rw [h1]
  show (if c ∈ cs ∧ ns.length < 1000 then _ else _) = _
  rw [if_pos ⟨h2, h3⟩]
/-! ### flows -/
theorem less_ok {c : BoxC} (h : isFl c) {n : Int} (h0 : 0 < n) (h1 : n < 1073741824) : ∃ v c', lessF c [.int n] = some (.int v, c') ∧ 0 ≤ v ∧ v < n ∧ isFl c' := by
  cases c with
  | nums => exact h.elim
  | flow ns s k =>
    refine ⟨_, _, show (if 0 < n ∧ n < 1073741824 then some (D.int (lessN ns s k n).1, (lessN ns s k n).2) else none) = some (.int (lessN ns s k n).1, (lessN ns s k n).2) from if_pos ⟨h0, h1⟩, ?_, ?_, ?_⟩
    · unfold lessN; split <;> exact Int.emod_nonneg _ (by omega)
    · unfold lessN; split <;> exact Int.emod_lt_of_pos _ h0
    · unfold lessN; split <;> trivial
theorem less_in {c : BoxC} {i : Nat} {ga : FA} {ρ : En} {p : Bool} {n : Int} (hc : isFl c) (hi : ρ[i]? = some (Sl.o (.box p c))) (ha : ga ρ = some ([.int n], ρ)) (h0 : 0 < n) (h1 : n < 1073741824) : ∃ v c', fCaB lessF i ga ρ = some (.int v, ρ.set i (Sl.o (.box p c'))) ∧ 0 ≤ v ∧ v < n ∧ isFl c' := by
  obtain ⟨v, c', e, a, b, d⟩ := less_ok hc h0 h1
  refine ⟨v, c', ?_, a, b, d⟩
  unfold fCaB
  rw [hi]
  show (ga ρ).bind _ = _
  rw [ha]
  show (match ρ[i]? with | some (Sl.o (.box p c)) => _ | _ => _) = _
  rw [hi]
  show Option.map _ (lessF c [.int n]) = _
  rw [e]; rfl
end VS
set_option autoImplicit false
/-! a list built with a test, and lists compared with the empty list -/
namespace VS
open PySem PySem.Spec PyProof.Rows L2 AR
theorem lc_fil {us : List Nat} {fg : FG} {fc : FT} {fe : FE} (b : D → Bool) (g : D → D) {E0 : En} : ∀ (xs : List D) (ρ : En), wipeE ρ us = E0 → (∀ x ∈ xs, ∃ ρ1 ρ2, fg x E0 = some ρ1 ∧ fc ρ1 = some (b x, ρ2) ∧ wipeE ρ2 us = E0 ∧ (b x = true → ∃ ρ3, fe ρ2 = some (g x, ρ3) ∧ wipeE ρ3 us = E0)) → ∃ ρ', lcL us fg fc fe xs ρ = some ((xs.filter b).map g, ρ') ∧ wipeE ρ' us = E0
  | [], ρ, h, _ => ⟨ρ, rfl, h⟩
  | x :: xs, ρ, h, k => by
    obtain ⟨ρ1, ρ2, h1, h2, h3, h4⟩ := k x List.mem_cons_self
    unfold lcL
    rw [h, h1]
    show ∃ ρ', (fc ρ1).bind _ = _ ∧ _
    rw [h2]
    cases hb : b x with
    | false =>
      obtain ⟨ρ', h5, h6⟩ := lc_fil b g xs ρ2 h3 fun y hy => k y (List.mem_cons_of_mem _ hy)
      refine ⟨ρ', ?_, h6⟩
      rw [List.filter_cons, hb]
      exact h5
    | true =>
      obtain ⟨ρ3, h5, h6⟩ := h4 hb
      obtain ⟨ρ', h7, h8⟩ := lc_fil b g xs ρ3 h6 fun y hy => k y (List.mem_cons_of_mem _ hy)
      refine ⟨ρ', ?_, h8⟩
      rw [List.filter_cons, hb]
      show (fe ρ2).bind _ = _
      rw [h5]
      show Option.map _ (lcL us fg fc fe xs ρ3) = _
      rw [h7]; rfl
theorem fLC_fil {us : List Nat} {fi : FI} {fg : FG} {fc : FT} {fe : FE} (b : D → Bool) (g : D → D) {ρ ρ0 E0 : En} {xs : List D} (hi : fi ρ = some (xs, ρ0)) (hw : wipeE ρ0 us = E0) (hl : xs.length ≤ sizeLine) (k : ∀ x ∈ xs, ∃ ρ1 ρ2, fg x E0 = some ρ1 ∧ fc ρ1 = some (b x, ρ2) ∧ wipeE ρ2 us = E0 ∧ (b x = true → ∃ ρ3, fe ρ2 = some (g x, ρ3) ∧ wipeE ρ3 us = E0)) : fLC us fi fg fc fe ρ = some (.lst ((xs.filter b).map g), E0) := by
  obtain ⟨ρ', h4, h5⟩ := lc_fil b g xs ρ0 hw k
  unfold fLC
  rw [hi]
  show (lcL us fg fc fe xs ρ0).bind _ = _
  rw [h4]
  show Option.map _ (mkL ((xs.filter b).map g)) = _
  unfold mkL
  rw [if_pos (by rw [List.length_map]; exact Nat.le_trans (List.length_filter_le _ _) hl)]
  show some (_, wipeE ρ' us) = _
  rw [h5]
end VS
namespace K60
open PySem PySem.Spec PyProof.Rows L2 AR VS
open C8 (Cal Met Mak)
def top (i : Nat) : Stmt := PySem.Challenge.pw_allrows_k60_rules_made_and_moved.main.body.getD i (.Pass ⟨0, 0, 0, 0⟩)
abbrev s_is_row_of : Stmt := top 6
theorem sc_is_row_of : FnScope ["value", "signs", "sign"] ["value", "signs"] (defScope s_is_row_of) := ⟨rfl, rfl, rfl, by decide +kernel, rfl, by decide +kernel, by decide +kernel⟩
abbrev s_rank : Stmt := top 7
theorem sc_rank : FnScope ["row"] ["row"] (defScope s_rank) := ⟨rfl, rfl, rfl, by decide +kernel, rfl, by decide +kernel, by decide +kernel⟩
abbrev s_are_signs : Stmt := top 8
theorem sc_are_signs : FnScope ["value", "sign", "one", "other"] ["value"] (defScope s_are_signs) := ⟨rfl, rfl, rfl, by decide +kernel, rfl, by decide +kernel, by decide +kernel⟩
abbrev s_is_pair : Stmt := top 9
theorem sc_is_pair : FnScope ["value", "signs"] ["value", "signs"] (defScope s_is_pair) := ⟨rfl, rfl, rfl, by decide +kernel, rfl, by decide +kernel, by decide +kernel⟩
abbrev s_are_pairs : Stmt := top 10
theorem sc_are_pairs : FnScope ["value", "signs", "pair", "lefts", "left", "right", "at", "other"] ["value", "signs"] (defScope s_are_pairs) := ⟨rfl, rfl, rfl, by decide +kernel, rfl, by decide +kernel, by decide +kernel⟩
abbrev s_RulesD_initD : Stmt := inClass (top 11) 0
theorem sc_RulesD_initD : FnScope ["self", "signs", "pairs"] ["self", "signs", "pairs"] (defScope s_RulesD_initD) := ⟨rfl, rfl, rfl, by decide +kernel, rfl, by decide +kernel, by decide +kernel⟩
abbrev s_Rules_moves : Stmt := inClass (top 11) 1
theorem sc_Rules_moves : FnScope ["self", "row", "found", "place", "number", "left", "right"] ["self", "row"] (defScope s_Rules_moves) := ⟨rfl, rfl, rfl, by decide +kernel, rfl, by decide +kernel, by decide +kernel⟩
abbrev s_Rules_after : Stmt := inClass (top 11) 2
theorem sc_Rules_after : FnScope ["self", "row", "move", "place", "number", "left", "right"] ["self", "row", "move"] (defScope s_Rules_after) := ⟨rfl, rfl, rfl, by decide +kernel, rfl, by decide +kernel, by decide +kernel⟩
abbrev s_Rules_least_move : Stmt := inClass (top 11) 3
theorem sc_Rules_least_move : FnScope ["self", "row", "place", "number", "left", "right"] ["self", "row"] (defScope s_Rules_least_move) := ⟨rfl, rfl, rfl, by decide +kernel, rfl, by decide +kernel, by decide +kernel⟩
abbrev s_Rules_road : Stmt := inClass (top 11) 4
theorem sc_Rules_road : FnScope ["self", "row", "found", "move"] ["self", "row"] (defScope s_Rules_road) := ⟨rfl, rfl, rfl, by decide +kernel, rfl, by decide +kernel, by decide +kernel⟩
abbrev s_Rules_reduced : Stmt := inClass (top 11) 5
theorem sc_Rules_reduced : FnScope ["self", "row", "move"] ["self", "row"] (defScope s_Rules_reduced) := ⟨rfl, rfl, rfl, by decide +kernel, rfl, by decide +kernel, by decide +kernel⟩
abbrev s_RulesD_eqD : Stmt := inClass (top 11) 7
theorem sc_RulesD_eqD : FnScope ["self", "other"] ["self", "other"] (defScope s_RulesD_eqD) := ⟨rfl, rfl, rfl, by decide +kernel, rfl, by decide +kernel, by decide +kernel⟩
abbrev s_w_box : Stmt := top 13
theorem sc_w_box : FnScope ["_law_script", "_law_k", "_law_great", "_law_seed"] ["_law_script", "_law_k"] (defScope s_w_box) := ⟨rfl, rfl, rfl, by decide +kernel, rfl, by decide +kernel, by decide +kernel⟩
abbrev s_w_take : Stmt := top 14
theorem sc_w_take : FnScope ["_law_box_here", "_law_many", "_law_digit", "_law_near"] ["_law_box_here", "_law_many"] (defScope s_w_take) := ⟨rfl, rfl, rfl, by decide +kernel, rfl, by decide +kernel, by decide +kernel⟩
abbrev s_w_pick : Stmt := top 15
theorem sc_w_pick : FnScope ["_law_box_here", "_law_some"] ["_law_box_here", "_law_some"] (defScope s_w_pick) := ⟨rfl, rfl, rfl, by decide +kernel, rfl, by decide +kernel, by decide +kernel⟩
abbrev s_w_rank : Stmt := top 16
theorem sc_w_rank : FnScope ["_law_row_here"] ["_law_row_here"] (defScope s_w_rank) := ⟨rfl, rfl, rfl, by decide +kernel, rfl, by decide +kernel, by decide +kernel⟩
abbrev s_w_signs : Stmt := top 17
theorem sc_w_signs : FnScope ["_law_box_here"] ["_law_box_here"] (defScope s_w_signs) := ⟨rfl, rfl, rfl, by decide +kernel, rfl, by decide +kernel, by decide +kernel⟩
abbrev s_w_row : Stmt := top 18
theorem sc_w_row : FnScope ["_law_box_here", "_law_signs_here", "_law_long", "_law_turn"] ["_law_box_here", "_law_signs_here", "_law_long"] (defScope s_w_row) := ⟨rfl, rfl, rfl, by decide +kernel, rfl, by decide +kernel, by decide +kernel⟩
abbrev s_w_pairs : Stmt := top 19
theorem sc_w_pairs : FnScope ["_law_box_here", "_law_signs_here", "_law_many", "_law_found", "_law_turn", "_law_left", "_law_right", "_law_near", "_law_one", "_law_other"] ["_law_box_here", "_law_signs_here", "_law_many"] (defScope s_w_pairs) := ⟨rfl, rfl, rfl, by decide +kernel, rfl, by decide +kernel, by decide +kernel⟩
abbrev s_w_moves : Stmt := top 20
theorem sc_w_moves : FnScope ["_law_pairs_here", "_law_row_here", "_law_found", "_law_place", "_law_number", "_law_left", "_law_right"] ["_law_pairs_here", "_law_row_here"] (defScope s_w_moves) := ⟨rfl, rfl, rfl, by decide +kernel, rfl, by decide +kernel, by decide +kernel⟩
abbrev s_w_after : Stmt := top 21
theorem sc_w_after : FnScope ["_law_pairs_here", "_law_row_here", "_law_move", "_law_left", "_law_right"] ["_law_pairs_here", "_law_row_here", "_law_move"] (defScope s_w_after) := ⟨rfl, rfl, rfl, by decide +kernel, rfl, by decide +kernel, by decide +kernel⟩
abbrev s_w_road : Stmt := top 22
theorem sc_w_road : FnScope ["_law_pairs_here", "_law_row_here", "_law_found", "_law_some"] ["_law_pairs_here", "_law_row_here"] (defScope s_w_road) := ⟨rfl, rfl, rfl, by decide +kernel, rfl, by decide +kernel, by decide +kernel⟩
abbrev s_w_heard : Stmt := top 23
theorem sc_w_heard : FnScope ["_law_signs_here", "_law_pairs_here", "_law_found", "e"] ["_law_signs_here", "_law_pairs_here"] (defScope s_w_heard) := ⟨rfl, rfl, rfl, by decide +kernel, rfl, by decide +kernel, by decide +kernel⟩
abbrev s_w_refused_right : Stmt := top 24
theorem sc_w_refused_right : FnScope ["_law_box_here", "_law_deep", "_law_bad", "_law_wrong", "_law_turn"] ["_law_box_here"] (defScope s_w_refused_right) := ⟨rfl, rfl, rfl, by decide +kernel, rfl, by decide +kernel, by decide +kernel⟩
abbrev s_law : Stmt := top 25
theorem sc_law : FnScope ["_law_script", "_law_k", "_law_box_here", "_law_signs_here", "_law_pairs_here", "_law_given", "_law_rules", "_law_turn", "_law_row_here", "_law_due", "_law_end", "_law_move", "_law_later"] ["_law_script"] (defScope s_law) := ⟨rfl, rfl, rfl, by decide +kernel, rfl, by decide +kernel, by decide +kernel⟩
class XMF (P : Program) (w : World) (K : PySem.W.Frag) (mg : Str → Option Value) (base : Heap) : Prop where
  x : XMk P w K mg base 1 "InvalidRules" "word"
def b_is_row_of : FS := (sRt (fAnd (fU (isO "str") (pN 0)) (fU allO (fLC [2] (iS (fN 0)) (gN 2) cYes (fB inO (fN 2) (pN 1))))))
def b_rank : FS := (sRt (fAp mkT (aC (fU lenD (pN 0)) (aC (fN 0) aN))))
def b_are_signs : FS := (sSeq (sIf (cOr (cNot (tF blD (fU (isO "str") (pN 0)))) (cNot (tF blD (fCh leO leO (fC (.int 1)) (fU lenD (pN 0)) (fC (.int 3)))))) (sRt (fC (.bl false))) sNx)
      (sSeq (sIf (cNot (tF blD (fU allO (fLC [1] (iS (fN 0)) (gN 1) cYes (fCh leO leO (fC (.str "a")) (fN 1) (fC (.str "z"))))))) (sRt (fC (.bl false))) sNx)
      (sRt (fU allO (fLC [2, 3] (iZp (aC (fN 0) (aC (fSl (fN 0) (oSo (fC (.int 1))) oNo) aN))) (gTu 2 (gCo (gN 2) (gCo (gN 3) gNi))) cYes (fB ltO (fN 2) (fN 3)))))))
def b_is_pair : FS := (sSeq (sIf (cOr (cNot (tF blD (fU (isO "tuple") (pN 0)))) (tF blD (fB neO (fU lenD (pN 0)) (fC (.int 2))))) (sRt (fC (.bl false))) sNx)
      (sSeq (sIf (cOr (cNot (tF blD (fAp (fnD 2 3 b_is_row_of) (aC (fB getD (fN 0) (fC (.int 0))) (aC (fN 1) aN))))) (cNot (tF blD (fAp (fnD 2 3 b_is_row_of) (aC (fB getD (fN 0) (fC (.int 1))) (aC (fN 1) aN)))))) (sRt (fC (.bl false))) sNx)
      (sRt (fB ltTO (fAp (fnD 1 1 b_rank) (aC (fB getD (fN 0) (fC (.int 1))) aN)) (fAp (fnD 1 1 b_rank) (aC (fB getD (fN 0) (fC (.int 0))) aN))))))
def b_are_pairs : FS := (sSeq (sIf (cOr (cNot (tF blD (fU (isO2 "list" "tuple") (pN 0)))) (cNot (tF blD (fU allO (fLC [2] (iS (fN 0)) (gN 2) cYes (fAp (fnD 2 2 b_is_pair) (aC (fN 2) (aC (fN 1) aN)))))))) (sRt (fC (.bl false))) sNx)
      (sSeq (sSet 3 (fLC [4, 5] (iS (fN 0)) (gTu 2 (gCo (gN 4) (gCo (gN 5) gNi))) cYes (fN 4)))
      (sSeq (sFor (iEn (fN 3)) (gTu 2 (gCo (gN 6) (gCo (gN 4) gNi)))
      (sIf (tF blD (fU anyO (fLC [7] (iS (fAp mkL (aSt (fSl (fN 3) oNo (oSo (fN 6))) (aSt (fSl (fN 3) (oSo (fB addO (fN 6) (fC (.int 1)))) oNo) aN)))) (gN 7) cYes (fB inO (fN 4) (pN 7))))) (sRt (fC (.bl false))) sNx))
      (sRt (fC (.bl true))))))
def b_RulesD_initD : FS := (sSeq (sIf (cNot (tF blD (fAp (fnD 1 4 b_are_signs) (aC (fN 1) aN)))) sNo sNx)
      (sSeq (sIf (cNot (tF blD (fAp (fnD 2 8 b_are_pairs) (aC (fN 2) (aC (fN 1) aN))))) sNo sNx)
      (sSeq (sFl ["Rules"] 0 "signs" (fN 1))
      (sFl ["Rules"] 0 "pairs" (fU tupO (fN 2))))))
def bX_RulesD_initD : FSX := (sIfX (cNot (tF blD (fAp (fnD 1 4 b_are_signs) (aC (fN 1) aN)))) (sRs "InvalidRules" "word" (fC (.str "signs")))
      (sIfX (cNot (tF blD (fAp (fnD 2 8 b_are_pairs) (aC (fN 2) (aC (fN 1) aN))))) (sRs "InvalidRules" "word" (fC (.str "pairs")))
      (fun ρ => ((sSeq (sFl ["Rules"] 0 "signs" (fN 1))
      (sFl ["Rules"] 0 "pairs" (fU tupO (fN 2)))) ρ).map .inl)))
def b_Rules_moves : FS := (sSeq (sSetO 2 (fAp mkL aN))
      (sSeq (sFor (iR1 (aC (fU lenD (pN 1)) aN)) (gN 3)
      (sFor (iEn (fU (attrD ["Rules"] "pairs") (pN 0))) (gTu 2 (gCo (gN 4) (gCo (gTu 2 (gCo (gN 5) (gCo (gN 6) gNi))) gNi)))
      (sIf (tF blD (fB eqO (fSl (fN 1) (oSo (fN 3)) (oSo (fB addO (fN 3) (fU lenD (pN 5))))) (fN 5))) (sEx (fMuL appO 2 (aC (fAp mkT (aC (fN 3) (aC (fN 4) aN))) aN))) sNx)))
      (sRt (fU tupO (fN 2)))))
def b_Rules_after : FS := (sSeq (sAs (fN 2) (gTu 2 (gCo (gN 3) (gCo (gN 4) gNi))))
      (sSeq (sAs (fB getD (fU (attrD ["Rules"] "pairs") (pN 0)) (fN 4)) (gTu 2 (gCo (gN 5) (gCo (gN 6) gNi))))
      (sRt (fB addO (fB addO (fSl (fN 1) oNo (oSo (fN 3))) (fN 6)) (fSl (fN 1) (oSo (fB addO (fN 3) (fU lenD (pN 5)))) oNo)))))
def b_Rules_least_move : FS := (sSeq (sFor (iR1 (aC (fU lenD (pN 1)) aN)) (gN 2)
      (sFor (iEn (fU (attrD ["Rules"] "pairs") (pN 0))) (gTu 2 (gCo (gN 3) (gCo (gTu 2 (gCo (gN 4) (gCo (gN 5) gNi))) gNi)))
      (sIf (tF blD (fB eqO (fSl (fN 1) (oSo (fN 2)) (oSo (fB addO (fN 2) (fU lenD (pN 4))))) (fN 4))) (sRt (fAp mkT (aC (fN 2) (aC (fN 3) aN)))) sNx)))
      (sRt (fC .non)))
def b_Rules_road : FS := (sSeq (sPar 2 3 true false (fAp mkL aN) (fAp (methD "Rules" "least_move" (fnD 2 6 b_Rules_least_move)) (aC (fN 0) (aC (fN 1) aN))))
      (sSeq (sWh 1000000 (tF blD (fB notNO (fN 3) (fC .non)))
      (sSeq (sEx (fMuL appO 2 (aC (fN 3) aN)))
      (sSeq (sSet 1 (fAp (methD "Rules" "after" (fnD 3 7 b_Rules_after)) (aC (fN 0) (aC (fN 1) (aC (fN 3) aN)))))
      (sSet 3 (fAp (methD "Rules" "least_move" (fnD 2 6 b_Rules_least_move)) (aC (fN 0) (aC (fN 1) aN)))))))
      (sRt (fU tupO (fN 2)))))
def b_Rules_reduced : FS := (sSeq (sSet 2 (fAp (methD "Rules" "least_move" (fnD 2 6 b_Rules_least_move)) (aC (fN 0) (aC (fN 1) aN))))
      (sSeq (sWh 1000000 (tF blD (fB notNO (fN 2) (fC .non)))
      (sSeq (sSet 1 (fAp (methD "Rules" "after" (fnD 3 7 b_Rules_after)) (aC (fN 0) (aC (fN 1) (aC (fN 2) aN)))))
      (sSet 2 (fAp (methD "Rules" "least_move" (fnD 2 6 b_Rules_least_move)) (aC (fN 0) (aC (fN 1) aN))))))
      (sRt (fN 1))))
def b_RulesD_eqD : FS := (sRt (fAnd (fU (isWO "Rules") (pN 1)) (fB eqO (fAp mkT (aC (fU (attrD ["Rules"] "signs") (pN 0)) (aC (fU (attrD ["Rules"] "pairs") (pN 0)) aN))) (fAp mkT (aC (fU (attrD ["Rules"] "signs") (pN 1)) (aC (fU (attrD ["Rules"] "pairs") (pN 1)) aN))))))
def b_w_box : FS := (sSeqN (sSet 2 (fB addO (fB mulO (fC (.int 5281)) (fN 1)) (fC (.int 97))))
      (sSeqN (sIf (tF blD (fB ltO (fN 1) (fU lenD (pN 0)))) (sSet 2 (fU absO (fU intO (fB getD (fN 0) (fN 1))))) (sIf (tF blD (fB gtO (fU lenD (pN 0)) (fC (.int 0)))) (sSet 2 (fB addO (fN 2) (fB mulO (fB modO (fU intO (fB getD (fN 0) (fB modO (fU intO (fN 1)) (fU lenD (pN 0))))) (fC (.int 2147483629))) (fC (.int 80891))))) sNx))
      (sSeqN (sSet 3 (fB addO (fB modO (fU intO (fB addO (fB addO (fB mulO (fB modO (fU intO (fN 2)) (fC (.int 2147483629))) (fC (.int 46589))) (fB mulO (fC (.int 38767)) (fN 1))) (fC (.int 23)))) (fC (.int 2147483629))) (fC (.int 1))))
      (sRt (fAp mkL (aC (fB getD (fAp mkL (aC (fC (.int 0)) (aC (fN 2) aN))) (fU intO (fB geO (fN 2) (fB powO (fC (.int 10)) (fC (.int 18)))))) (aC (fN 3) (aC (fC (.int 0)) aN))))))))
def b_w_take : FS := (sSeq (sIf (tF blD (fB gtO (fBx 0 0) (fC (.int 0)))) (sSeq (sSet 2 (fB modO (fU intO (fBx 0 0)) (fN 1)))
      (sSeq (sPutL 0 (fC (.int 0)) (fB fdivO (fBx 0 0) (fN 1)))
      (sRt (fN 2)))) sNx)
      (sSeq (sPutL 0 (fC (.int 2)) (fB addO (fBx 0 2) (fC (.int 1))))
      (sSeq (sSet 3 (fB modO (fU intO (fB mulO (fB addO (fBx 0 1) (fB mulO (fC (.int 96737)) (fBx 0 2))) (fC (.int 69403)))) (fC (.int 2147483647))))
      (sSeq (sPutL 0 (fC (.int 1)) (fB addO (fB modO (fU intO (fB addO (fB mulO (fN 3) (fC (.int 47599))) (fC (.int 27109)))) (fC (.int 2147483629))) (fC (.int 1))))
      (sRt (fB modO (fU intO (fB fdivO (fB addO (fB mulO (fN 3) (fC (.int 2147483647))) (fBx 0 1)) (fC (.int 8191)))) (fN 1)))))))
def b_w_pick : FS := (sRt (fB getD (fN 1) (fCaB (fnB 1 4 b_w_take) 0 (aC (fU lenD (pN 1)) aN))))
def b_w_rank : FS := (sRt (fAp mkT (aC (fU lenD (pN 0)) (aC (fN 0) aN))))
def b_w_signs : FS := (sRt (fCaB (fnB 1 2 b_w_pick) 0 (aC (fAp mkL (aC (fC (.str "ab")) (aC (fC (.str "ab")) (aC (fC (.str "abc")) (aC (fC (.str "a")) (aC (fC (.str "xz")) aN)))))) aN)))
def b_w_row : FS := (sRt (fB joinO (fC (.str "")) (fLC [3] (iR1 (aC (fCaB (fnB 1 4 b_w_take) 0 (aC (fB addO (fN 2) (fC (.int 1))) aN)) aN)) (gN 3) cYes (fCaB (fnB 1 2 b_w_pick) 0 (aC (fN 1) aN)))))
def b_w_pairs : FS := (sSeq (sSet 3 (fAp mkL aN))
      (sSeq (sFor (iR1 (aC (fN 2) aN)) (gN 4)
      (sSeq (sSet 5 (fB addO (fCaB (fnB 2 4 b_w_row) 0 (aC (fN 1) (aC (fC (.int 3)) aN))) (fCaB (fnB 1 2 b_w_pick) 0 (aC (fN 1) aN))))
      (sSeq (sSet 6 (fCaB (fnB 2 4 b_w_row) 0 (aC (fN 1) (aC (fU lenD (pN 5)) aN))))
      (sIf (tF blD (fB ltTO (fAp (fnD 1 1 b_w_rank) (aC (fN 6) aN)) (fAp (fnD 1 1 b_w_rank) (aC (fN 5) aN)))) (sSeq (sSet 7 (fLC [8, 9] (iS (fN 3)) (gTu 2 (gCo (gN 8) (gCo (gN 9) gNi))) (cOr (tF blD (fB inO (fN 8) (pN 5))) (tF blD (fB inO (fN 5) (pN 8)))) (fN 8)))
      (sSet 3 (fB catO (fN 3) (fIf (tF blD (fB eqO (fN 7) (fAp mkL aN))) (fAp mkL (aC (fAp mkT (aC (fN 5) (aC (fN 6) aN))) aN)) (fAp mkL aN))))) sNx))))
      (sRt (fN 3))))
def b_w_moves : FS := (sSeq (sSetO 2 (fAp mkL aN))
      (sSeq (sFor (iR1 (aC (fU lenD (pN 1)) aN)) (gN 3)
      (sFor (iEn (fN 0)) (gTu 2 (gCo (gN 4) (gCo (gTu 2 (gCo (gN 5) (gCo (gN 6) gNi))) gNi)))
      (sIf (tF blD (fB stwO (fSl (fN 1) (oSo (fN 3)) oNo) (fN 5))) (sEx (fMuL appO 2 (aC (fAp mkT (aC (fN 3) (aC (fN 4) aN))) aN))) sNx)))
      (sRt (fN 2))))
def b_w_after : FS := (sSeq (sAs (fB getD (fN 0) (fB getD (fN 2) (fC (.int 1)))) (gTu 2 (gCo (gN 3) (gCo (gN 4) gNi))))
      (sRt (fB addO (fB addO (fSl (fN 1) oNo (oSo (fB getD (fN 2) (fC (.int 0))))) (fN 4)) (fSl (fN 1) (oSo (fB addO (fB getD (fN 2) (fC (.int 0))) (fU lenD (pN 3)))) oNo))))
def b_w_road : FS := (sSeq (sPar 2 3 true false (fAp mkL aN) (fAp (fnD 2 7 b_w_moves) (aC (fN 0) (aC (fN 1) aN))))
      (sSeq (sWh 1000000 (tF blD (fB neO (fN 3) (fAp mkL aN)))
      (sSeq (sEx (fMuL appO 2 (aC (fB getD (fN 3) (fC (.int 0))) aN)))
      (sSeq (sSet 1 (fAp (fnD 3 5 b_w_after) (aC (fN 0) (aC (fN 1) (aC (fB getD (fN 3) (fC (.int 0))) aN)))))
      (sSet 3 (fAp (fnD 2 7 b_w_moves) (aC (fN 0) (aC (fN 1) aN)))))))
      (sRt (fAp mkT (aC (fN 2) (aC (fN 1) aN))))))
def b_w_heard : FS := (sSeq (sSet 2 (fC (.str "made")))
      (sSeq (sHrd 3 2 "InvalidRules" "word" (iniX "Rules" 2 3 bX_RulesD_initD) (aC (fN 0) (aC (fN 1) aN)))
      (sRt (fN 2))))
def b_w_refused_right : FS := (sSeq (sSet 1 (fAp mkL (aC (fAp mkL (aC (fAp mkL (aC (fAp mkL (aC (fAp mkL (aC (fAp mkL (aC (fAp mkL (aC (fAp mkL (aC (fC (.str "a")) aN)) aN)) aN)) aN)) aN)) aN)) aN)) aN)))
      (sSeq (sSet 2 (fAp mkL (aC (fC .non) (aC (fC (.int 3)) (aC (fC (.str "")) (aC (fC (.str "ba")) (aC (fC (.str "aa")) (aC (fC (.str "abcd")) (aC (fC (.str "aB")) (aC (fC (.str "a b")) (aC (fAp mkL (aC (fC (.str "a")) aN)) (aC (fAp mkT (aC (fC (.str "a")) (aC (fC (.str "b")) aN))) (aC (fC (.bl true)) (aC (fN 1) (aC (fC (.str "1")) aN)))))))))))))))
      (sSeq (sSet 3 (fAp mkL (aC (fC .non) (aC (fC (.int 3)) (aC (fC (.str "ab")) (aC (fAp mkL (aC (fAp mkT (aC (fC (.str "a")) aN)) aN)) (aC (fAp mkL (aC (fAp mkL (aC (fC (.str "b")) (aC (fC (.str "a")) aN))) aN)) (aC (fAp mkL (aC (fAp mkT (aC (fC (.str "a")) (aC (fC (.str "a")) aN))) aN)) (aC (fAp mkL (aC (fAp mkT (aC (fC (.str "a")) (aC (fC (.str "b")) aN))) aN)) (aC (fAp mkL (aC (fAp mkT (aC (fC (.str "")) (aC (fC (.str "")) aN))) aN)) (aC (fAp mkL (aC (fAp mkT (aC (fC (.str "c")) (aC (fC (.str "a")) aN))) aN)) (aC (fAp mkL (aC (fAp mkT (aC (fC (.str "b")) (aC (fC (.str "c")) aN))) aN)) aN))))))))))))
      (sSeq (sSet 3 (fB catO (fN 3) (fAp mkL (aC (fAp mkL (aC (fAp mkT (aC (fC (.str "b")) (aC (fC .non) aN))) aN)) (aC (fAp mkL (aC (fAp mkT (aC (fC (.int 3)) (aC (fC (.str "a")) aN))) aN)) (aC (fAp mkL (aC (fAp mkT (aC (fC (.str "b")) (aC (fC (.str "a")) (aC (fC (.int 1)) aN)))) aN)) (aC (fAp mkL (aC (fAp mkT (aC (fC (.str "ab")) (aC (fC (.str "a")) aN))) (aC (fAp mkT (aC (fC (.str "ab")) (aC (fC (.str "b")) aN))) aN))) (aC (fAp mkL (aC (fAp mkT (aC (fC (.str "ab")) (aC (fC (.str "")) aN))) (aC (fAp mkT (aC (fC (.str "aba")) (aC (fC (.str "b")) aN))) aN))) aN))))))))
      (sSeq (sSet 3 (fB catO (fN 3) (fAp mkL (aC (fAp mkL (aC (fAp mkT (aC (fC (.str "b")) (aC (fC (.str "a")) aN))) (aC (fAp mkT (aC (fC (.str "aba")) (aC (fC (.str "b")) aN))) aN))) (aC (fAp mkL (aC (fAp mkT (aC (fC (.str "b")) (aC (fC (.str "a")) aN))) (aC (fC .non) aN))) (aC (fN 1) (aC (fC (.bl true)) aN)))))))
      (sSeq (sFor (iR1 (aC (fC (.int 5)) aN)) (gN 4)
      (sSeq (sIf (tF blD (fB neO (fAp (fnD 2 4 b_w_heard) (aC (fCaB (fnB 1 2 b_w_pick) 0 (aC (fN 2) aN)) (aC (fCaB (fnB 1 2 b_w_pick) 0 (aC (fB catO (fN 3) (fAp mkL (aC (fAp mkL aN) (aC (fAp mkL (aC (fAp mkT (aC (fC (.str "b")) (aC (fC (.str "a")) aN))) aN)) aN)))) aN)) aN))) (fC (.str "signs")))) (sRt (fC (.bl false))) sNx)
      (sIf (tF blD (fB neO (fAp (fnD 2 4 b_w_heard) (aC (fC (.str "ab")) (aC (fCaB (fnB 1 2 b_w_pick) 0 (aC (fN 3) aN)) aN))) (fC (.str "pairs")))) (sRt (fC (.bl false))) sNx)))
      (sRt (fAnd (fB eqO (fAp (fnD 2 4 b_w_heard) (aC (fC (.str "ab")) (aC (fAp mkL aN) aN))) (fC (.str "made"))) (fB eqO (fAp (fnD 2 4 b_w_heard) (aC (fC (.str "z")) (aC (fAp mkL (aC (fAp mkT (aC (fC (.str "zz")) (aC (fC (.str "")) aN))) aN)) aN))) (fC (.str "made")))))))))))
def b_law : FS := (sSeq (sFor (iR1 (aC (fB maxO (fC (.int 1)) (fB minO (fC (.int 3)) (fU lenD (pN 0)))) aN)) (gN 1)
      (sSeq (sSetO 2 (fAp (fNB (fnNB 2 4 b_w_box)) (aC (fN 0) (aC (fN 1) aN))))
      (sSeq (sSet 3 (fCaB (fnB 0 1 b_w_signs) 2 aN))
      (sSeq (sSet 4 (fCaB (fnB 2 10 b_w_pairs) 2 (aC (fN 3) (aC (fCaB (fnB 1 4 b_w_take) 2 (aC (fC (.int 5)) aN)) aN))))
      (sSeq (sSetO 5 (fU lstO (fN 4)))
      (sSeq (sSet 6 (fIf (tF blD (fB eqO (fCaB (fnB 1 4 b_w_take) 2 (aC (fC (.int 2)) aN)) (fC (.int 0)))) (fMkB (iniD "Rules" 2 3 b_RulesD_initD) (fN 3) 5) (fAp (kwI 2 [1, 0] (iniD "Rules" 2 3 b_RulesD_initD)) (aC (fU tupLO (pN 5)) (aC (fN 3) aN)))))
      (sSeq (sEx (fMuL appO 5 (aC (fC .non) aN)))
      (sSeq (sIf (cOr (tF blD (fB neO (fAp mkT (aC (fU (attrD ["Rules"] "signs") (pN 6)) (aC (fU (attrD ["Rules"] "pairs") (pN 6)) aN))) (fAp mkT (aC (fN 3) (aC (fU tupO (fN 4)) aN))))) (cOr (tF blD (fB (neM "Rules" (fnD 2 2 b_RulesD_eqD)) (fN 6) (fAp (iniD "Rules" 2 3 b_RulesD_initD) (aC (fN 3) (aC (fN 4) aN))))) (tF blD (fB (eqM "Rules" (fnD 2 2 b_RulesD_eqD)) (fN 6) (fN 4))))) (sRt (fC (.bl false))) sNx)
      (sSeq (sIf (cOr (cAnd (tF blD (fB gtO (fU lenD (pN 4)) (fC (.int 1)))) (tF blD (fB (eqM "Rules" (fnD 2 2 b_RulesD_eqD)) (fN 6) (fAp (iniD "Rules" 2 3 b_RulesD_initD) (aC (fN 3) (aC (fRev (fN 4) (fB subO (fC (.int 0)) (fC (.int 1)))) aN)))))) (cOr (tF blD (fB (neM "Rules" (fnD 2 2 b_RulesD_eqD)) (fN 6) (fN 6))) (tF blD (fB (eqM "Rules" (fnD 2 2 b_RulesD_eqD)) (fN 6) (fAp (iniD "Rules" 2 3 b_RulesD_initD) (aC (fC (.str "q")) (aC (fAp mkL aN) aN))))))) (sRt (fC (.bl false))) sNx)
      (sSeq (sFor (iR1 (aC (fC (.int 8)) aN)) (gN 7)
      (sSeq (sSet 8 (fCaB (fnB 2 4 b_w_row) 2 (aC (fN 3) (aC (fC (.int 9)) aN))))
      (sSeq (sAs (fAp (fnD 2 4 b_w_road) (aC (fN 4) (aC (fN 8) aN))) (gTu 2 (gCo (gN 9) (gCo (gN 10) gNi))))
      (sSeq (sIf (cOr (tF blD (fB neO (fAp (methD "Rules" "moves" (fnD 2 7 b_Rules_moves)) (aC (fN 6) (aC (fN 8) aN))) (fU tupO (fAp (fnD 2 7 b_w_moves) (aC (fN 4) (aC (fN 8) aN)))))) (tF blD (fB neO (fAp (kwM "Rules" "moves" 1 [0, 1] (fnD 2 7 b_Rules_moves)) (aC (fN 6) (aC (fN 8) aN))) (fAp (methD "Rules" "moves" (fnD 2 7 b_Rules_moves)) (aC (fN 6) (aC (fN 8) aN)))))) (sRt (fC (.bl false))) sNx)
      (sSeq (sFor (iS (fAp (methD "Rules" "moves" (fnD 2 7 b_Rules_moves)) (aC (fN 6) (aC (fN 8) aN)))) (gN 11)
      (sSeq (sSet 12 (fAp (fnD 3 5 b_w_after) (aC (fN 4) (aC (fN 8) (aC (fN 11) aN)))))
      (sIf (cOr (tF blD (fB neO (fAp (methD "Rules" "after" (fnD 3 7 b_Rules_after)) (aC (fN 6) (aC (fN 8) (aC (fN 11) aN)))) (fN 12))) (tF blD (fB eqO (fAp (kwM "Rules" "after" 2 [0, 2, 1] (fnD 3 7 b_Rules_after)) (aC (fN 6) (aC (fN 11) (aC (fN 8) aN)))) (fN 8)))) (sRt (fC (.bl false))) sNx)))
      (sSeq (sIf (cOr (tF blD (fB neO (fAp (methD "Rules" "road" (fnD 2 4 b_Rules_road)) (aC (fN 6) (aC (fN 8) aN))) (fU tupO (fN 9)))) (cOr (tF blD (fB neO (fAp (methD "Rules" "reduced" (fnD 2 3 b_Rules_reduced)) (aC (fN 6) (aC (fN 8) aN))) (fN 10))) (tF blD (fB neO (fAp (kwM "Rules" "reduced" 1 [0, 1] (fnD 2 3 b_Rules_reduced)) (aC (fN 6) (aC (fN 10) aN))) (fN 10))))) (sRt (fC (.bl false))) sNx)
      (sIf (tF blD (fB neO (fAp (kwM "Rules" "road" 1 [0, 1] (fnD 2 4 b_Rules_road)) (aC (fN 6) (aC (fN 10) aN))) (fAp mkT aN))) (sRt (fC (.bl false))) sNx)))))))
      (sIf (cNot (tF blD (fCaB (fnB 0 5 b_w_refused_right) 2 aN))) (sRt (fC (.bl false))) sNx)))))))))))
      (sRt (fC (.bl true))))
structure Tx (K : PySem.W.Frag) (mg : Str → Option Value) : Prop where
  b_isinstance : mg "isinstance" = none
  b_str : mg "str" = none
  b_all : mg "all" = none
  b_len : mg "len" = none
  b_zip : mg "zip" = none
  b_tuple : mg "tuple" = none
  b_list : mg "list" = none
  b_enumerate : mg "enumerate" = none
  b_any : mg "any" = none
  b_range : mg "range" = none
  b_abs : mg "abs" = none
  b_int : mg "int" = none
  b_max : mg "max" = none
  b_min : mg "min" = none
  b_repr : mg "repr" = none
  b_bool : mg "bool" = none
  k_PAIR : ∃ u v, mg "PAIR" = some u ∧ RelV v u ∧ ∀ H, Rep K H v (.int 2)
  at_signs : ∀ c ∈ (["Rules"] : List Str), Cls K (He.ga K c) ∧ NoAttr K (He.ga K c) "signs"
  at_pairs : ∀ c ∈ (["Rules"] : List Str), Cls K (He.ga K c) ∧ NoAttr K (He.ga K c) "pairs"
  cl_Rules : Cls K (He.ga K "Rules")
  d_is_row_of : GD K mg "is_row_of" s_is_row_of ["value", "signs"]
  d_rank : GD K mg "rank" s_rank ["row"]
  d_are_signs : GD K mg "are_signs" s_are_signs ["value"]
  d_is_pair : GD K mg "is_pair" s_is_pair ["value", "signs"]
  d_are_pairs : GD K mg "are_pairs" s_are_pairs ["value", "signs"]
  i_Rules : ID K mg "Rules" (He.ga K "Rules") "Rules.__init__" s_RulesD_initD ["self", "signs", "pairs"]
  m_Rules_moves : MD K (He.ga K "Rules") "moves" "Rules.moves" s_Rules_moves ["self", "row"]
  m_Rules_after : MD K (He.ga K "Rules") "after" "Rules.after" s_Rules_after ["self", "row", "move"]
  m_Rules_least_move : MD K (He.ga K "Rules") "least_move" "Rules.least_move" s_Rules_least_move ["self", "row"]
  m_Rules_road : MD K (He.ga K "Rules") "road" "Rules.road" s_Rules_road ["self", "row"]
  m_Rules_reduced : MD K (He.ga K "Rules") "reduced" "Rules.reduced" s_Rules_reduced ["self", "row"]
  m_Rules___eq__ : MD K (He.ga K "Rules") "__eq__" "Rules.__eq__" s_RulesD_eqD ["self", "other"]
  d_box : GD K mg "_law_box" s_w_box ["_law_script", "_law_k"]
  d_take : GD K mg "_law_take" s_w_take ["_law_box_here", "_law_many"]
  d_pick : GD K mg "_law_pick" s_w_pick ["_law_box_here", "_law_some"]
  d_w_rank : GD K mg "_law_rank" s_w_rank ["_law_row_here"]
  d_signs : GD K mg "_law_signs" s_w_signs ["_law_box_here"]
  d_row : GD K mg "_law_row" s_w_row ["_law_box_here", "_law_signs_here", "_law_long"]
  d_pairs : GD K mg "_law_pairs" s_w_pairs ["_law_box_here", "_law_signs_here", "_law_many"]
  d_moves : GD K mg "_law_moves" s_w_moves ["_law_pairs_here", "_law_row_here"]
  d_after : GD K mg "_law_after" s_w_after ["_law_pairs_here", "_law_row_here", "_law_move"]
  d_road : GD K mg "_law_road" s_w_road ["_law_pairs_here", "_law_row_here"]
  d_heard : GD K mg "_law_heard" s_w_heard ["_law_signs_here", "_law_pairs_here"]
  d_refused_right : GD K mg "_law_refused_right" s_w_refused_right ["_law_box_here"]
  mk_Rules_0 : IDK K mg "Rules" (He.ga K "Rules") "Rules.__init__" s_RulesD_initD ["self", "signs", "pairs"] ["pairs", "signs"] (0 :: [1, 0].map (· + 1))
  mk_Rules_moves_0 : MDK K (He.ga K "Rules") "moves" "Rules.moves" s_Rules_moves ["self", "row"] ["row"] [0, 1]
  mk_Rules_after_0 : MDK K (He.ga K "Rules") "after" "Rules.after" s_Rules_after ["self", "row", "move"] ["move", "row"] [0, 2, 1]
  mk_Rules_reduced_0 : MDK K (He.ga K "Rules") "reduced" "Rules.reduced" s_Rules_reduced ["self", "row"] ["row"] [0, 1]
  mk_Rules_road_0 : MDK K (He.ga K "Rules") "road" "Rules.road" s_Rules_road ["self", "row"] ["row"] [0, 1]
  w_Rules : IsW K "Rules"
  g_Rules : mg "Rules" = some (.ref (He.ga K "Rules"))
  g_InvalidRules : mg "InvalidRules" = some (.ref (He.ga K "InvalidRules"))
  g_RowError : mg "RowError" = some (.ref (He.ga K "RowError"))
  g_InvalidReader : mg "InvalidReader" = some (.ref (He.ga K "InvalidReader"))
  sl_Rules : PySem.W.subIn K (.type "list") (.ref (He.ga K "Rules")) = some false
  ne_Rules : PySem.W.findIn K (.ref (He.ga K "Rules")) "__ne__" = some (some (.builtin "object.__ne__"))
  mo_Rules : PySem.W.mroIn K (He.ga K "Rules") (.type "object") = some true
  ex_InvalidRules : PySem.W.exmOne K (.ref (He.ga K "InvalidRules")) (.ref (He.ga K "InvalidRules")) = some true
  xf_InvalidRules : XfC K (He.ga K "InvalidRules")
  xc_InvalidRules : ExcC K (He.ga K "InvalidRules")
  no_InvalidRules : PySem.W.findIn K (.ref (He.ga K "InvalidRules")) "word" = some none
  ki_InvalidRules_RowError : PySem.W.kitOne K (.ref (He.ga K "InvalidRules")) (.ref (He.ga K "RowError")) = some true
  ki_InvalidRules_InvalidReader : PySem.W.kitOne K (.ref (He.ga K "InvalidRules")) (.ref (He.ga K "InvalidReader")) = some false

end K60
/-! the end of a law whose program makes own exceptions (as ARGuard's, with NoOpq) -/
namespace AR
open PySem PySem.Spec PyProof.Rows L2
def IsDct (h : Heap) (b : Addr) : Prop := ∃ (o : Obj) (es : Array DictEntry) (n : Nat), h.get? b = some o ∧ o.data = .dict es n ∧ True
theorem NoOpq.hid {h : Heap} {H : Hp} (q : NoOpq h) (k : ∀ b, IsDct h b → H b = none) : NoOpq (hidT h H) := by
  obtain ⟨K2, h1, h2⟩ := q
  cases hl : K2.lookup PySem.cStatics with
  | none => unfold PySem.W.nsIn at h2; rw [hl] at h2; cases h2
  | some o =>
    obtain ⟨c, d, dt, sl⟩ := o
    refine ⟨[(PySem.cStatics, ⟨c, d, dt, sl⟩)], fun b o e => ?_, ?_⟩
    · simp only [List.lookup] at e
      split at e
      · rename_i eb
        cases e
        rw [beq_iff_eq.mp eb]
        refine hidT_get (h1 _ _ hl) (k _ ?_)
        unfold PySem.W.nsIn at h2
        rw [hl] at h2
        cases dt with
        | dict es n => exact ⟨_, es, n, h1 _ _ hl, rfl, trivial⟩
        | _ => cases h2
      · cases e
    · unfold PySem.W.nsIn at h2 ⊢
      rw [hl] at h2
      simpa [List.lookup] using h2
section
variable {pr : Program} {wo : World} {K : PySem.W.Frag} {mg mb : Str → Option Value} {k : Nat} {fa a : Addr} {fd : FuncData} {x : Str} {sp : Sp} {t0 : Shared} {vs : List Value} {ns : List Int}
theorem lawGX (KX : K.In t0.heap) (hq : NoOpq t0.heap) (hns : t0.heap.Ns mainGlobals mg) (hb : t0.heap.Ns builtinsNs mb) (hbb : ∀ x : Str, x ≠ "__name__" → mb x = bootBuiltins x) (hlim : t0.heap.NoLimit) (hg : t0.gens = #[])
    (ha : t0.heap.get? a = some { cls := .type "list", data := .seq vs.toArray }) (hi : IntsAre vs ns) (hl : ns.length ≤ sizeLine) (hr : Room k callerA)
    (F : ∀ base : Heap, K.In base → base.Ns mainGlobals mg → NoOpq base → FnG pr wo K mg base k fa fd [x] sp) (hbind : ∀ (s : Shared) (u : Value), BindsTo s fd ⟨[u], []⟩ [(x, u)])
    (hsp : ∀ H : Hp, Only H → SqL K H a (ns.map V.int) → sp [.ref a] H (fun v _ => v = .bl true) fun _ _ _ => False) :
    codeAny (model pr wo) callerA (.call (.ref fa) ⟨[.ref a], []⟩) (fun r z => r = .ok (.ret (.bool true)) ∧ OldK t0.heap z.heap ∧ z.os = t0.os ∧ AllBare z.gens) t0 := by
  have rel := vals_ints hi
  have from_ : ∀ H : Hp, Only H → SqL K H a (ns.map V.int) → HOk pr wo H t0.heap → (∀ b u, H b = some u → b = a) → (∀ u, H a = some u → K.lookup a = none) →
      codeAny (model pr wo) callerA (.call (.ref fa) ⟨[.ref a], []⟩) (fun r z => r = .ok (.ret (.bool true)) ∧ OldK t0.heap z.heap ∧ z.os = t0.os ∧ AllBare z.gens) t0 := by
    intro H only sq hok one notK
    have ns' : ∀ {b : Addr} {m : Str → Option Value}, t0.heap.Ns b m → (hidT t0.heap H).Ns b m := fun {b m} ⟨o, es, ep, e, d, r⟩ => by
      refine ⟨o, es, ep, hidT_get e ?_, d, r⟩
      cases q : H b with
      | none => rfl
      | some u =>
        have e2 := one b u q
        subst e2
        rw [ha] at e
        cases e
        cases d
    have kin : K.In (hidT t0.heap H) := fun b o e => hidT_get (KX b o e) (by
      cases q : H b with
      | none => rfl
      | some u =>
        have e2 := one b u q
        subst e2
        rw [notK u q] at e
        cases e)
    obtain ⟨mc, lim1, lim2⟩ := hlim
    have nop : NoOpq (hidT t0.heap H) := hq.hid fun b hb => by
      cases q : H b with
      | none => rfl
      | some u =>
        have e2 := one b u q
        subst e2
        obtain ⟨o, es, ep, e, d, r⟩ := hb
        rw [ha] at e
        cases e
        cases d
    have e0 : Env0 pr wo K mg (hidT t0.heap H) callerA [] t0 H := ⟨rfl, ⟨kin, ns' hns, ⟨mb, ns' hb, hbb⟩, ⟨mc, ns' lim1, lim2⟩⟩, fun b o e => of_hidT e, Nat.le_of_eq (hidT_size _ _), trivial, fun b hb => (by cases hb), hok, .of_eq hg⟩
    refine codeAny_mono ((F _ kin (ns' hns) nop).run callerA [] t0 H ⟨[.ref a], []⟩ [.ref a] [.ref a] _ _ hr rfl e0 (hbind t0 (.ref a)) (.cons rfl .nil) (hsp H only sq)) fun r z h => ?_
    match r, h with
    | .error e, h => exact (show False from h).elim
    | .ok (.ret u), ⟨v, H', os, bare, un, hok', r', q⟩ =>
      replace q : v = .bl true := q
      subst q
      obtain rfl : u = Value.bool true := r'
      refine ⟨rfl, OldK.of_keep fun b o e => ?_, os, bare⟩
      cases q : H b with
      | none => exact un.keep b o e q (fun zz => by cases zz) (by simp)
      | some u =>
        rcases only b with zz | ⟨ob, xs, zz⟩
        · rw [q] at zz; cases zz
        · obtain ⟨g1, _⟩ := hok b _ zz
          obtain ⟨g2, _⟩ := hok' b _ (un.frzs b ob _ zz)
          rw [e] at g1
          cases g1
          exact g2
  cases hk : K.lookup a with
  | some o =>
    have e := KX a o hk
    rw [ha] at e
    cases e
    exact from_ (fun _ => none) (fun _ => .inl rfl) (.inr ⟨_, vs.toArray, _, hk, rfl, rfl, rfl, by rw [List.size_toArray, hi.length]; exact hl, by simpa using rel⟩) (fun b u zz => nomatch zz) (fun b u zz => nomatch zz) fun u zz => nomatch zz
  | none =>
    have here : ∀ b u, (if b = a then some (HO.frz { cls := .type "list", data := .seq vs.toArray } (.lst (ns.map V.int))) else none) = some u → b = a ∧ u = .frz { cls := .type "list", data := .seq vs.toArray } (.lst (ns.map V.int)) := fun b u e => by
      by_cases hb : b = a
      · rw [if_pos hb] at e; cases e; exact ⟨hb, rfl⟩
      · rw [if_neg hb] at e; cases e
    refine from_ (fun b => if b = a then some (.frz { cls := .type "list", data := .seq vs.toArray } (.lst (ns.map V.int))) else none) (fun b => ?_) (.inl (.inr ⟨_, if_pos rfl⟩)) (fun b u zz => ?_) (fun b u zz => (here b u zz).1) fun _ _ => hk
    · by_cases hb : b = a
      · exact .inr ⟨_, _, if_pos hb⟩
      · exact .inl (if_neg hb)
    · obtain ⟨rfl, rfl⟩ := here b u zz
      exact ⟨ha, by rw [List.length_map]; exact hl, vs, _, rel, ha⟩
end
theorem walkGX {l : PySem.W.OpenLaw} {n k : Nat} {q : Program} {loose : List Str} {XP : (Str → Option Value) → Heap → Prop} {YP : World → Heap → Prop} {d : DefRec} {x : Str} (hn : l.most = some n) (hn2 : n ≤ sizeLine) (hdf : d.params.defaults = []) (hr : Room k callerA)
    (F : ∀ (w : World) (mg : Str → Option Value) (fa : Addr) (h : Heap), YP w h → h.Ns mainGlobals mg → mg d.name = some (.ref fa) →
      ∃ (K : PySem.W.Frag) (fd : FuncData) (sp : Sp), K.In h ∧ NoOpq h ∧ (∀ (s : Shared) (u : Value), BindsTo s fd ⟨[u], []⟩ [(x, u)]) ∧
        (∀ (H : Hp) (a : Addr) (ns : List Int), ns.length ≤ n → Only H → SqL K H a (ns.map V.int) → sp [.ref a] H (fun v _ => v = .bl true) fun _ _ _ => False) ∧ ∀ base : Heap, K.In base → base.Ns mainGlobals mg → NoOpq base → FnG l.prog w K mg base k fa fd [x] sp) :
    PySem.W.WalkO q loose XP YP l.row.toRowW d [] (fun f vs => PySem.call f vs) := by
  refine Att.attach_call hn hdf fun w s0 s1 mg mb fa o pm cd doc a vs ns G Y ho hd hcd hmg hobj hints hlen hg => ?_
  obtain ⟨K, fd, sp, KX, hq, hb, want, hF⟩ := F w mg fa _ Y G.T.g hmg
  exact lawGX KX hq G.T.g G.T.b G.T.builtins G.T.nolimit hg hobj hints (Nat.le_trans hlen hn2) hr hF hb fun H hO hS => want H a ns hlen hO hS
end AR
set_option autoImplicit false
/-! Tx facts of exception classes and own classes, from the head -/
namespace VS
open PySem PySem.Spec PyProof.Rows L2 AR
def iwB (K : PySem.W.Frag) (c : Str) : Bool :=
  He.eqO (PySem.W.findIn K (.ref (He.ga K c)) "__class__") (some (some (.builtin "object.__class__"))) && (He.eqO (PySem.W.specialIn K (.builtin "object.__class__") "__get__") (some (some (.builtin "getset_descriptor.__get__"))) &&
  (decide (PySem.W.takesIn K (.builtin "object.__class__") = some true) && (decide (PySem.W.mroIn K (He.ga K c) (.type "object") = some true) && (decide (PySem.W.kitOne K (.ref (He.ga K c)) (.ref (He.ga K c)) = some true) &&
  (["NoneType", "bool", "int", "str", "list", "tuple"] : List String).all fun T => decide (PySem.W.kitOne K (.type T) (.ref (He.ga K c)) = some false)))))
theorem iwB_ok {K : PySem.W.Frag} {c : Str} (cl : Cls K (He.ga K c)) (h : iwB K c = true) : IsW K c := by
  obtain ⟨h1, h⟩ := band h
  obtain ⟨h2, h⟩ := band h
  obtain ⟨h3, h⟩ := band h
  obtain ⟨h4, h⟩ := band h
  obtain ⟨h5, h6⟩ := band h
  exact ⟨⟨cl, He.eqO_ok h1, He.eqO_ok h2, of_decide_eq_true h3, of_decide_eq_true h4, of_decide_eq_true h5⟩, fun T hT => of_decide_eq_true (List.all_eq_true.mp h6 T hT)⟩
/-- what the text of a program tells of an own exception class -/
structure ExF (K : PySem.W.Frag) (c f : Str) : Prop where
  exm : PySem.W.exmOne K (.ref (He.ga K c)) (.ref (He.ga K c)) = some true
  xf : XfC K (He.ga K c)
  xc : ExcC K (He.ga K c)
  no : PySem.W.findIn K (.ref (He.ga K c)) f = some none
theorem ExF.of {P : Program} {K : PySem.W.Frag} {d : XD} (hd : d.ok P.main.file K = true) (ho : d.obs K = d.val) : ExF K d.cn d.fl := by
  obtain ⟨T, E, X, m, _⟩ := XD.xif hd ho
  exact ⟨m, X, E, T.no⟩
end VS
namespace K60
open PySem PySem.Spec PyProof.Rows L2 AR VS
abbrev s_InvalidRules_xini : Stmt := inClass (top 3) 0
def xdL : List XD := [⟨"InvalidRules", "word", "InvalidRules.__init__", defArgs s_InvalidRules_xini, defBody s_InvalidRules_xini, defScope s_InvalidRules_xini⟩]
def dD_is_row_of : He.DefD := ⟨("is_row_of", none), "is_row_of", "is_row_of", defArgs s_is_row_of, defBody s_is_row_of, defScope s_is_row_of, [], []⟩
def dD_rank : He.DefD := ⟨("rank", none), "rank", "rank", defArgs s_rank, defBody s_rank, defScope s_rank, [], []⟩
def dD_are_signs : He.DefD := ⟨("are_signs", none), "are_signs", "are_signs", defArgs s_are_signs, defBody s_are_signs, defScope s_are_signs, [], []⟩
def dD_is_pair : He.DefD := ⟨("is_pair", none), "is_pair", "is_pair", defArgs s_is_pair, defBody s_is_pair, defScope s_is_pair, [], []⟩
def dD_are_pairs : He.DefD := ⟨("are_pairs", none), "are_pairs", "are_pairs", defArgs s_are_pairs, defBody s_are_pairs, defScope s_are_pairs, [], []⟩
def dD_w_box : He.DefD := ⟨("_law_box", none), "_law_box", "_law_box", defArgs s_w_box, defBody s_w_box, defScope s_w_box, [], []⟩
def dD_w_take : He.DefD := ⟨("_law_take", none), "_law_take", "_law_take", defArgs s_w_take, defBody s_w_take, defScope s_w_take, [], []⟩
def dD_w_pick : He.DefD := ⟨("_law_pick", none), "_law_pick", "_law_pick", defArgs s_w_pick, defBody s_w_pick, defScope s_w_pick, [], []⟩
def dD_w_rank : He.DefD := ⟨("_law_rank", none), "_law_rank", "_law_rank", defArgs s_w_rank, defBody s_w_rank, defScope s_w_rank, [], []⟩
def dD_w_signs : He.DefD := ⟨("_law_signs", none), "_law_signs", "_law_signs", defArgs s_w_signs, defBody s_w_signs, defScope s_w_signs, [], []⟩
def dD_w_row : He.DefD := ⟨("_law_row", none), "_law_row", "_law_row", defArgs s_w_row, defBody s_w_row, defScope s_w_row, [], []⟩
def dD_w_pairs : He.DefD := ⟨("_law_pairs", none), "_law_pairs", "_law_pairs", defArgs s_w_pairs, defBody s_w_pairs, defScope s_w_pairs, [], []⟩
def dD_w_moves : He.DefD := ⟨("_law_moves", none), "_law_moves", "_law_moves", defArgs s_w_moves, defBody s_w_moves, defScope s_w_moves, [], []⟩
def dD_w_after : He.DefD := ⟨("_law_after", none), "_law_after", "_law_after", defArgs s_w_after, defBody s_w_after, defScope s_w_after, [], []⟩
def dD_w_road : He.DefD := ⟨("_law_road", none), "_law_road", "_law_road", defArgs s_w_road, defBody s_w_road, defScope s_w_road, [], []⟩
def dD_w_heard : He.DefD := ⟨("_law_heard", none), "_law_heard", "_law_heard", defArgs s_w_heard, defBody s_w_heard, defScope s_w_heard, [], []⟩
def dD_w_refused_right : He.DefD := ⟨("_law_refused_right", none), "_law_refused_right", "_law_refused_right", defArgs s_w_refused_right, defBody s_w_refused_right, defScope s_w_refused_right, [], []⟩
def dD_law : He.DefD := ⟨("law", none), "law", "law", defArgs s_law, defBody s_law, defScope s_law, [], []⟩
def dD_Rules_init : He.DefD := ⟨("Rules", some "__init__"), "__init__", "Rules.__init__", defArgs s_RulesD_initD, defBody s_RulesD_initD, defScope s_RulesD_initD, [], []⟩
def dD_Rules_moves : He.DefD := ⟨("Rules", some "moves"), "moves", "Rules.moves", defArgs s_Rules_moves, defBody s_Rules_moves, defScope s_Rules_moves, [], []⟩
def dD_Rules_after : He.DefD := ⟨("Rules", some "after"), "after", "Rules.after", defArgs s_Rules_after, defBody s_Rules_after, defScope s_Rules_after, [], []⟩
def dD_Rules_least_move : He.DefD := ⟨("Rules", some "least_move"), "least_move", "Rules.least_move", defArgs s_Rules_least_move, defBody s_Rules_least_move, defScope s_Rules_least_move, [], []⟩
def dD_Rules_road : He.DefD := ⟨("Rules", some "road"), "road", "Rules.road", defArgs s_Rules_road, defBody s_Rules_road, defScope s_Rules_road, [], []⟩
def dD_Rules_reduced : He.DefD := ⟨("Rules", some "reduced"), "reduced", "Rules.reduced", defArgs s_Rules_reduced, defBody s_Rules_reduced, defScope s_Rules_reduced, [], []⟩
def dD_RulesD_eqD : He.DefD := ⟨("Rules", some "__eq__"), "__eq__", "Rules.__eq__", defArgs s_RulesD_eqD, defBody s_RulesD_eqD, defScope s_RulesD_eqD, [], []⟩
def fnL : List He.DefD := [dD_is_row_of, dD_rank, dD_are_signs, dD_is_pair, dD_are_pairs, dD_w_box, dD_w_take, dD_w_pick, dD_w_rank, dD_w_signs, dD_w_row, dD_w_pairs, dD_w_moves, dD_w_after, dD_w_road, dD_w_heard, dD_w_refused_right, dD_law, dD_Rules_init, dD_Rules_moves, dD_Rules_after, dD_Rules_least_move, dD_Rules_road, dD_Rules_reduced, dD_RulesD_eqD]
def faL : List He.Fa := [.glo "InvalidRules", .glo "RowError", .glo "InvalidReader", .free "isinstance", .free "str", .free "all", .free "len", .free "zip", .free "tuple", .free "list", .free "enumerate", .free "any", .free "range", .free "abs", .free "int", .free "max", .free "min", .free "repr", .free "bool", .free "super", .int "PAIR" 2, .glo "is_row_of", .glo "rank", .glo "are_signs", .glo "is_pair", .glo "are_pairs", .glo "_law_box", .glo "_law_take", .glo "_law_pick", .glo "_law_rank", .glo "_law_signs", .glo "_law_row", .glo "_law_pairs", .glo "_law_moves", .glo "_law_after", .glo "_law_road", .glo "_law_heard", .glo "_law_refused_right", .glo "law", .glo "Rules", .cls "Rules", .noat "Rules" "signs", .noat "Rules" "pairs", .mkr "Rules", .meth "Rules" "moves", .meth "Rules" "after", .meth "Rules" "least_move", .meth "Rules" "road", .meth "Rules" "reduced", .meth "Rules" "__eq__"]
def exL (K : PySem.W.Frag) : Bool := iwB K "Rules" && (decide (PySem.W.subIn K (.type "list") (.ref (He.ga K "Rules")) = some false) && (He.eqO (PySem.W.findIn K (.ref (He.ga K "Rules")) "__ne__") (some (some (.builtin "object.__ne__"))) && (decide (PySem.W.mroIn K (He.ga K "Rules") (.type "object") = some true) && (decide (PySem.W.kitOne K (.ref (He.ga K "InvalidRules")) (.ref (He.ga K "RowError")) = some true) && (decide (PySem.W.kitOne K (.ref (He.ga K "InvalidRules")) (.ref (He.ga K "InvalidReader")) = some false))))))
abbrev RL : PySem.W.OpenRow := PySem.W.OpenLaw.row PySem.Challenge.rw_allrows_k60_rules_made_and_moved
def fileL : Str := RL.prog.main.file
abbrev hkL : PySem.W.Hook := hookY 6 faL fnL xdL exL fileL
def obL (s : PySem.W.SharedT) : AlY := obsY 6 faL fnL xdL exL fileL (HandSHeadRun.getT s)
theorem ob_eq (s : PySem.W.SharedT) : obL s = hkL.obs s.abs := obsY_eq (HandSHeadRun.getT_eq s)
def looseL : List Str := [("RowError" : Str), ("InvalidReader" : Str), ("InvalidRules" : Str), ("PAIR" : Str), ("is_row_of" : Str), ("rank" : Str), ("are_signs" : Str), ("is_pair" : Str), ("are_pairs" : Str), ("Rules" : Str), ("_law_box" : Str), ("_law_take" : Str), ("_law_pick" : Str), ("_law_rank" : Str), ("_law_signs" : Str), ("_law_row" : Str), ("_law_pairs" : Str), ("_law_moves" : Str), ("_law_after" : Str), ("_law_road" : Str), ("_law_heard" : Str), ("_law_refused_right" : Str)]
theorem runL (w : World) : HandSHeadRun.RunEq RL (PySem.W.view RL.prog [25]) hkL obL 4000 looseL w := by
  intro os
  kernel_rfl
end K60
namespace K60
open PySem PySem.Spec PyProof.Rows L2 AR VS
open C8 (Cal Met Mak)
section
variable {P : Program} {w : World} {K : PySem.W.Frag} {mg : Str → Option Value} {base : Heap}
variable [XF : XMF P w K mg base]
include XF
theorem v_is_row_of (T : Tx K mg) : Cal P w K mg base 1 "is_row_of" (spF K 2 (fnD 2 3 b_is_row_of)) [] := by
  exact GD.vcal T.d_is_row_of sc_is_row_of rfl rfl fun f cdv A outer s H E hr => (vs_one (vs_rt (ve_and (ve_isT (Ts := "str") (by decide +kernel) (by rfl) T.b_isinstance (vp_name (pv 0)) (by rfl) T.b_str (by decide) (by decide)) (ve_one (ve_all rfl (by rfl) T.b_all (ve_lc (own := [("sign", 2)]) (us := [2]) (fg := (gN 2)) (fc := cYes) (fe := (fB inO (fN 2) (pN 1))) (by rfl) sc_is_row_of.nd rfl (vi_seq (ve_name (pv 0))) (blkOk_by (own := [("sign", 2)]) (N := ["value", "signs", "sign"]) (sc := defScope s_is_row_of) (by decide +kernel)) (fun _ _ _ _ _ => (vg_name (by decide) (pg_name (i := 2) sc_is_row_of.nd rfl (Or.inl rfl)))) (fun _ _ _ _ _ => vts_nil) (fun _ _ _ _ _ => (CmpV.vep (c_in (u65 hr)) (ve_name (pv 2)) (vp_name (pv 1)) (by rfl)))))))))
theorem v_rank (T : Tx K mg) : Cal P w K mg base 1 "rank" (spF K 1 (fnD 1 1 b_rank)) [] := by
  exact GD.vcal T.d_rank sc_rank rfl rfl fun f cdv A outer s H E hr => (vs_one (vs_rt (ve_tup (va_cons (ve_len (by rfl) T.b_len (vp_name (pv 0))) (va_cons (ve_name (pv 0)) va_nil)))))
theorem v_are_signs (T : Tx K mg) : Cal P w K mg base 1 "are_signs" (spF K 1 (fnD 1 4 b_are_signs)) [] := by
  exact GD.vcal T.d_are_signs sc_are_signs rfl rfl fun f cdv A outer s H E hr => (vs_cons (vs_if (PW.pt (vw_or (vt_not (vt_bl (ve_isT (Ts := "str") (by decide +kernel) (by rfl) T.b_isinstance (vp_name (pv 0)) (by rfl) T.b_str (by decide) (by decide)))) (vw_or1 (vt_not (vt_chain c_le c_le ve_int (ve_len (by rfl) T.b_len (vp_name (pv 0))) ve_int))))) (vs_one (vs_rt ve_bl)) vs_nil)
      (vs_cons (vs_if (vt_not (vt_bl (ve_all rfl (by rfl) T.b_all (ve_lc (own := [("sign", 1)]) (us := [1]) (fg := (gN 1)) (fc := cYes) (fe := (fCh leO leO (fC (.str "a")) (fN 1) (fC (.str "z")))) (by rfl) sc_are_signs.nd rfl (vi_seq (ve_name (pv 0))) (blkOk_by (own := [("sign", 1)]) (N := ["value", "sign", "one", "other"]) (sc := defScope s_are_signs) (by decide +kernel)) (fun _ _ _ _ _ => (vg_name (by decide) (pg_name (i := 1) sc_are_signs.nd rfl (Or.inl rfl)))) (fun _ _ _ _ _ => vts_nil) (fun _ _ _ _ _ => (ve_chain c_le c_le (ve_str (by decide +kernel)) (ve_name (pv 1)) (ve_str (by decide +kernel)))))))) (vs_one (vs_rt ve_bl)) vs_nil)
      (vs_one (vs_rt (ve_all rfl (by rfl) T.b_all (ve_lc (own := [("one", 2), ("other", 3)]) (us := [2, 3]) (fg := (gTu 2 (gCo (gN 2) (gCo (gN 3) gNi)))) (fc := cYes) (fe := (fB ltO (fN 2) (fN 3))) (by rfl) sc_are_signs.nd rfl (vi_zip (by rfl) T.b_zip (va_cons (ve_name (pv 0)) (va_cons (ve_slice (ve_name (pv 0)) (vo_some ve_int) vo_none) va_nil))) (blkOk_by (own := [("one", 2), ("other", 3)]) (N := ["value", "sign", "one", "other"]) (sc := defScope s_are_signs) (by decide +kernel)) (fun _ _ _ _ _ => (vg_tup (n := 2) (by rfl) (vgs_cons (vg_name (by decide) (pg_name (i := 2) sc_are_signs.nd rfl (Or.inl rfl))) (vgs_cons (vg_name (by decide) (pg_name (i := 3) sc_are_signs.nd rfl (Or.inl rfl))) vgs_nil)))) (fun _ _ _ _ _ => vts_nil) (fun _ _ _ _ _ => (CmpV.ve c_lt (ve_name (pv 2)) (ve_name (pv 3)) (nomark _)))))))))
theorem v_is_pair (T : Tx K mg) : Cal P w K mg base 2 "is_pair" (spF K 2 (fnD 2 2 b_is_pair)) [] := by
  have C_rank : Cal P w K mg base 1 "rank" (spF K 1 (fnD 1 1 b_rank)) [] := v_rank T
  have C_is_row_of : Cal P w K mg base 1 "is_row_of" (spF K 2 (fnD 2 3 b_is_row_of)) [] := v_is_row_of T
  exact GD.vcal T.d_is_pair sc_is_pair rfl rfl fun f cdv A outer s H E hr => (vs_cons (vs_if (PW.pt (vw_or (vt_not (vt_bl (ve_isT (Ts := "tuple") (by decide +kernel) (by rfl) T.b_isinstance (vp_name (pv 0)) (by rfl) T.b_tuple (by decide) (by decide)))) (vw_or1 (CmpV.vt (c_ne (u64 hr)) (ve_len (by rfl) T.b_len (vp_name (pv 0))) (ve_gl (by rfl) T.k_PAIR) (nomark _))))) (vs_one (vs_rt ve_bl)) vs_nil)
      (vs_cons (vs_if (PW.pt (vw_or (vt_not (vt_bl (ve_call C_is_row_of hr (by decide) (by rfl) (va_cons (ve_sub (u1 hr) (ve_name (pv 0)) ve_int (fun _ _ => rfl)) (va_cons (ve_name (pv 1)) va_nil))))) (vw_or1 (vt_not (vt_bl (ve_call C_is_row_of hr (by decide) (by rfl) (va_cons (ve_sub (u1 hr) (ve_name (pv 0)) ve_int (fun _ _ => rfl)) (va_cons (ve_name (pv 1)) va_nil)))))))) (vs_one (vs_rt ve_bl)) vs_nil)
      (vs_one (vs_rt (CmpV.ve (c_ltT (u0 hr)) (ve_call C_rank hr (by decide) (by rfl) (va_cons (ve_sub (u1 hr) (ve_name (pv 0)) ve_int (fun _ _ => rfl)) va_nil)) (ve_call C_rank hr (by decide) (by rfl) (va_cons (ve_sub (u1 hr) (ve_name (pv 0)) ve_int (fun _ _ => rfl)) va_nil)) (nomark _))))))
theorem v_are_pairs (T : Tx K mg) : Cal P w K mg base 3 "are_pairs" (spF K 2 (fnD 2 8 b_are_pairs)) [] := by
  have C_is_pair : Cal P w K mg base 2 "is_pair" (spF K 2 (fnD 2 2 b_is_pair)) [] := v_is_pair T
  exact GD.vcal T.d_are_pairs sc_are_pairs rfl rfl fun f cdv A outer s H E hr => (vs_cons (vs_if (PW.pt (vw_or (vt_not (vt_bl (ve_isT2 (Ts := "list") (Us := "tuple") (by decide +kernel) (by decide +kernel) (by rfl) T.b_isinstance (vp_name (pv 0)) (by rfl) T.b_list (by decide) (by decide) (by rfl) T.b_tuple (by decide) (by decide)))) (vw_or1 (vt_not (vt_bl (ve_all rfl (by rfl) T.b_all (ve_lc (own := [("pair", 2)]) (us := [2]) (fg := (gN 2)) (fc := cYes) (fe := (fAp (fnD 2 2 b_is_pair) (aC (fN 2) (aC (fN 1) aN)))) (by rfl) sc_are_pairs.nd rfl (vi_seq (ve_name (pv 0))) (blkOk_by (own := [("pair", 2)]) (N := ["value", "signs", "pair", "lefts", "left", "right", "at", "other"]) (sc := defScope s_are_pairs) (by decide +kernel)) (fun _ _ _ _ _ => (vg_name (by decide) (pg_name (i := 2) sc_are_pairs.nd rfl (Or.inl rfl)))) (fun _ _ _ _ _ => vts_nil) (fun _ _ _ _ _ => (ve_call C_is_pair hr (by decide) (by rfl) (va_cons (ve_name (pv 2)) (va_cons (ve_name (pv 1)) va_nil))))))))))) (vs_one (vs_rt ve_bl)) vs_nil)
      (vs_cons (vs_setLcS (i := 3) (own := [("left", 4), ("right", 5)]) (us := [4, 5]) (fg := (gTu 2 (gCo (gN 4) (gCo (gN 5) gNi)))) (fc := cYes) (fe := (fN 4)) (by rfl) sc_are_pairs.nd rfl rfl rfl (sw_true rfl rfl rfl (by decide +kernel)) (vi_seq (ve_name (pv 0))) (blkOk_by (own := [("left", 4), ("right", 5)]) (N := ["value", "signs", "pair", "lefts", "left", "right", "at", "other"]) (sc := defScope s_are_pairs) (by decide +kernel)) (fun _ _ _ _ _ => (vg_tup (n := 2) (by rfl) (vgs_cons (vg_name (by decide) (pg_name (i := 4) sc_are_pairs.nd rfl (Or.inl rfl))) (vgs_cons (vg_name (by decide) (pg_name (i := 5) sc_are_pairs.nd rfl (Or.inl rfl))) vgs_nil)))) (fun _ _ _ _ _ => vts_nil) (fun _ _ _ _ _ => (ve_name (pv 4))))
      (vs_cons (vs_for (us := [6, 4]) (by rfl) PassesOwn.never (vi_enu (by rfl) T.b_enumerate (ve_name (pv 3))) (vg_tup (n := 2) (by rfl) (vgs_cons (vg_name (by decide) (pg_name (i := 6) sc_are_pairs.nd rfl (Or.inl rfl))) (vgs_cons (vg_name (by decide) (pg_name (i := 4) sc_are_pairs.nd rfl (Or.inr rfl))) vgs_nil)))
      (vs_one (vs_if (vt_bl (ve_any rfl (by rfl) T.b_any (ve_lc (own := [("other", 7)]) (us := [7]) (fg := (gN 7)) (fc := cYes) (fe := (fB inO (fN 4) (pN 7))) (by rfl) sc_are_pairs.nd rfl (vi_seq (ve_list (va_star (ve_slice (ve_name (pv 3)) vo_none (vo_some (ve_name (pv 6)))) (va_star (ve_slice (ve_name (pv 3)) (vo_some (ve_add (ve_name (pv 6)) ve_int)) vo_none) va_nil)))) (blkOk_by (own := [("other", 7)]) (N := ["value", "signs", "pair", "lefts", "left", "right", "at", "other"]) (sc := defScope s_are_pairs) (by decide +kernel)) (fun _ _ _ _ _ => (vg_name (by decide) (pg_name (i := 7) sc_are_pairs.nd rfl (Or.inl rfl)))) (fun _ _ _ _ _ => vts_nil) (fun _ _ _ _ _ => (CmpV.vep (c_in (u65 hr)) (ve_name (pv 4)) (vp_name (pv 7)) (by rfl)))))) (vs_one (vs_rt ve_bl)) vs_nil)))
      (vs_one (vs_rt ve_bl)))))
theorem v_RulesD_initD (T : Tx K mg) : Mak P w K mg base 4 "Rules" (He.ga K "Rules") (spI K "Rules" 2 (iniD "Rules" 2 3 b_RulesD_initD)) [] := by
  have C_are_signs : Cal P w K mg base 1 "are_signs" (spF K 1 (fnD 1 4 b_are_signs)) [] := v_are_signs T
  have C_are_pairs : Cal P w K mg base 3 "are_pairs" (spF K 2 (fnD 2 8 b_are_pairs)) [] := v_are_pairs T
  exact ID.vmak T.i_Rules sc_RulesD_initD rfl rfl fun f cdv A outer s H E hr => (vs_cons (vs_if (vt_not (vt_bl (ve_call C_are_signs hr (by decide) (by rfl) (va_cons (ve_name (pv 1)) va_nil)))) (vs_one vs_no) vs_nil)
      (vs_cons (vs_if (vt_not (vt_bl (ve_call C_are_pairs hr (by decide) (by rfl) (va_cons (ve_name (pv 2)) (va_cons (ve_name (pv 1)) va_nil))))) (vs_one vs_no) vs_nil)
      (vs_cons (vs_fld (cs := ["Rules"]) T.at_signs (pv 0) (ve_name (pv 1)) rfl)
      (vs_one (vs_fld (cs := ["Rules"]) T.at_pairs (pv 0) (ve_tuple (by rfl) T.b_tuple (ve_name (pv 2))) rfl)))))
theorem vX_Rules (T : Tx K mg) : MakX P w K mg base 4 "Rules" (He.ga K "Rules") (spIX K "Rules" 2 (iniX "Rules" 2 3 bX_RulesD_initD)) := by
  have C_are_signs : Cal P w K mg base 1 "are_signs" (spF K 1 (fnD 1 4 b_are_signs)) [] := v_are_signs T
  have C_are_pairs : Cal P w K mg base 3 "are_pairs" (spF K 2 (fnD 2 8 b_are_pairs)) [] := v_are_pairs T
  exact ID.vmakX T.i_Rules sc_RulesD_initD rfl rfl fun f cdv A outer s H E W hr tk => (vsx_ifr (vt_not (vt_bl (ve_call C_are_signs hr (by decide) (by rfl) (va_cons (ve_name (pv 1)) va_nil)))) (vsx_raise XF.x hr (by decide) (by rfl) rfl tk (ve_str (by decide +kernel)))
      (vsx_ifr (vt_not (vt_bl (ve_call C_are_pairs hr (by decide) (by rfl) (va_cons (ve_name (pv 2)) (va_cons (ve_name (pv 1)) va_nil))))) (vsx_raise XF.x hr (by decide) (by rfl) rfl tk (ve_str (by decide +kernel)))
      (vsx_of (vs_cons (vs_fld (cs := ["Rules"]) T.at_signs (pv 0) (ve_name (pv 1)) rfl)
      (vs_one (vs_fld (cs := ["Rules"]) T.at_pairs (pv 0) (ve_tuple (by rfl) T.b_tuple (ve_name (pv 2))) rfl))))))
theorem vM_Rules_0 (T : Tx K mg) : MakK P w K mg base 4 "Rules" (He.ga K "Rules") ["pairs", "signs"] (0 :: [1, 0].map (· + 1)) (spI K "Rules" 2 (iniD "Rules" 2 3 b_RulesD_initD)) := by
  have C_are_signs : Cal P w K mg base 1 "are_signs" (spF K 1 (fnD 1 4 b_are_signs)) [] := v_are_signs T
  have C_are_pairs : Cal P w K mg base 3 "are_pairs" (spF K 2 (fnD 2 8 b_are_pairs)) [] := v_are_pairs T
  exact IDK.vmakK T.mk_Rules_0 sc_RulesD_initD rfl rfl fun f cdv A outer s H E hr => (vs_cons (vs_if (vt_not (vt_bl (ve_call C_are_signs hr (by decide) (by rfl) (va_cons (ve_name (pv 1)) va_nil)))) (vs_one vs_no) vs_nil)
      (vs_cons (vs_if (vt_not (vt_bl (ve_call C_are_pairs hr (by decide) (by rfl) (va_cons (ve_name (pv 2)) (va_cons (ve_name (pv 1)) va_nil))))) (vs_one vs_no) vs_nil)
      (vs_cons (vs_fld (cs := ["Rules"]) T.at_signs (pv 0) (ve_name (pv 1)) rfl)
      (vs_one (vs_fld (cs := ["Rules"]) T.at_pairs (pv 0) (ve_tuple (by rfl) T.b_tuple (ve_name (pv 2))) rfl)))))
theorem v_Rules_moves (T : Tx K mg) : Met P w K mg base 1 (He.ga K "Rules") "moves" (spF K 2 (fnD 2 7 b_Rules_moves)) [] := by
  exact MD.vmet T.m_Rules_moves T.cl_Rules sc_Rules_moves rfl rfl fun f cdv A outer s H E hr => (vs_cons (vs_setO (i := 2) sc_Rules_moves.nd rfl (Or.inl rfl) (vn_list va_nil))
      (vs_cons (vs_for (us := [3]) (by rfl) PassesOwn.never (vi_rng1 (by rfl) T.b_range (va_cons (ve_len (by rfl) T.b_len (vp_name (pv 1))) va_nil)) (vg_name (by decide) (pg_name (i := 3) sc_Rules_moves.nd rfl (Or.inl rfl)))
      (vs_one (vs_for (us := [4, 5, 6]) (by rfl) PassesOwn.never (vi_enu (by rfl) T.b_enumerate (ve_attr (cs := ["Rules"]) T.at_pairs (vp_name (pv 0)) rfl)) (vg_tup (n := 2) (by rfl) (vgs_cons (vg_name (by decide) (pg_name (i := 4) sc_Rules_moves.nd rfl (Or.inl rfl))) (vgs_cons (vg_tup (n := 2) (by rfl) (vgs_cons (vg_name (by decide) (pg_name (i := 5) sc_Rules_moves.nd rfl (Or.inl rfl))) (vgs_cons (vg_name (by decide) (pg_name (i := 6) sc_Rules_moves.nd rfl (Or.inl rfl))) vgs_nil))) vgs_nil)))
      (vs_one (vs_if (CmpV.vt (c_eq (u64 hr)) (ve_slice (ve_name (pv 1)) (vo_some (ve_name (pv 3))) (vo_some (ve_add (ve_name (pv 3)) (ve_len (by rfl) T.b_len (vp_name (pv 5)))))) (ve_name (pv 5)) (nomark _)) (vs_one (vs_ex (ve_append (pv 2) (va_cons (ve_tup (va_cons (ve_name (pv 3)) (va_cons (ve_name (pv 4)) va_nil))) va_nil)))) vs_nil)))))
      (vs_one (vs_rt (ve_tuple (by rfl) T.b_tuple (ve_name (pv 2)))))))
theorem vM_Rules_moves_0 (T : Tx K mg) : MetK P w K mg base 1 (He.ga K "Rules") "moves" ["row"] [0, 1] (spF K 2 (fnD 2 7 b_Rules_moves)) := by
  exact MDK.vmetK T.mk_Rules_moves_0 T.cl_Rules sc_Rules_moves rfl rfl fun f cdv A outer s H E hr => (vs_cons (vs_setO (i := 2) sc_Rules_moves.nd rfl (Or.inl rfl) (vn_list va_nil))
      (vs_cons (vs_for (us := [3]) (by rfl) PassesOwn.never (vi_rng1 (by rfl) T.b_range (va_cons (ve_len (by rfl) T.b_len (vp_name (pv 1))) va_nil)) (vg_name (by decide) (pg_name (i := 3) sc_Rules_moves.nd rfl (Or.inl rfl)))
      (vs_one (vs_for (us := [4, 5, 6]) (by rfl) PassesOwn.never (vi_enu (by rfl) T.b_enumerate (ve_attr (cs := ["Rules"]) T.at_pairs (vp_name (pv 0)) rfl)) (vg_tup (n := 2) (by rfl) (vgs_cons (vg_name (by decide) (pg_name (i := 4) sc_Rules_moves.nd rfl (Or.inl rfl))) (vgs_cons (vg_tup (n := 2) (by rfl) (vgs_cons (vg_name (by decide) (pg_name (i := 5) sc_Rules_moves.nd rfl (Or.inl rfl))) (vgs_cons (vg_name (by decide) (pg_name (i := 6) sc_Rules_moves.nd rfl (Or.inl rfl))) vgs_nil))) vgs_nil)))
      (vs_one (vs_if (CmpV.vt (c_eq (u64 hr)) (ve_slice (ve_name (pv 1)) (vo_some (ve_name (pv 3))) (vo_some (ve_add (ve_name (pv 3)) (ve_len (by rfl) T.b_len (vp_name (pv 5)))))) (ve_name (pv 5)) (nomark _)) (vs_one (vs_ex (ve_append (pv 2) (va_cons (ve_tup (va_cons (ve_name (pv 3)) (va_cons (ve_name (pv 4)) va_nil))) va_nil)))) vs_nil)))))
      (vs_one (vs_rt (ve_tuple (by rfl) T.b_tuple (ve_name (pv 2)))))))
theorem v_Rules_after (T : Tx K mg) : Met P w K mg base 1 (He.ga K "Rules") "after" (spF K 3 (fnD 3 7 b_Rules_after)) [] := by
  exact MD.vmet T.m_Rules_after T.cl_Rules sc_Rules_after rfl rfl fun f cdv A outer s H E hr => (vs_cons (vs_as (us := [3, 4]) (ve_name (pv 2)) (vg_tup (n := 2) (by rfl) (vgs_cons (vg_name (by decide) (pg_name (i := 3) sc_Rules_after.nd rfl (Or.inl rfl))) (vgs_cons (vg_name (by decide) (pg_name (i := 4) sc_Rules_after.nd rfl (Or.inl rfl))) vgs_nil))))
      (vs_cons (vs_as (us := [5, 6]) (ve_sub (u1 hr) (ve_attr (cs := ["Rules"]) T.at_pairs (vp_name (pv 0)) rfl) (ve_name (pv 4)) (fun _ _ => rfl)) (vg_tup (n := 2) (by rfl) (vgs_cons (vg_name (by decide) (pg_name (i := 5) sc_Rules_after.nd rfl (Or.inl rfl))) (vgs_cons (vg_name (by decide) (pg_name (i := 6) sc_Rules_after.nd rfl (Or.inl rfl))) vgs_nil))))
      (vs_one (vs_rt (ve_add (ve_add (ve_slice (ve_name (pv 1)) vo_none (vo_some (ve_name (pv 3)))) (ve_name (pv 6))) (ve_slice (ve_name (pv 1)) (vo_some (ve_add (ve_name (pv 3)) (ve_len (by rfl) T.b_len (vp_name (pv 5))))) vo_none))))))
theorem vM_Rules_after_0 (T : Tx K mg) : MetK P w K mg base 1 (He.ga K "Rules") "after" ["move", "row"] [0, 2, 1] (spF K 3 (fnD 3 7 b_Rules_after)) := by
  exact MDK.vmetK T.mk_Rules_after_0 T.cl_Rules sc_Rules_after rfl rfl fun f cdv A outer s H E hr => (vs_cons (vs_as (us := [3, 4]) (ve_name (pv 2)) (vg_tup (n := 2) (by rfl) (vgs_cons (vg_name (by decide) (pg_name (i := 3) sc_Rules_after.nd rfl (Or.inl rfl))) (vgs_cons (vg_name (by decide) (pg_name (i := 4) sc_Rules_after.nd rfl (Or.inl rfl))) vgs_nil))))
      (vs_cons (vs_as (us := [5, 6]) (ve_sub (u1 hr) (ve_attr (cs := ["Rules"]) T.at_pairs (vp_name (pv 0)) rfl) (ve_name (pv 4)) (fun _ _ => rfl)) (vg_tup (n := 2) (by rfl) (vgs_cons (vg_name (by decide) (pg_name (i := 5) sc_Rules_after.nd rfl (Or.inl rfl))) (vgs_cons (vg_name (by decide) (pg_name (i := 6) sc_Rules_after.nd rfl (Or.inl rfl))) vgs_nil))))
      (vs_one (vs_rt (ve_add (ve_add (ve_slice (ve_name (pv 1)) vo_none (vo_some (ve_name (pv 3)))) (ve_name (pv 6))) (ve_slice (ve_name (pv 1)) (vo_some (ve_add (ve_name (pv 3)) (ve_len (by rfl) T.b_len (vp_name (pv 5))))) vo_none))))))
theorem v_Rules_least_move (T : Tx K mg) : Met P w K mg base 1 (He.ga K "Rules") "least_move" (spF K 2 (fnD 2 6 b_Rules_least_move)) [] := by
  exact MD.vmet T.m_Rules_least_move T.cl_Rules sc_Rules_least_move rfl rfl fun f cdv A outer s H E hr => (vs_cons (vs_for (us := [2]) (by rfl) PassesOwn.never (vi_rng1 (by rfl) T.b_range (va_cons (ve_len (by rfl) T.b_len (vp_name (pv 1))) va_nil)) (vg_name (by decide) (pg_name (i := 2) sc_Rules_least_move.nd rfl (Or.inl rfl)))
      (vs_one (vs_for (us := [3, 4, 5]) (by rfl) PassesOwn.never (vi_enu (by rfl) T.b_enumerate (ve_attr (cs := ["Rules"]) T.at_pairs (vp_name (pv 0)) rfl)) (vg_tup (n := 2) (by rfl) (vgs_cons (vg_name (by decide) (pg_name (i := 3) sc_Rules_least_move.nd rfl (Or.inl rfl))) (vgs_cons (vg_tup (n := 2) (by rfl) (vgs_cons (vg_name (by decide) (pg_name (i := 4) sc_Rules_least_move.nd rfl (Or.inl rfl))) (vgs_cons (vg_name (by decide) (pg_name (i := 5) sc_Rules_least_move.nd rfl (Or.inl rfl))) vgs_nil))) vgs_nil)))
      (vs_one (vs_if (CmpV.vt (c_eq (u64 hr)) (ve_slice (ve_name (pv 1)) (vo_some (ve_name (pv 2))) (vo_some (ve_add (ve_name (pv 2)) (ve_len (by rfl) T.b_len (vp_name (pv 4)))))) (ve_name (pv 4)) (nomark _)) (vs_one (vs_rt (ve_tup (va_cons (ve_name (pv 2)) (va_cons (ve_name (pv 3)) va_nil))))) vs_nil)))))
      (vs_one (vs_rt ve_non)))
theorem v_Rules_road (T : Tx K mg) : Met P w K mg base 2 (He.ga K "Rules") "road" (spF K 2 (fnD 2 4 b_Rules_road)) [] := by
  have M_Rules_least_move : Met P w K mg base 1 (He.ga K "Rules") "least_move" (spF K 2 (fnD 2 6 b_Rules_least_move)) [] := v_Rules_least_move T
  have M_Rules_after : Met P w K mg base 1 (He.ga K "Rules") "after" (spF K 3 (fnD 3 7 b_Rules_after)) [] := v_Rules_after T
  exact MD.vmet T.m_Rules_road T.cl_Rules sc_Rules_road rfl rfl fun f cdv A outer s H E hr => (vs_cons (vs_par (i := 2) (j := 3) (by rfl) sc_Rules_road.nd rfl rfl (by decide) rfl rfl (VN.vx (vn_list va_nil)) (VE.vx (ve_meth (c := "Rules") M_Rules_least_move hr (by decide) (ve_name (pv 0)) (va_cons (ve_name (pv 1)) va_nil))) (by rfl))
      (vs_cons (vs_while (n := 1000000) PassesOwn.never (CmpV.vt c_notN (ve_name (pv 3)) ve_non (nomark _)) (vs_cons (vs_ex (ve_append (pv 2) (va_cons (ve_name (pv 3)) va_nil)))
      (vs_cons (vs_set (i := 1) sc_Rules_road.nd rfl (Or.inl rfl) (ve_meth (c := "Rules") M_Rules_after hr (by decide) (ve_name (pv 0)) (va_cons (ve_name (pv 1)) (va_cons (ve_name (pv 3)) va_nil))))
      (vs_one (vs_set (i := 3) sc_Rules_road.nd rfl (Or.inl rfl) (ve_meth (c := "Rules") M_Rules_least_move hr (by decide) (ve_name (pv 0)) (va_cons (ve_name (pv 1)) va_nil)))))))
      (vs_one (vs_rt (ve_tuple (by rfl) T.b_tuple (ve_name (pv 2)))))))
theorem vM_Rules_road_0 (T : Tx K mg) : MetK P w K mg base 2 (He.ga K "Rules") "road" ["row"] [0, 1] (spF K 2 (fnD 2 4 b_Rules_road)) := by
  have M_Rules_least_move : Met P w K mg base 1 (He.ga K "Rules") "least_move" (spF K 2 (fnD 2 6 b_Rules_least_move)) [] := v_Rules_least_move T
  have M_Rules_after : Met P w K mg base 1 (He.ga K "Rules") "after" (spF K 3 (fnD 3 7 b_Rules_after)) [] := v_Rules_after T
  exact MDK.vmetK T.mk_Rules_road_0 T.cl_Rules sc_Rules_road rfl rfl fun f cdv A outer s H E hr => (vs_cons (vs_par (i := 2) (j := 3) (by rfl) sc_Rules_road.nd rfl rfl (by decide) rfl rfl (VN.vx (vn_list va_nil)) (VE.vx (ve_meth (c := "Rules") M_Rules_least_move hr (by decide) (ve_name (pv 0)) (va_cons (ve_name (pv 1)) va_nil))) (by rfl))
      (vs_cons (vs_while (n := 1000000) PassesOwn.never (CmpV.vt c_notN (ve_name (pv 3)) ve_non (nomark _)) (vs_cons (vs_ex (ve_append (pv 2) (va_cons (ve_name (pv 3)) va_nil)))
      (vs_cons (vs_set (i := 1) sc_Rules_road.nd rfl (Or.inl rfl) (ve_meth (c := "Rules") M_Rules_after hr (by decide) (ve_name (pv 0)) (va_cons (ve_name (pv 1)) (va_cons (ve_name (pv 3)) va_nil))))
      (vs_one (vs_set (i := 3) sc_Rules_road.nd rfl (Or.inl rfl) (ve_meth (c := "Rules") M_Rules_least_move hr (by decide) (ve_name (pv 0)) (va_cons (ve_name (pv 1)) va_nil)))))))
      (vs_one (vs_rt (ve_tuple (by rfl) T.b_tuple (ve_name (pv 2)))))))
theorem v_Rules_reduced (T : Tx K mg) : Met P w K mg base 2 (He.ga K "Rules") "reduced" (spF K 2 (fnD 2 3 b_Rules_reduced)) [] := by
  have M_Rules_least_move : Met P w K mg base 1 (He.ga K "Rules") "least_move" (spF K 2 (fnD 2 6 b_Rules_least_move)) [] := v_Rules_least_move T
  have M_Rules_after : Met P w K mg base 1 (He.ga K "Rules") "after" (spF K 3 (fnD 3 7 b_Rules_after)) [] := v_Rules_after T
  exact MD.vmet T.m_Rules_reduced T.cl_Rules sc_Rules_reduced rfl rfl fun f cdv A outer s H E hr => (vs_cons (vs_set (i := 2) sc_Rules_reduced.nd rfl (Or.inl rfl) (ve_meth (c := "Rules") M_Rules_least_move hr (by decide) (ve_name (pv 0)) (va_cons (ve_name (pv 1)) va_nil)))
      (vs_cons (vs_while (n := 1000000) PassesOwn.never (CmpV.vt c_notN (ve_name (pv 2)) ve_non (nomark _)) (vs_cons (vs_set (i := 1) sc_Rules_reduced.nd rfl (Or.inl rfl) (ve_meth (c := "Rules") M_Rules_after hr (by decide) (ve_name (pv 0)) (va_cons (ve_name (pv 1)) (va_cons (ve_name (pv 2)) va_nil))))
      (vs_one (vs_set (i := 2) sc_Rules_reduced.nd rfl (Or.inl rfl) (ve_meth (c := "Rules") M_Rules_least_move hr (by decide) (ve_name (pv 0)) (va_cons (ve_name (pv 1)) va_nil))))))
      (vs_one (vs_rt (ve_name (pv 1))))))
theorem vM_Rules_reduced_0 (T : Tx K mg) : MetK P w K mg base 2 (He.ga K "Rules") "reduced" ["row"] [0, 1] (spF K 2 (fnD 2 3 b_Rules_reduced)) := by
  have M_Rules_least_move : Met P w K mg base 1 (He.ga K "Rules") "least_move" (spF K 2 (fnD 2 6 b_Rules_least_move)) [] := v_Rules_least_move T
  have M_Rules_after : Met P w K mg base 1 (He.ga K "Rules") "after" (spF K 3 (fnD 3 7 b_Rules_after)) [] := v_Rules_after T
  exact MDK.vmetK T.mk_Rules_reduced_0 T.cl_Rules sc_Rules_reduced rfl rfl fun f cdv A outer s H E hr => (vs_cons (vs_set (i := 2) sc_Rules_reduced.nd rfl (Or.inl rfl) (ve_meth (c := "Rules") M_Rules_least_move hr (by decide) (ve_name (pv 0)) (va_cons (ve_name (pv 1)) va_nil)))
      (vs_cons (vs_while (n := 1000000) PassesOwn.never (CmpV.vt c_notN (ve_name (pv 2)) ve_non (nomark _)) (vs_cons (vs_set (i := 1) sc_Rules_reduced.nd rfl (Or.inl rfl) (ve_meth (c := "Rules") M_Rules_after hr (by decide) (ve_name (pv 0)) (va_cons (ve_name (pv 1)) (va_cons (ve_name (pv 2)) va_nil))))
      (vs_one (vs_set (i := 2) sc_Rules_reduced.nd rfl (Or.inl rfl) (ve_meth (c := "Rules") M_Rules_least_move hr (by decide) (ve_name (pv 0)) (va_cons (ve_name (pv 1)) va_nil))))))
      (vs_one (vs_rt (ve_name (pv 1))))))
theorem v_RulesD_eqD (T : Tx K mg) : Met P w K mg base 1 (He.ga K "Rules") "__eq__" (spF K 2 (fnD 2 2 b_RulesD_eqD)) [] := by
  exact MD.vmet T.m_Rules___eq__ T.cl_Rules sc_RulesD_eqD rfl rfl fun f cdv A outer s H E hr => (vs_one (vs_rt (ve_and (ve_isW T.w_Rules (by rfl) T.b_isinstance (vp_name (pv 1)) (by rfl) T.g_Rules (by decide)) (ve_one (CmpV.ve (c_eq (u64 hr)) (ve_tup (va_cons (ve_attr (cs := ["Rules"]) T.at_signs (vp_name (pv 0)) rfl) (va_cons (ve_attr (cs := ["Rules"]) T.at_pairs (vp_name (pv 0)) rfl) va_nil))) (ve_tup (va_cons (ve_attr (cs := ["Rules"]) T.at_signs (vp_name (pv 1)) rfl) (va_cons (ve_attr (cs := ["Rules"]) T.at_pairs (vp_name (pv 1)) rfl) va_nil))) (nomark _))))))
theorem v_w_box (T : Tx K mg) : Cal P w K mg base 1 "_law_box" (spNB K 2 (fnNB 2 4 b_w_box)) [] := by
  exact GD.vcalNB T.d_box sc_w_box rfl rfl fun f cdv A outer s H E hr => (vsn_cons (vs_set (i := 2) sc_w_box.nd rfl (Or.inl rfl) (ve_add (ve_mul ve_int (ve_name (pv 1))) ve_int))
      (vsn_cons (vs_if (CmpV.vt c_lt (ve_name (pv 1)) (ve_len (by rfl) T.b_len (vp_name (pv 0))) (nomark _)) (vs_one (vs_set (i := 2) sc_w_box.nd rfl (Or.inl rfl) (ve_abs (by rfl) T.b_abs (ve_intOf (by rfl) T.b_int (ve_sub (u1 hr) (ve_name (pv 0)) (ve_name (pv 1)) (fun _ _ => rfl)))))) (vs_one (vs_if (CmpV.vt c_gt (ve_len (by rfl) T.b_len (vp_name (pv 0))) ve_int (nomark _)) (vs_one (vs_set (i := 2) sc_w_box.nd rfl (Or.inl rfl) (ve_add (ve_name (pv 2)) (ve_mul (ve_mod (ve_intOf (by rfl) T.b_int (ve_sub (u1 hr) (ve_name (pv 0)) (ve_mod (ve_intOf (by rfl) T.b_int (ve_name (pv 1))) (ve_len (by rfl) T.b_len (vp_name (pv 0)))) (fun _ _ => rfl))) ve_int) ve_int)))) vs_nil)))
      (vsn_cons (vs_set (i := 3) sc_w_box.nd rfl (Or.inl rfl) (ve_add (ve_mod (ve_intOf (by rfl) T.b_int (ve_add (ve_add (ve_mul (ve_mod (ve_intOf (by rfl) T.b_int (ve_name (pv 2))) ve_int) ve_int) (ve_mul ve_int (ve_name (pv 1)))) ve_int)) ve_int) ve_int))
      (vsn_rt (vn_list (va_cons (ve_sub (u1 hr) (ve_list (va_cons ve_int (va_cons (ve_name (pv 2)) va_nil))) (ve_intOf (by rfl) T.b_int (CmpV.ve c_ge (ve_name (pv 2)) (ve_pow ve_int ve_int) (nomark _))) (fun _ _ => rfl)) (va_cons (ve_name (pv 3)) (va_cons ve_int va_nil))))))))
theorem v_w_take (T : Tx K mg) : Cal P w K mg base 1 "_law_take" (spB K 1 (fnB 1 4 b_w_take)) [] := by
  exact GD.vcalB T.d_take sc_w_take rfl rfl fun f cdv A outer s H E hr => (vs_cons (vs_if (CmpV.vt c_gt (ve_bx (pv 0)) ve_int (nomark _)) (vs_cons (vs_set (i := 2) sc_w_take.nd rfl (Or.inl rfl) (ve_mod (ve_intOf (by rfl) T.b_int (ve_bx (pv 0))) (ve_name (pv 1))))
      (vs_cons (vs_putL (pv 0) ve_int (ve_fdiv (ve_bx (pv 0)) (ve_name (pv 1))))
      (vs_one (vs_rt (ve_name (pv 2)))))) vs_nil)
      (vs_cons (vs_putL (pv 0) ve_int (ve_add (ve_bx (pv 0)) ve_int))
      (vs_cons (vs_set (i := 3) sc_w_take.nd rfl (Or.inl rfl) (ve_mod (ve_intOf (by rfl) T.b_int (ve_mul (ve_add (ve_bx (pv 0)) (ve_mul ve_int (ve_bx (pv 0)))) ve_int)) ve_int))
      (vs_cons (vs_putL (pv 0) ve_int (ve_add (ve_mod (ve_intOf (by rfl) T.b_int (ve_add (ve_mul (ve_name (pv 3)) ve_int) ve_int)) ve_int) ve_int))
      (vs_one (vs_rt (ve_mod (ve_intOf (by rfl) T.b_int (ve_fdiv (ve_add (ve_mul (ve_name (pv 3)) ve_int) (ve_bx (pv 0))) ve_int)) (ve_name (pv 1)))))))))
theorem v_w_pick (T : Tx K mg) : Cal P w K mg base 2 "_law_pick" (spB K 1 (fnB 1 2 b_w_pick)) [] := by
  have C_w_take : Cal P w K mg base 1 "_law_take" (spB K 1 (fnB 1 4 b_w_take)) [] := v_w_take T
  exact GD.vcalB T.d_pick sc_w_pick rfl rfl fun f cdv A outer s H E hr => (vs_one (vs_rt (ve_sub (u1 hr) (ve_name (pv 1)) (ve_callB C_w_take fnB_len fnB_form hr (by decide) (by rfl) (pv 0) (va_cons (ve_len (by rfl) T.b_len (vp_name (pv 1))) va_nil)) (fun _ _ => rfl))))
theorem v_w_rank (T : Tx K mg) : Cal P w K mg base 1 "_law_rank" (spF K 1 (fnD 1 1 b_w_rank)) [] := by
  exact GD.vcal T.d_w_rank sc_w_rank rfl rfl fun f cdv A outer s H E hr => (vs_one (vs_rt (ve_tup (va_cons (ve_len (by rfl) T.b_len (vp_name (pv 0))) (va_cons (ve_name (pv 0)) va_nil)))))
theorem v_w_signs (T : Tx K mg) : Cal P w K mg base 3 "_law_signs" (spB K 0 (fnB 0 1 b_w_signs)) [] := by
  have C_w_pick : Cal P w K mg base 2 "_law_pick" (spB K 1 (fnB 1 2 b_w_pick)) [] := v_w_pick T
  exact GD.vcalB T.d_signs sc_w_signs rfl rfl fun f cdv A outer s H E hr => (vs_one (vs_rt (ve_callB C_w_pick fnB_len fnB_form hr (by decide) (by rfl) (pv 0) (va_cons (ve_list (va_cons (ve_str (by decide +kernel)) (va_cons (ve_str (by decide +kernel)) (va_cons (ve_str (by decide +kernel)) (va_cons (ve_str (by decide +kernel)) (va_cons (ve_str (by decide +kernel)) va_nil)))))) va_nil))))
theorem v_w_row (T : Tx K mg) : Cal P w K mg base 3 "_law_row" (spB K 2 (fnB 2 4 b_w_row)) [] := by
  have C_w_pick : Cal P w K mg base 2 "_law_pick" (spB K 1 (fnB 1 2 b_w_pick)) [] := v_w_pick T
  have C_w_take : Cal P w K mg base 1 "_law_take" (spB K 1 (fnB 1 4 b_w_take)) [] := v_w_take T
  exact GD.vcalB T.d_row sc_w_row rfl rfl fun f cdv A outer s H E hr => (vs_one (vs_rt (ve_join (ve_str (by decide +kernel)) (ve_lc (own := [("_law_turn", 3)]) (us := [3]) (fg := (gN 3)) (fc := cYes) (fe := (fCaB (fnB 1 2 b_w_pick) 0 (aC (fN 1) aN))) (by rfl) sc_w_row.nd rfl (vi_rng1 (by rfl) T.b_range (va_cons (ve_callB C_w_take fnB_len fnB_form hr (by decide) (by rfl) (pv 0) (va_cons (ve_add (ve_name (pv 2)) ve_int) va_nil)) va_nil)) (blkOk_by (own := [("_law_turn", 3)]) (N := ["_law_box_here", "_law_signs_here", "_law_long", "_law_turn"]) (sc := defScope s_w_row) (by decide +kernel)) (fun _ _ _ _ _ => (vg_name (by decide) (pg_name (i := 3) sc_w_row.nd rfl (Or.inl rfl)))) (fun _ _ _ _ _ => vts_nil) (fun _ _ _ _ _ => (ve_callB C_w_pick fnB_len fnB_form hr (by decide) (by rfl) (pv 0) (va_cons (ve_name (pv 1)) va_nil)))))))
theorem v_w_pairs (T : Tx K mg) : Cal P w K mg base 4 "_law_pairs" (spB K 2 (fnB 2 10 b_w_pairs)) [] := by
  have C_w_row : Cal P w K mg base 3 "_law_row" (spB K 2 (fnB 2 4 b_w_row)) [] := v_w_row T
  have C_w_pick : Cal P w K mg base 2 "_law_pick" (spB K 1 (fnB 1 2 b_w_pick)) [] := v_w_pick T
  have C_w_rank : Cal P w K mg base 1 "_law_rank" (spF K 1 (fnD 1 1 b_w_rank)) [] := v_w_rank T
  exact GD.vcalB T.d_pairs sc_w_pairs rfl rfl fun f cdv A outer s H E hr => (vs_cons (vs_set (i := 3) sc_w_pairs.nd rfl (Or.inl rfl) (ve_list va_nil))
      (vs_cons (vs_for (us := [4]) (by rfl) PassesOwn.never (vi_rng1 (by rfl) T.b_range (va_cons (ve_name (pv 2)) va_nil)) (vg_name (by decide) (pg_name (i := 4) sc_w_pairs.nd rfl (Or.inl rfl)))
      (vs_cons (vs_set (i := 5) sc_w_pairs.nd rfl (Or.inr rfl) (ve_add (ve_callB C_w_row fnB_len fnB_form hr (by decide) (by rfl) (pv 0) (va_cons (ve_name (pv 1)) (va_cons ve_int va_nil))) (ve_callB C_w_pick fnB_len fnB_form hr (by decide) (by rfl) (pv 0) (va_cons (ve_name (pv 1)) va_nil))))
      (vs_cons (vs_set (i := 6) sc_w_pairs.nd rfl (Or.inl rfl) (ve_callB C_w_row fnB_len fnB_form hr (by decide) (by rfl) (pv 0) (va_cons (ve_name (pv 1)) (va_cons (ve_len (by rfl) T.b_len (vp_name (pv 5))) va_nil))))
      (vs_one (vs_if (CmpV.vt (c_ltT (u0 hr)) (ve_call C_w_rank hr (by decide) (by rfl) (va_cons (ve_name (pv 6)) va_nil)) (ve_call C_w_rank hr (by decide) (by rfl) (va_cons (ve_name (pv 5)) va_nil)) (nomark _)) (vs_cons (vs_setLcS (i := 7) (own := [("_law_one", 8), ("_law_other", 9)]) (us := [8, 9]) (fg := (gTu 2 (gCo (gN 8) (gCo (gN 9) gNi)))) (fc := (cOr (tF blD (fB inO (fN 8) (pN 5))) (tF blD (fB inO (fN 5) (pN 8))))) (fe := (fN 8)) (by rfl) sc_w_pairs.nd rfl rfl rfl (sw_true rfl rfl rfl (by decide +kernel)) (vi_seq (ve_name (pv 3))) (blkOk_by (own := [("_law_one", 8), ("_law_other", 9)]) (N := ["_law_box_here", "_law_signs_here", "_law_many", "_law_found", "_law_turn", "_law_left", "_law_right", "_law_near", "_law_one", "_law_other"]) (sc := defScope s_w_pairs) (by decide +kernel)) (fun _ _ _ _ _ => (vg_tup (n := 2) (by rfl) (vgs_cons (vg_name (by decide) (pg_name (i := 8) sc_w_pairs.nd rfl (Or.inl rfl))) (vgs_cons (vg_name (by decide) (pg_name (i := 9) sc_w_pairs.nd rfl (Or.inl rfl))) vgs_nil)))) (fun _ _ _ _ _ => (vts_one (PW.pt (vw_or (CmpV.vtp (c_in (u65 hr)) (ve_name (pv 8)) (vp_name (pv 5)) (by rfl)) (vw_or1 (CmpV.vtp (c_in (u65 hr)) (ve_name (pv 5)) (vp_name (pv 8)) (by rfl))))))) (fun _ _ _ _ _ => (ve_name (pv 8))))
      (vs_one (vs_set (i := 3) sc_w_pairs.nd rfl (Or.inl rfl) (ve_cat (ve_name (pv 3)) (ve_if (CmpV.vt (c_eq (u64 hr)) (ve_name (pv 7)) (ve_list va_nil) (nomark _)) (ve_list (va_cons (ve_tup (va_cons (ve_name (pv 5)) (va_cons (ve_name (pv 6)) va_nil))) va_nil)) (ve_list va_nil)))))) vs_nil)))))
      (vs_one (vs_rt (ve_name (pv 3))))))
theorem v_w_moves (T : Tx K mg) : Cal P w K mg base 1 "_law_moves" (spF K 2 (fnD 2 7 b_w_moves)) [] := by
  exact GD.vcal T.d_moves sc_w_moves rfl rfl fun f cdv A outer s H E hr => (vs_cons (vs_setO (i := 2) sc_w_moves.nd rfl (Or.inl rfl) (vn_list va_nil))
      (vs_cons (vs_for (us := [3]) (by rfl) PassesOwn.never (vi_rng1 (by rfl) T.b_range (va_cons (ve_len (by rfl) T.b_len (vp_name (pv 1))) va_nil)) (vg_name (by decide) (pg_name (i := 3) sc_w_moves.nd rfl (Or.inl rfl)))
      (vs_one (vs_for (us := [4, 5, 6]) (by rfl) PassesOwn.never (vi_enu (by rfl) T.b_enumerate (ve_name (pv 0))) (vg_tup (n := 2) (by rfl) (vgs_cons (vg_name (by decide) (pg_name (i := 4) sc_w_moves.nd rfl (Or.inl rfl))) (vgs_cons (vg_tup (n := 2) (by rfl) (vgs_cons (vg_name (by decide) (pg_name (i := 5) sc_w_moves.nd rfl (Or.inl rfl))) (vgs_cons (vg_name (by decide) (pg_name (i := 6) sc_w_moves.nd rfl (Or.inl rfl))) vgs_nil))) vgs_nil)))
      (vs_one (vs_if (vt_bl (ve_startswith (ve_slice (ve_name (pv 1)) (vo_some (ve_name (pv 3))) vo_none) (ve_name (pv 5)))) (vs_one (vs_ex (ve_append (pv 2) (va_cons (ve_tup (va_cons (ve_name (pv 3)) (va_cons (ve_name (pv 4)) va_nil))) va_nil)))) vs_nil)))))
      (vs_one (vs_rt (ve_name (pv 2))))))
theorem v_w_after (T : Tx K mg) : Cal P w K mg base 1 "_law_after" (spF K 3 (fnD 3 5 b_w_after)) [] := by
  exact GD.vcal T.d_after sc_w_after rfl rfl fun f cdv A outer s H E hr => (vs_cons (vs_as (us := [3, 4]) (ve_sub (u1 hr) (ve_name (pv 0)) (ve_sub (u1 hr) (ve_name (pv 2)) ve_int (fun _ _ => rfl)) (fun _ _ => rfl)) (vg_tup (n := 2) (by rfl) (vgs_cons (vg_name (by decide) (pg_name (i := 3) sc_w_after.nd rfl (Or.inl rfl))) (vgs_cons (vg_name (by decide) (pg_name (i := 4) sc_w_after.nd rfl (Or.inl rfl))) vgs_nil))))
      (vs_one (vs_rt (ve_add (ve_add (ve_slice (ve_name (pv 1)) vo_none (vo_some (ve_sub (u1 hr) (ve_name (pv 2)) ve_int (fun _ _ => rfl)))) (ve_name (pv 4))) (ve_slice (ve_name (pv 1)) (vo_some (ve_add (ve_sub (u1 hr) (ve_name (pv 2)) ve_int (fun _ _ => rfl)) (ve_len (by rfl) T.b_len (vp_name (pv 3))))) vo_none)))))
theorem v_w_road (T : Tx K mg) : Cal P w K mg base 2 "_law_road" (spF K 2 (fnD 2 4 b_w_road)) [] := by
  have C_w_moves : Cal P w K mg base 1 "_law_moves" (spF K 2 (fnD 2 7 b_w_moves)) [] := v_w_moves T
  have C_w_after : Cal P w K mg base 1 "_law_after" (spF K 3 (fnD 3 5 b_w_after)) [] := v_w_after T
  exact GD.vcal T.d_road sc_w_road rfl rfl fun f cdv A outer s H E hr => (vs_cons (vs_par (i := 2) (j := 3) (by rfl) sc_w_road.nd rfl rfl (by decide) rfl rfl (VN.vx (vn_list va_nil)) (VE.vx (ve_call C_w_moves hr (by decide) (by rfl) (va_cons (ve_name (pv 0)) (va_cons (ve_name (pv 1)) va_nil)))) (by rfl))
      (vs_cons (vs_while (n := 1000000) PassesOwn.never (CmpV.vt (c_ne (u64 hr)) (ve_name (pv 3)) (ve_list va_nil) (nomark _)) (vs_cons (vs_ex (ve_append (pv 2) (va_cons (ve_sub (u1 hr) (ve_name (pv 3)) ve_int (fun _ _ => rfl)) va_nil)))
      (vs_cons (vs_set (i := 1) sc_w_road.nd rfl (Or.inl rfl) (ve_call C_w_after hr (by decide) (by rfl) (va_cons (ve_name (pv 0)) (va_cons (ve_name (pv 1)) (va_cons (ve_sub (u1 hr) (ve_name (pv 3)) ve_int (fun _ _ => rfl)) va_nil)))))
      (vs_one (vs_set (i := 3) sc_w_road.nd rfl (Or.inl rfl) (ve_call C_w_moves hr (by decide) (by rfl) (va_cons (ve_name (pv 0)) (va_cons (ve_name (pv 1)) va_nil))))))))
      (vs_one (vs_rt (ve_tup (va_cons (ve_name (pv 2)) (va_cons (ve_name (pv 1)) va_nil)))))))
theorem v_w_heard (T : Tx K mg) : Cal P w K mg base 6 "_law_heard" (spF K 2 (fnD 2 4 b_w_heard)) [] := by
  have M_Rules : Mak P w K mg base 4 "Rules" (He.ga K "Rules") (spI K "Rules" 2 (iniD "Rules" 2 3 b_RulesD_initD)) [] := v_RulesD_initD T
  have MX_Rules : MakX P w K mg base 4 "Rules" (He.ga K "Rules") (spIX K "Rules" 2 (iniX "Rules" 2 3 bX_RulesD_initD)) := vX_Rules T
  exact GD.vcal T.d_heard sc_w_heard rfl rfl fun f cdv A outer s H E hr => (vs_cons (vs_set (i := 2) sc_w_heard.nd rfl (Or.inl rfl) (ve_str (by decide +kernel)))
      (vs_cons (vs_heard (ie := 3) (i := 2) rfl rfl sc_w_heard.nd rfl rfl rfl (by rfl) (by decide) T.g_InvalidRules T.ex_InvalidRules MX_Rules hr (by decide) (by rfl) (fun pn xe => (va_cons (ve_name (pv 0)) (va_cons (ve_name (pv 1)) va_nil))) (fun a oe cls d pn hz hf => vss_heard T.xf_InvalidRules T.no_InvalidRules (fun dd hz2 => pt_isX2 (pt_isX (ie := 3) T.xc_InvalidRules hz2 hf rfl (Or.inl rfl) (by decide) (by decide) (by rfl) T.b_isinstance (by rfl) T.g_RowError (by decide) T.ki_InvalidRules_RowError) (pt_isX (ie := 3) T.xc_InvalidRules hz2 hf rfl (Or.inl rfl) (by decide) (by decide) (by rfl) T.b_isinstance (by rfl) T.g_InvalidReader (by decide) T.ki_InvalidRules_InvalidReader)) hz hf sc_w_heard.nd rfl (Or.inl rfl) (by decide) (by decide) rfl (Or.inl rfl) rfl))
      (vs_one (vs_rt (ve_name (pv 2))))))
theorem v_w_refused_right (T : Tx K mg) : Cal P w K mg base 7 "_law_refused_right" (spB K 0 (fnB 0 5 b_w_refused_right)) [] := by
  have C_w_heard : Cal P w K mg base 6 "_law_heard" (spF K 2 (fnD 2 4 b_w_heard)) [] := v_w_heard T
  have C_w_pick : Cal P w K mg base 2 "_law_pick" (spB K 1 (fnB 1 2 b_w_pick)) [] := v_w_pick T
  exact GD.vcalB T.d_refused_right sc_w_refused_right rfl rfl fun f cdv A outer s H E hr => (vs_cons (vs_set (i := 1) sc_w_refused_right.nd rfl (Or.inl rfl) (ve_list (va_cons (ve_list (va_cons (ve_list (va_cons (ve_list (va_cons (ve_list (va_cons (ve_list (va_cons (ve_list (va_cons (ve_list (va_cons (ve_str (by decide +kernel)) va_nil)) va_nil)) va_nil)) va_nil)) va_nil)) va_nil)) va_nil)) va_nil)))
      (vs_cons (vs_set (i := 2) sc_w_refused_right.nd rfl (Or.inl rfl) (ve_list (va_cons ve_non (va_cons ve_int (va_cons (ve_str (by decide +kernel)) (va_cons (ve_str (by decide +kernel)) (va_cons (ve_str (by decide +kernel)) (va_cons (ve_str (by decide +kernel)) (va_cons (ve_str (by decide +kernel)) (va_cons (ve_str (by decide +kernel)) (va_cons (ve_list (va_cons (ve_str (by decide +kernel)) va_nil)) (va_cons (ve_tup (va_cons (ve_str (by decide +kernel)) (va_cons (ve_str (by decide +kernel)) va_nil))) (va_cons ve_bl (va_cons (ve_name (pv 1)) (va_cons (ve_str (by decide +kernel)) va_nil)))))))))))))))
      (vs_cons (vs_set (i := 3) sc_w_refused_right.nd rfl (Or.inl rfl) (ve_list (va_cons ve_non (va_cons ve_int (va_cons (ve_str (by decide +kernel)) (va_cons (ve_list (va_cons (ve_tup (va_cons (ve_str (by decide +kernel)) va_nil)) va_nil)) (va_cons (ve_list (va_cons (ve_list (va_cons (ve_str (by decide +kernel)) (va_cons (ve_str (by decide +kernel)) va_nil))) va_nil)) (va_cons (ve_list (va_cons (ve_tup (va_cons (ve_str (by decide +kernel)) (va_cons (ve_str (by decide +kernel)) va_nil))) va_nil)) (va_cons (ve_list (va_cons (ve_tup (va_cons (ve_str (by decide +kernel)) (va_cons (ve_str (by decide +kernel)) va_nil))) va_nil)) (va_cons (ve_list (va_cons (ve_tup (va_cons (ve_str (by decide +kernel)) (va_cons (ve_str (by decide +kernel)) va_nil))) va_nil)) (va_cons (ve_list (va_cons (ve_tup (va_cons (ve_str (by decide +kernel)) (va_cons (ve_str (by decide +kernel)) va_nil))) va_nil)) (va_cons (ve_list (va_cons (ve_tup (va_cons (ve_str (by decide +kernel)) (va_cons (ve_str (by decide +kernel)) va_nil))) va_nil)) va_nil))))))))))))
      (vs_cons (vs_set (i := 3) sc_w_refused_right.nd rfl (Or.inl rfl) (ve_cat (ve_name (pv 3)) (ve_list (va_cons (ve_list (va_cons (ve_tup (va_cons (ve_str (by decide +kernel)) (va_cons ve_non va_nil))) va_nil)) (va_cons (ve_list (va_cons (ve_tup (va_cons ve_int (va_cons (ve_str (by decide +kernel)) va_nil))) va_nil)) (va_cons (ve_list (va_cons (ve_tup (va_cons (ve_str (by decide +kernel)) (va_cons (ve_str (by decide +kernel)) (va_cons ve_int va_nil)))) va_nil)) (va_cons (ve_list (va_cons (ve_tup (va_cons (ve_str (by decide +kernel)) (va_cons (ve_str (by decide +kernel)) va_nil))) (va_cons (ve_tup (va_cons (ve_str (by decide +kernel)) (va_cons (ve_str (by decide +kernel)) va_nil))) va_nil))) (va_cons (ve_list (va_cons (ve_tup (va_cons (ve_str (by decide +kernel)) (va_cons (ve_str (by decide +kernel)) va_nil))) (va_cons (ve_tup (va_cons (ve_str (by decide +kernel)) (va_cons (ve_str (by decide +kernel)) va_nil))) va_nil))) va_nil))))))))
      (vs_cons (vs_set (i := 3) sc_w_refused_right.nd rfl (Or.inl rfl) (ve_cat (ve_name (pv 3)) (ve_list (va_cons (ve_list (va_cons (ve_tup (va_cons (ve_str (by decide +kernel)) (va_cons (ve_str (by decide +kernel)) va_nil))) (va_cons (ve_tup (va_cons (ve_str (by decide +kernel)) (va_cons (ve_str (by decide +kernel)) va_nil))) va_nil))) (va_cons (ve_list (va_cons (ve_tup (va_cons (ve_str (by decide +kernel)) (va_cons (ve_str (by decide +kernel)) va_nil))) (va_cons ve_non va_nil))) (va_cons (ve_name (pv 1)) (va_cons ve_bl va_nil)))))))
      (vs_cons (vs_for (us := [4]) (by rfl) PassesOwn.never (vi_rng1 (by rfl) T.b_range (va_cons ve_int va_nil)) (vg_name (by decide) (pg_name (i := 4) sc_w_refused_right.nd rfl (Or.inl rfl)))
      (vs_cons (vs_if (CmpV.vt (c_ne (u64 hr)) (ve_call C_w_heard hr (by decide) (by rfl) (va_cons (ve_callB C_w_pick fnB_len fnB_form hr (by decide) (by rfl) (pv 0) (va_cons (ve_name (pv 2)) va_nil)) (va_cons (ve_callB C_w_pick fnB_len fnB_form hr (by decide) (by rfl) (pv 0) (va_cons (ve_cat (ve_name (pv 3)) (ve_list (va_cons (ve_list va_nil) (va_cons (ve_list (va_cons (ve_tup (va_cons (ve_str (by decide +kernel)) (va_cons (ve_str (by decide +kernel)) va_nil))) va_nil)) va_nil)))) va_nil)) va_nil))) (ve_str (by decide +kernel)) (nomark _)) (vs_one (vs_rt ve_bl)) vs_nil)
      (vs_one (vs_if (CmpV.vt (c_ne (u64 hr)) (ve_call C_w_heard hr (by decide) (by rfl) (va_cons (ve_str (by decide +kernel)) (va_cons (ve_callB C_w_pick fnB_len fnB_form hr (by decide) (by rfl) (pv 0) (va_cons (ve_name (pv 3)) va_nil)) va_nil))) (ve_str (by decide +kernel)) (nomark _)) (vs_one (vs_rt ve_bl)) vs_nil))))
      (vs_one (vs_rt (ve_and (CmpV.ve (c_eq (u64 hr)) (ve_call C_w_heard hr (by decide) (by rfl) (va_cons (ve_str (by decide +kernel)) (va_cons (ve_list va_nil) va_nil))) (ve_str (by decide +kernel)) (nomark _)) (ve_one (CmpV.ve (c_eq (u64 hr)) (ve_call C_w_heard hr (by decide) (by rfl) (va_cons (ve_str (by decide +kernel)) (va_cons (ve_list (va_cons (ve_tup (va_cons (ve_str (by decide +kernel)) (va_cons (ve_str (by decide +kernel)) va_nil))) va_nil)) va_nil))) (ve_str (by decide +kernel)) (nomark _))))))))))))
end
end K60
namespace K60
open PySem PySem.Spec PyProof.Rows L2 AR VS
open C8 (Cal Met Mak)
section
variable {P : Program} {w : World} {K : PySem.W.Frag} {mg : Str → Option Value} {base : Heap}
variable [XF : XMF P w K mg base]
include XF
theorem v_law (T : Tx K mg) {f : Addr} {fd : FuncData} (F : FunD K "law" "law" (defArgs s_law) (defBody s_law) (defScope s_law) [] [] f fd) : FnG P w K mg base 8 f fd ["_law_script"] (spF K 1 (fnD 1 13 b_law)) := by
  have C_w_box : Cal P w K mg base 1 "_law_box" (spNB K 2 (fnNB 2 4 b_w_box)) [] := v_w_box T
  have C_w_signs : Cal P w K mg base 3 "_law_signs" (spB K 0 (fnB 0 1 b_w_signs)) [] := v_w_signs T
  have C_w_pairs : Cal P w K mg base 4 "_law_pairs" (spB K 2 (fnB 2 10 b_w_pairs)) [] := v_w_pairs T
  have C_w_take : Cal P w K mg base 1 "_law_take" (spB K 1 (fnB 1 4 b_w_take)) [] := v_w_take T
  have M_Rules : Mak P w K mg base 4 "Rules" (He.ga K "Rules") (spI K "Rules" 2 (iniD "Rules" 2 3 b_RulesD_initD)) [] := v_RulesD_initD T
  have M_Rules___eq__ : Met P w K mg base 1 (He.ga K "Rules") "__eq__" (spF K 2 (fnD 2 2 b_RulesD_eqD)) [] := v_RulesD_eqD T
  have C_w_row : Cal P w K mg base 3 "_law_row" (spB K 2 (fnB 2 4 b_w_row)) [] := v_w_row T
  have C_w_road : Cal P w K mg base 2 "_law_road" (spF K 2 (fnD 2 4 b_w_road)) [] := v_w_road T
  have M_Rules_moves : Met P w K mg base 1 (He.ga K "Rules") "moves" (spF K 2 (fnD 2 7 b_Rules_moves)) [] := v_Rules_moves T
  have C_w_refused_right : Cal P w K mg base 7 "_law_refused_right" (spB K 0 (fnB 0 5 b_w_refused_right)) [] := v_w_refused_right T
  have C_w_after : Cal P w K mg base 1 "_law_after" (spF K 3 (fnD 3 5 b_w_after)) [] := v_w_after T
  have M_Rules_road : Met P w K mg base 2 (He.ga K "Rules") "road" (spF K 2 (fnD 2 4 b_Rules_road)) [] := v_Rules_road T
  have M_Rules_reduced : Met P w K mg base 2 (He.ga K "Rules") "reduced" (spF K 2 (fnD 2 3 b_Rules_reduced)) [] := v_Rules_reduced T
  have C_w_moves : Cal P w K mg base 1 "_law_moves" (spF K 2 (fnD 2 7 b_w_moves)) [] := v_w_moves T
  have M_Rules_after : Met P w K mg base 1 (He.ga K "Rules") "after" (spF K 3 (fnD 3 7 b_Rules_after)) [] := v_Rules_after T
  have MK_Rules_0 : MakK P w K mg base 4 "Rules" (He.ga K "Rules") ["pairs", "signs"] (0 :: [1, 0].map (· + 1)) (spI K "Rules" 2 (iniD "Rules" 2 3 b_RulesD_initD)) := vM_Rules_0 T
  have MK_Rules_moves_0 : MetK P w K mg base 1 (He.ga K "Rules") "moves" ["row"] [0, 1] (spF K 2 (fnD 2 7 b_Rules_moves)) := vM_Rules_moves_0 T
  have MK_Rules_after_0 : MetK P w K mg base 1 (He.ga K "Rules") "after" ["move", "row"] [0, 2, 1] (spF K 3 (fnD 3 7 b_Rules_after)) := vM_Rules_after_0 T
  have MK_Rules_reduced_0 : MetK P w K mg base 2 (He.ga K "Rules") "reduced" ["row"] [0, 1] (spF K 2 (fnD 2 3 b_Rules_reduced)) := vM_Rules_reduced_0 T
  have MK_Rules_road_0 : MetK P w K mg base 2 (He.ga K "Rules") "road" ["row"] [0, 1] (spF K 2 (fnD 2 4 b_Rules_road)) := vM_Rules_road_0 T
  exact vfnG F sc_law rfl rfl fun cdv A outer s H E hr hgu => (vs_cons (vs_for (us := [1]) (by rfl) PassesOwn.never (vi_rng1 (by rfl) T.b_range (va_cons (ve_max2 rfl (by rfl) T.b_max ve_int (ve_min2 rfl (by rfl) T.b_min ve_int (ve_len (by rfl) T.b_len (vp_name (pv 0))))) va_nil)) (vg_name (by decide) (pg_name (i := 1) sc_law.nd rfl (Or.inl rfl)))
      (vs_cons (vs_setO (i := 2) sc_law.nd rfl (Or.inl rfl) (vn_callNB C_w_box fnNB_len hr (by decide) (by rfl) (va_cons (ve_name (pv 0)) (va_cons (ve_name (pv 1)) va_nil))))
      (vs_cons (vs_set (i := 3) sc_law.nd rfl (Or.inl rfl) (ve_callB C_w_signs fnB_len fnB_form hr (by decide) (by rfl) (pv 2) va_nil))
      (vs_cons (vs_set (i := 4) sc_law.nd rfl (Or.inl rfl) (ve_callB C_w_pairs fnB_len fnB_form hr (by decide) (by rfl) (pv 2) (va_cons (ve_name (pv 3)) (va_cons (ve_callB C_w_take fnB_len fnB_form hr (by decide) (by rfl) (pv 2) (va_cons ve_int va_nil)) va_nil))))
      (vs_cons (vs_setO (i := 5) sc_law.nd rfl (Or.inl rfl) (vn_listOf rfl (by rfl) T.b_list (ve_name (pv 4))))
      (vs_cons (vs_set (i := 6) sc_law.nd rfl (Or.inl rfl) (ve_if (CmpV.vt (c_eq (u64 hr)) (ve_callB C_w_take fnB_len fnB_form hr (by decide) (by rfl) (pv 2) (va_cons ve_int va_nil)) ve_int (nomark _)) (ve_makeB M_Rules hr (by decide) (by rfl) (ve_name (pv 3)) (pe_var (i := 5) rfl (Or.inl rfl) (by decide) (by decide))) (ve_makeK0 (is := [1, 0]) MK_Rules_0 hr (by decide) rfl (by rfl) (vk_cons (ve_tupleP (by rfl) T.b_tuple (vp_name (pv 5))) (vk_cons (ve_name (pv 3)) vk_nil)))))
      (vs_cons (vs_ex (ve_append (pv 5) (va_cons ve_non va_nil)))
      (vs_cons (vs_if (PW.pt (vw_or (CmpV.vt (c_ne (u64 hr)) (ve_tup (va_cons (ve_attr (cs := ["Rules"]) T.at_signs (vp_name (pv 6)) rfl) (va_cons (ve_attr (cs := ["Rules"]) T.at_pairs (vp_name (pv 6)) rfl) va_nil))) (ve_tup (va_cons (ve_name (pv 3)) (va_cons (ve_tuple (by rfl) T.b_tuple (ve_name (pv 4))) va_nil))) (nomark _)) (vw_or (vt_neM M_Rules___eq__ T.ne_Rules T.mo_Rules hr (by decide) (ve_name (pv 6)) (ve_make M_Rules hr (by decide) (by rfl) (va_cons (ve_name (pv 3)) (va_cons (ve_name (pv 4)) va_nil))) (nomark _)) (vw_or1 (vt_eqM M_Rules___eq__ T.sl_Rules hr (by decide) (ve_name (pv 6)) (ve_name (pv 4)) (nomark _)))))) (vs_one (vs_rt ve_bl)) vs_nil)
      (vs_cons (vs_if (PW.pt (vw_or (PW.pt (vw_and (CmpV.vt c_gt (ve_len (by rfl) T.b_len (vp_name (pv 4))) ve_int (nomark _)) (vw_and1 (vt_eqM M_Rules___eq__ T.sl_Rules hr (by decide) (ve_name (pv 6)) (ve_make M_Rules hr (by decide) (by rfl) (va_cons (ve_name (pv 3)) (va_cons (ve_rev (ve_name (pv 4)) (ve_subI ve_int ve_int)) va_nil))) (nomark _))))) (vw_or (vt_neM M_Rules___eq__ T.ne_Rules T.mo_Rules hr (by decide) (ve_name (pv 6)) (ve_name (pv 6)) (nomark _)) (vw_or1 (vt_eqM M_Rules___eq__ T.sl_Rules hr (by decide) (ve_name (pv 6)) (ve_make M_Rules hr (by decide) (by rfl) (va_cons (ve_str (by decide +kernel)) (va_cons (ve_list va_nil) va_nil))) (nomark _)))))) (vs_one (vs_rt ve_bl)) vs_nil)
      (vs_cons (vs_for (us := [7]) (by rfl) PassesOwn.never (vi_rng1 (by rfl) T.b_range (va_cons ve_int va_nil)) (vg_name (by decide) (pg_name (i := 7) sc_law.nd rfl (Or.inl rfl)))
      (vs_cons (vs_set (i := 8) sc_law.nd rfl (Or.inl rfl) (ve_callB C_w_row fnB_len fnB_form hr (by decide) (by rfl) (pv 2) (va_cons (ve_name (pv 3)) (va_cons ve_int va_nil))))
      (vs_cons (vs_as (us := [9, 10]) (ve_call C_w_road hr (by decide) (by rfl) (va_cons (ve_name (pv 4)) (va_cons (ve_name (pv 8)) va_nil))) (vg_tup (n := 2) (by rfl) (vgs_cons (vg_name (by decide) (pg_name (i := 9) sc_law.nd rfl (Or.inl rfl))) (vgs_cons (vg_name (by decide) (pg_name (i := 10) sc_law.nd rfl (Or.inl rfl))) vgs_nil))))
      (vs_cons (vs_if (PW.pt (vw_or (CmpV.vt (c_ne (u64 hr)) (ve_meth (c := "Rules") M_Rules_moves hr (by decide) (ve_name (pv 6)) (va_cons (ve_name (pv 8)) va_nil)) (ve_tuple (by rfl) T.b_tuple (ve_call C_w_moves hr (by decide) (by rfl) (va_cons (ve_name (pv 4)) (va_cons (ve_name (pv 8)) va_nil)))) (nomark _)) (vw_or1 (CmpV.vt (c_ne (u64 hr)) (ve_methK0 (c := "Rules") MK_Rules_moves_0 hr (by decide) rfl (ve_name (pv 6)) (vk_cons (ve_name (pv 8)) vk_nil)) (ve_meth (c := "Rules") M_Rules_moves hr (by decide) (ve_name (pv 6)) (va_cons (ve_name (pv 8)) va_nil)) (nomark _))))) (vs_one (vs_rt ve_bl)) vs_nil)
      (vs_cons (vs_for (us := [11]) (by rfl) PassesOwn.never (vi_seq (ve_meth (c := "Rules") M_Rules_moves hr (by decide) (ve_name (pv 6)) (va_cons (ve_name (pv 8)) va_nil))) (vg_name (by decide) (pg_name (i := 11) sc_law.nd rfl (Or.inl rfl)))
      (vs_cons (vs_set (i := 12) sc_law.nd rfl (Or.inl rfl) (ve_call C_w_after hr (by decide) (by rfl) (va_cons (ve_name (pv 4)) (va_cons (ve_name (pv 8)) (va_cons (ve_name (pv 11)) va_nil)))))
      (vs_one (vs_if (PW.pt (vw_or (CmpV.vt (c_ne (u64 hr)) (ve_meth (c := "Rules") M_Rules_after hr (by decide) (ve_name (pv 6)) (va_cons (ve_name (pv 8)) (va_cons (ve_name (pv 11)) va_nil))) (ve_name (pv 12)) (nomark _)) (vw_or1 (CmpV.vt (c_eq (u64 hr)) (ve_methK0 (c := "Rules") MK_Rules_after_0 hr (by decide) rfl (ve_name (pv 6)) (vk_cons (ve_name (pv 11)) (vk_cons (ve_name (pv 8)) vk_nil))) (ve_name (pv 8)) (nomark _))))) (vs_one (vs_rt ve_bl)) vs_nil))))
      (vs_cons (vs_if (PW.pt (vw_or (CmpV.vt (c_ne (u64 hr)) (ve_meth (c := "Rules") M_Rules_road hr (by decide) (ve_name (pv 6)) (va_cons (ve_name (pv 8)) va_nil)) (ve_tuple (by rfl) T.b_tuple (ve_name (pv 9))) (nomark _)) (vw_or (CmpV.vt (c_ne (u64 hr)) (ve_meth (c := "Rules") M_Rules_reduced hr (by decide) (ve_name (pv 6)) (va_cons (ve_name (pv 8)) va_nil)) (ve_name (pv 10)) (nomark _)) (vw_or1 (CmpV.vt (c_ne (u64 hr)) (ve_methK0 (c := "Rules") MK_Rules_reduced_0 hr (by decide) rfl (ve_name (pv 6)) (vk_cons (ve_name (pv 10)) vk_nil)) (ve_name (pv 10)) (nomark _)))))) (vs_one (vs_rt ve_bl)) vs_nil)
      (vs_one (vs_if (CmpV.vt (c_ne (u64 hr)) (ve_methK0 (c := "Rules") MK_Rules_road_0 hr (by decide) rfl (ve_name (pv 6)) (vk_cons (ve_name (pv 10)) vk_nil)) (ve_tup va_nil) (nomark _)) (vs_one (vs_rt ve_bl)) vs_nil))))))))
      (vs_one (vs_if (vt_not (vt_bl (ve_callB C_w_refused_right fnB_len fnB_form hr (by decide) (by rfl) (pv 2) va_nil))) (vs_one (vs_rt ve_bl)) vs_nil))))))))))))
      (vs_one (vs_rt ve_bl)))
end
end K60
set_option autoImplicit false
namespace VS
open PySem PySem.Spec PyProof.Rows L2 AR
open PySem.Builtin.Str (reprChar)
/-! ### texts of texts and tuples -/
def SGb (B : Nat) (s : Str) : Prop := s.length ≤ B ∧ ∀ c ∈ s.cps.toList, c < 0x110000
theorem SGb.sg {B : Nat} {s : Str} (h : SGb B s) (hB : B ≤ sizeLine) : SG s := SG.mk (Nat.le_trans h.1 hB) h.2
theorem SGb.mono {B C : Nat} {s : Str} (h : SGb B s) (hB : B ≤ C) : SGb C s := ⟨Nat.le_trans h.1 hB, h.2⟩
theorem len_tl (s : Str) : s.length = s.cps.toList.length := by simp [Str.length]
theorem SGb.app {B C : Nat} {s t : Str} (h : SGb B s) (k : SGb C t) : SGb (B + C) (s ++ t) := by
  have e : (s ++ t).cps.toList = s.cps.toList ++ t.cps.toList := by
    show (s.cps ++ t.cps).toList = _
    simp
  refine ⟨?_, fun c hc => ?_⟩
  · rw [len_tl, e, List.length_append, ← len_tl, ← len_tl]; exact Nat.add_le_add h.1 k.1
  · rw [e] at hc
    rcases List.mem_append.mp hc with q | q
    · exact h.2 c q
    · exact k.2 c q
theorem rc_ok : ∀ c < 128, ∀ q ∈ [34, 39], (reprChar q c).all (fun d => decide (d < 0x110000)) = true := by decide +kernel
theorem fold_mem {q : Nat} : ∀ (l : List Nat) (acc : Array Nat) (d : Nat), d ∈ (l.foldl (fun out c => out ++ (reprChar q c).toArray) acc).toList → d ∈ acc.toList ∨ ∃ c ∈ l, d ∈ reprChar q c
  | [], acc, d, h => .inl h
  | c :: l, acc, d, h => by
    rw [List.foldl_cons] at h
    rcases fold_mem l _ d h with q | ⟨x, hx, q⟩
    · rw [Array.toList_append, List.mem_append] at q
      rcases q with q | q
      · exact .inl q
      · exact .inr ⟨c, List.mem_cons_self, by simpa using q⟩
    · exact .inr ⟨x, List.mem_cons_of_mem _ hx, q⟩
theorem repr_SGb {x : Str} (h : ∀ c ∈ x.cps.toList, c < 128) : SGb (10 * x.length + 2) (reprText x) := by
  refine ⟨StrLaws.reprText_len x fun c hc => by have := h c hc; omega, fun d hd => ?_⟩
  have hq : reprQuote x ∈ [34, 39] := by unfold reprQuote; split <;> simp
  generalize hqq : reprQuote x = q at hq
  unfold reprText at hd
  rw [hqq] at hd
  have hd' : d ∈ ((x.cps.foldl (fun out c => out ++ (reprChar q c).toArray) #[q]).push q).toList := hd
  rw [Array.toList_push, List.mem_append, ← Array.foldl_toList] at hd'
  have hq2 : q < 0x110000 := by simp at hq; omega
  rcases hd' with k | k
  · rcases fold_mem _ _ d k with k | ⟨c, hc, k⟩
    · simp at k; omega
    · have := List.all_eq_true.mp (rc_ok c (h c hc) q hq) d k
      simpa using this
  · simp at k; omega
theorem join_SGb {B : Nat} {ys : List Str} (h : ∀ y ∈ ys, SGb B y) : SGb (ys.length * B + ys.length * 2) (Str.join ", " ys) := by
  have e : (Str.join ", " ys).cps.toList = TL.joinL [44, 32] (ys.map fun y => y.cps.toList) := TL.tl_join ", " ys
  refine ⟨?_, fun c hc => ?_⟩
  · rw [len_tl, e]
    refine Nat.le_trans joinL_len ?_
    rw [List.length_map, List.map_map]
    have hs : ∀ l : List Str, (∀ y ∈ l, SGb B y) → (l.map ((fun l : List Nat => l.length) ∘ fun y : Str => y.cps.toList)).sum ≤ l.length * B := fun l => by
      induction l with
      | nil => intro _; simp
      | cons y l ih =>
        intro h
        have h1 := ih fun z hz => h z (List.mem_cons_of_mem _ hz)
        have h2 := (h y List.mem_cons_self).1
        rw [len_tl] at h2
        rw [List.map_cons, List.sum_cons, List.length_cons, Nat.add_mul, Nat.one_mul]
        show y.cps.toList.length + _ ≤ _
        omega
    have := hs ys h
    have h2 : [44, 32].length = 2 := rfl
    rw [h2]
    omega
  · rw [e] at hc
    rcases joinL_mem hc with q | ⟨y, hy, q⟩
    · simp at q; omega
    · obtain ⟨z, hz, rfl⟩ := List.mem_map.mp hy
      exact (h z hz).2 c q
theorem tup_SGb {B : Nat} {xs : List PyData} (h : ∀ x ∈ xs, SGb B x.shown) : SGb (xs.length * B + xs.length * 2 + 3) (PyData.tuple xs).shown := by
  rw [PyData.shown_tuple]
  have hj : SGb (xs.length * B + xs.length * 2) (Str.join ", " (PyData.shownAll xs)) := by
    have := join_SGb (B := B) (ys := PyData.shownAll xs) fun y hy => by
      have key : ∀ xs : List PyData, (∀ x ∈ xs, SGb B x.shown) → ∀ y ∈ PyData.shownAll xs, SGb B y := fun xs => by
        induction xs with
        | nil => intro _ y hy; rw [PyData.shownAll_nil] at hy; cases hy
        | cons x xs ih =>
          intro h y hy
          rw [PyData.shownAll_cons] at hy
          rcases List.mem_cons.mp hy with q | q
          · rw [q]; exact h x List.mem_cons_self
          · exact ih (fun z hz => h z (List.mem_cons_of_mem _ hz)) y q
      exact key xs h y hy
    rw [PyData.shownAll_length] at this
    exact this
  have h1 : SGb 1 ("(" : Str) := ⟨by decide +kernel, by decide +kernel⟩
  have h2 : SGb 2 (((if xs.length == 1 then ",)" else ")" : String)) : Str) := by
    split
    · exact ⟨by decide +kernel, by decide +kernel⟩
    · exact ⟨by decide +kernel, by decide +kernel⟩
  exact ((h1.app hj).app h2).mono (by omega)
end VS
set_option autoImplicit false
/-! texts as lists of signs -/
namespace VS
open PySem PySem.Spec PyProof.Rows L2 AR
namespace Rw
def T (r : List Nat) : Str := ⟨r.toArray⟩
abbrev tD (r : List Nat) : D := .str (T r)
def chs (sg : List Nat) : List D := sg.map fun c => tD [c]
theorem chD_T (r : List Nat) : chD (T r) = chs r := by unfold chD chs T; rfl
theorem T_inj {a b : List Nat} (h : T a = T b) : a = b := by
  have : (T a).cps = (T b).cps := by rw [h]
  have h2 : a.toArray = b.toArray := this
  simpa using h2
theorem tD_inj {a b : List Nat} (h : tD a = tD b) : a = b := T_inj (by injection h)
theorem T_len (a : List Nat) : (T a).length = a.length := by
  show (a.toArray).size = a.length
  simp
theorem T_app (a b : List Nat) : T a ++ T b = T (a ++ b) := by
  show (⟨a.toArray ++ b.toArray⟩ : Str) = ⟨(a ++ b).toArray⟩
  simp
theorem T_tl (a : List Nat) : (T a).cps.toList = a := by show a.toArray.toList = a; simp
theorem len_T (a : List Nat) : lenD (tD a) = some (.int (a.length : Nat)) := by
  show some (D.int ((T a).length : Nat)) = _
  rw [T_len]
theorem add_T {a b : List Nat} (h : a.length + b.length ≤ 1000000) : addO (tD a) (tD b) = some (tD (a ++ b)) := by
  have hb : (1000000 : Nat) ≤ sizeLine := by decide
  show (if (T a).length + (T b).length ≤ sizeLine then _ else _) = _
  rw [if_pos (by rw [T_len, T_len]; omega), T_app]
theorem cut_T (w : List Nat) (i j : Nat) : cutS (T w) (some (i : Int)) (some (j : Int)) = T ((w.drop i).take (j - i)) := by
  unfold cutS
  rw [T_tl, T_len, HT.sIx_nat, HT.sIx_nat]
  show (⟨_⟩ : Str) = ⟨_⟩
  congr 2
  by_cases h : i ≤ w.length
  · rw [Nat.min_eq_left h]
    by_cases h2 : j ≤ w.length
    · rw [Nat.min_eq_left h2]
    · rw [Nat.min_eq_right (by omega)]
      rw [List.take_of_length_le (by simp), List.take_of_length_le (by simp; omega)]
  · rw [List.drop_eq_nil_of_le (by omega : w.length ≤ i), List.drop_eq_nil_of_le (by omega)]
    simp
theorem cutTo_T (w : List Nat) (j : Nat) : cutS (T w) none (some (j : Int)) = T (w.take j) := by
  unfold cutS
  rw [T_tl, T_len, HT.sIx_none, HT.sIx_nat]
  show (⟨_⟩ : Str) = ⟨_⟩
  congr 1
  rw [List.drop_zero, Nat.sub_zero]
  by_cases h2 : j ≤ w.length
  · rw [Nat.min_eq_left h2]
  · rw [Nat.min_eq_right (by omega), List.take_of_length_le (Nat.le_refl _), List.take_of_length_le (by omega)]
theorem cutFrom_T (w : List Nat) (i : Nat) : cutS (T w) (some (i : Int)) none = T (w.drop i) := by
  unfold cutS
  rw [T_tl, T_len, HT.sIx_none, HT.sIx_nat]
  show (⟨_⟩ : Str) = ⟨_⟩
  congr 1
  by_cases h : i ≤ w.length
  · rw [Nat.min_eq_left h, List.take_of_length_le (by simp)]
  · rw [List.drop_eq_nil_of_le (by omega : w.length ≤ i), List.drop_eq_nil_of_le (by omega)]
    simp
theorem sl_T (w : List Nat) (i j : Nat) : slD (tD w) (some (i : Int)) (some (j : Int)) = some (tD ((w.drop i).take (j - i))) := by show some (D.str (cutS (T w) _ _)) = _; rw [cut_T]
theorem slTo_T (w : List Nat) (j : Nat) : slD (tD w) none (some (j : Int)) = some (tD (w.take j)) := by show some (D.str (cutS (T w) _ _)) = _; rw [cutTo_T]
theorem slFrom_T (w : List Nat) (i : Nat) : slD (tD w) (some (i : Int)) none = some (tD (w.drop i)) := by show some (D.str (cutS (T w) _ _)) = _; rw [cutFrom_T]
theorem stw_T (x y : List Nat) : stwO (tD x) (tD y) = some (.bl (decide (x.take y.length = y))) := by
  show some (D.bl (Txt.startswith (T x) (T y))) = _
  congr 2
  unfold Txt.startswith Builtin.Str.subAt
  rw [T_len, T_len, Nat.zero_add]
  have e : (T x).cps.extract 0 y.length = (x.take y.length).toArray := by
    show x.toArray.extract 0 y.length = _
    simp
  rw [e]
  show (decide (y.length ≤ x.length) && ((x.take y.length).toArray == y.toArray)) = _
  by_cases h : x.take y.length = y
  · have hl : y.length ≤ x.length := by
      have := congrArg List.length h
      rw [List.length_take] at this
      omega
    simp [h, hl]
  · rw [decide_eq_false h]
    have : ((x.take y.length).toArray == y.toArray) = false := by
      rw [beq_eq_false_iff_ne]
      intro z
      exact h (by simpa using z)
    rw [this, Bool.and_false]
theorem beq_T (a b : List Nat) : (T a == T b) = decide (a = b) := by
  by_cases h : a = b
  · subst h; simp
  · rw [decide_eq_false h, beq_eq_false_iff_ne]
    exact fun z => h (T_inj z)
theorem toP_T (a : List Nat) : toP (tD a) = some (.str (T a)) := by simp [toP]
theorem eq_T (a b : List Nat) : eqO (tD a) (tD b) = some (.bl (decide (a = b))) := by
  unfold eqO eqB
  rw [toP_T, toP_T]
  simp only [PyData.depth]
  show some (D.bl (PyData.eqv (.str (T a)) (.str (T b)))) = _
  rw [PyData.eqv, beq_T]
theorem ne_T (a b : List Nat) : neO (tD a) (tD b) = some (.bl (!decide (a = b))) := by
  unfold neO eqB
  rw [toP_T, toP_T]
  simp only [PyData.depth]
  show some (D.bl (!PyData.eqv (.str (T a)) (.str (T b)))) = _
  rw [PyData.eqv, beq_T]
theorem in_T (c : Nat) (z : List Nat) : inO (tD [c]) (tD z) = some (.bl (decide (c ∈ z))) := by
  show some (D.bl (decide (c ∈ (T z).cps.toList))) = _
  rw [T_tl]
theorem notIn_T (c : Nat) (z : List Nat) : notInO (tD [c]) (tD z) = some (.bl (!decide (c ∈ z))) := by
  show some (D.bl (!decide (c ∈ (T z).cps.toList))) = _
  rw [T_tl]
theorem neI (i j : Int) : neO (.int i) (.int j) = some (.bl (!decide (i = j))) := by
  show some (D.bl (!PyData.eqv (.int i) (.int j))) = _
  rw [PyData.eqv]
  rfl
theorem eqI (i j : Int) : eqO (.int i) (.int j) = some (.bl (decide (i = j))) := by
  show some (D.bl (PyData.eqv (.int i) (.int j))) = _
  rw [PyData.eqv]
  rfl
theorem get_lst {xs : List D} {i : Nat} {d : D} (h : xs[i]? = some d) : getD (.lst xs) (.int (i : Nat)) = some d := by
  show atI xs ((i : Nat) : Int) = some d
  have hl := (List.getElem?_eq_some_iff.mp h).1
  unfold atI ixN
  rw [if_pos (by omega), if_pos (by omega)]
  show xs[((i : Nat) : Int).toNat]? = _
  rw [Int.toNat_natCast]; exact h
theorem get_tup {xs : List D} {i : Nat} {d : D} (h : xs[i]? = some d) : getD (.tup xs) (.int (i : Nat)) = some d := get_lst (xs := xs) h
theorem join_T {rs : List (List Nat)} (h : (rs.map List.length).sum ≤ 1000000) : joinO (.str "") (.lst (rs.map tD)) = some (tD rs.flatten) := by
  have hs : strsOf (rs.map tD) = some (rs.map T) := by
    clear h
    induction rs with
    | nil => rfl
    | cons r rs ih => show Option.map _ (strsOf (rs.map tD)) = _; rw [ih]; rfl
  show (strsOf (rs.map tD)).bind (fun ys => joinB "" ys) = _
  rw [hs]
  show (if ((rs.map T).map (·.length)).sum + (rs.map T).length * (("" : Str).length) ≤ 16777216 then some (D.str (Txt.join "" (rs.map T))) else none) = _
  have e0 : (("" : Str).length) = 0 := by rfl
  have e1 : (rs.map T).map (·.length) = rs.map List.length := by rw [List.map_map]; exact List.map_congr_left fun r _ => T_len r
  rw [e0, e1, if_pos (by omega)]
  congr 2
  have key : ∀ rs : List (List Nat), TL.joinL [] rs = rs.flatten := by
    intro rs
    induction rs with
    | nil => rfl
    | cons p r ih =>
      cases r with
      | nil => simp [TL.joinL]
      | cons q r =>
        show p ++ ([] ++ TL.joinL [] (q :: r)) = _
        rw [ih]; simp
  refine (SX.join_S [] rs).trans ?_
  rw [key]; rfl
end Rw
end VS
set_option autoImplicit false
/-! rules that rewrite rows, as plain lists -/
namespace VS
open PySem PySem.Spec PyProof.Rows L2 AR
namespace Rw
abbrev RwL := List Nat
abbrev Pr := RwL × RwL
def hit (l w : RwL) (i : Nat) : Bool := decide ((w.drop i).take l.length = l)
/-- numbers from n on of the pairs that hit at i -/
def hitsAt (w : RwL) (i : Nat) : Nat → List Pr → List (Nat × Nat)
  | _, [] => []
  | n, p :: ps => if hit p.1 w i then (i, n) :: hitsAt w i (n + 1) ps else hitsAt w i (n + 1) ps
/-- places from i on, k of them -/
def mvsFrom (ps : List Pr) (w : RwL) : Nat → Nat → List (Nat × Nat)
  | _, 0 => []
  | i, k + 1 => hitsAt w i 0 ps ++ mvsFrom ps w (i + 1) k
def moves (ps : List Pr) (w : RwL) : List (Nat × Nat) := mvsFrom ps w 0 w.length
def least (ps : List Pr) (w : RwL) : Option (Nat × Nat) := (moves ps w).head?
def lft (ps : List Pr) (n : Nat) : RwL := (ps.getD n ([], [])).1
def rgt (ps : List Pr) (n : Nat) : RwL := (ps.getD n ([], [])).2
def after (ps : List Pr) (w : RwL) (m : Nat × Nat) : RwL := w.take m.1 ++ rgt ps m.2 ++ w.drop (m.1 + (lft ps m.2).length)
theorem hitsAt_mem {w : RwL} {i : Nat} {m : Nat × Nat} : ∀ {n : Nat} {ps : List Pr}, m ∈ hitsAt w i n ps ↔ m.1 = i ∧ ∃ k p, ps[k]? = some p ∧ m.2 = n + k ∧ hit p.1 w i = true
  | n, [] => by simp [hitsAt]
  | n, p :: ps => by
    have ih := hitsAt_mem (w := w) (i := i) (m := m) (n := n + 1) (ps := ps)
    have e : (m ∈ hitsAt w i n (p :: ps)) ↔ (hit p.1 w i = true ∧ m = (i, n)) ∨ m ∈ hitsAt w i (n + 1) ps := by
      show (m ∈ (if hit p.1 w i then (i, n) :: hitsAt w i (n + 1) ps else hitsAt w i (n + 1) ps)) ↔ _
      split
      · rename_i h; simp [h]
      · rename_i h; simp [h]
    rw [e, ih]
    constructor
    · rintro (⟨h1, rfl⟩ | ⟨h1, k, q, h2, h3, h4⟩)
      · exact ⟨rfl, 0, p, rfl, rfl, h1⟩
      · exact ⟨h1, k + 1, q, by simpa using h2, by omega, h4⟩
    · rintro ⟨h1, k, q, h2, h3, h4⟩
      cases k with
      | zero =>
        left
        have : p = q := by simpa using h2
        subst this
        exact ⟨h4, by obtain ⟨a, b⟩ := m; simp at h1 h3; rw [h1, h3]⟩
      | succ k => exact .inr ⟨h1, k, q, by simpa using h2, by omega, h4⟩
theorem mvsFrom_mem {ps : List Pr} {w : RwL} {m : Nat × Nat} : ∀ {k i : Nat}, m ∈ mvsFrom ps w i k ↔ i ≤ m.1 ∧ m.1 < i + k ∧ ∃ p, ps[m.2]? = some p ∧ hit p.1 w m.1 = true
  | 0, i => by simp [mvsFrom]; omega
  | k + 1, i => by
    unfold mvsFrom
    rw [List.mem_append, hitsAt_mem, mvsFrom_mem (k := k) (i := i + 1)]
    constructor
    · rintro (⟨h1, j, p, h2, h3, h4⟩ | ⟨h1, h2, h3⟩)
      · refine ⟨by omega, by omega, p, ?_, ?_⟩
        · rw [h3, Nat.zero_add]; exact h2
        · rw [h1]; exact h4
      · exact ⟨by omega, by omega, h3⟩
    · rintro ⟨h1, h2, p, h3, h4⟩
      by_cases e : m.1 = i
      · exact .inl ⟨e, m.2, p, h3, by omega, by rw [← e]; exact h4⟩
      · exact .inr ⟨by omega, by omega, p, h3, h4⟩
theorem moves_mem {ps : List Pr} {w : RwL} {m : Nat × Nat} : m ∈ moves ps w ↔ m.1 < w.length ∧ ∃ p, ps[m.2]? = some p ∧ hit p.1 w m.1 = true := by
  unfold moves
  rw [mvsFrom_mem]
  simp
theorem getD_of {ps : List Pr} {n : Nat} {p : Pr} (h : ps[n]? = some p) : lft ps n = p.1 ∧ rgt ps n = p.2 := by
  unfold lft rgt
  rw [List.getD_eq_getElem?_getD, h]
  exact ⟨rfl, rfl⟩
/-! ### the worth of a row: numbers that fall -/
def dg (c : Nat) : Nat := if c = 97 then 1 else if c = 98 then 2 else if c = 99 then 3 else if c = 120 then 1 else 2
def code (w : RwL) : Nat := w.foldl (fun a c => 4 * a + dg c) 0
theorem dg_le (c : Nat) : 1 ≤ dg c ∧ dg c ≤ 3 := by unfold dg; split <;> (try split) <;> (try split) <;> (try split) <;> omega
theorem fold_code : ∀ (w : RwL) (a : Nat), w.foldl (fun a c => 4 * a + dg c) a = a * 4 ^ w.length + code w
  | [], a => by simp [code]
  | c :: w, a => by
    unfold code
    rw [List.foldl_cons, List.foldl_cons, fold_code w (4 * a + dg c), fold_code w (4 * 0 + dg c), List.length_cons, Nat.pow_succ]
    have : (4 * a + dg c) * 4 ^ w.length = a * (4 ^ w.length * 4) + (4 * 0 + dg c) * 4 ^ w.length := by
      rw [Nat.add_mul, Nat.add_mul]
      have : 4 * a * 4 ^ w.length = a * (4 ^ w.length * 4) := by rw [Nat.mul_comm 4 a, Nat.mul_assoc, Nat.mul_comm 4]
      rw [this]; simp
    omega
theorem code_app (u v : RwL) : code (u ++ v) = code u * 4 ^ v.length + code v := by
  show (u ++ v).foldl _ 0 = _
  rw [List.foldl_append, fold_code v]; rfl
theorem code_cons (c : Nat) (v : RwL) : code (c :: v) = dg c * 4 ^ v.length + code v := by
  have := code_app [c] v
  simpa [code] using this
theorem code_lt : ∀ w : RwL, code w < 4 ^ w.length
  | [] => by simp [code]
  | c :: w => by
    have h := code_lt w
    have h3 := (dg_le c).2
    rw [code_cons, List.length_cons, Nat.pow_succ]
    have : dg c * 4 ^ w.length ≤ 3 * 4 ^ w.length := Nat.mul_le_mul_right _ h3
    omega
/-- a lower bound, by three times the worth -/
theorem code_ge : ∀ w : RwL, 4 ^ w.length ≤ 3 * code w + 1
  | [] => by simp [code]
  | c :: w => by
    have h := code_ge w
    have h1 := (dg_le c).1
    rw [code_cons, List.length_cons, Nat.pow_succ]
    have : 1 * 4 ^ w.length ≤ dg c * 4 ^ w.length := Nat.mul_le_mul_right _ h1
    omega
theorem code_short {a b : RwL} (h : a.length < b.length) : code a < code b := by
  have h1 := code_lt a
  have h2 := code_ge b
  have h3 : 4 ^ (a.length + 1) ≤ 4 ^ b.length := Nat.pow_le_pow_right (by omega) h
  rw [Nat.pow_succ] at h3
  omega
/-- the signs' order -/
def Mono (sg : List Nat) : Prop := ∀ a ∈ sg, ∀ b ∈ sg, a < b → dg a < dg b
theorem code_lex {sg : List Nat} (hm : Mono sg) : ∀ {a b : RwL}, (∀ c ∈ a, c ∈ sg) → (∀ c ∈ b, c ∈ sg) → a.length = b.length → a < b → code a < code b
  | [], [], _, _, _, h => absurd h (by simp)
  | [], _ :: _, _, _, hl, _ => by simp at hl
  | _ :: _, [], _, _, hl, _ => by simp at hl
  | x :: a, y :: b, ha, hb, hl, h => by
    have hl' : a.length = b.length := by simpa using hl
    rw [code_cons, code_cons, hl']
    rw [List.cons_lt_cons_iff] at h
    rcases h with h | ⟨rfl, h⟩
    · have := hm x (ha x List.mem_cons_self) y (hb y List.mem_cons_self) h
      have h1 := code_lt a
      rw [hl'] at h1
      have : (dg x + 1) * 4 ^ b.length ≤ dg y * 4 ^ b.length := Nat.mul_le_mul_right _ this
      rw [Nat.add_mul, Nat.one_mul] at this
      omega
    · have := code_lex hm (fun c hc => ha c (List.mem_cons_of_mem _ hc)) (fun c hc => hb c (List.mem_cons_of_mem _ hc)) hl' h
      omega
def rankLt (a b : RwL) : Bool := if a.length = b.length then decide (a < b) else decide (a.length < b.length)
theorem code_rank {sg : List Nat} (hm : Mono sg) {a b : RwL} (ha : ∀ c ∈ a, c ∈ sg) (hb : ∀ c ∈ b, c ∈ sg) (h : rankLt a b = true) : code a < code b := by
  unfold rankLt at h
  split at h
  · rename_i e; exact code_lex hm ha hb e (of_decide_eq_true h)
  · exact code_short (of_decide_eq_true h)
/-- rules over sg -/
structure PR (sg : List Nat) (ps : List Pr) : Prop where
  mono : Mono sg
  sl : ∀ p ∈ ps, ∀ c ∈ p.1, c ∈ sg
  sr : ∀ p ∈ ps, ∀ c ∈ p.2, c ∈ sg
  rk : ∀ p ∈ ps, rankLt p.2 p.1 = true
  len : ps.length ≤ 20
  ll : ∀ p ∈ ps, p.1.length ≤ 20
  lr : ∀ p ∈ ps, p.2.length ≤ 20
theorem rank_ne {a b : RwL} (h : rankLt a b = true) : b ≠ [] := by
  intro e
  subst e
  unfold rankLt at h
  split at h
  · have := of_decide_eq_true h
    simp at this
  · have := of_decide_eq_true h
    simp at this
section
variable {sg : List Nat} {ps : List Pr}
theorem hit_split {l w : RwL} {i : Nat} (h : hit l w i = true) : w = w.take i ++ (l ++ w.drop (i + l.length)) := by
  have h' := of_decide_eq_true h
  conv => lhs; rw [← List.take_append_drop i w]
  congr 1
  conv => lhs; rw [← List.take_append_drop l.length (w.drop i)]
  rw [h', List.drop_drop]
theorem hit_len {l w : RwL} {i : Nat} (h : hit l w i = true) (hl : l ≠ []) : i + l.length ≤ w.length := by
  have h' := congrArg List.length (of_decide_eq_true h)
  rw [List.length_take, List.length_drop] at h'
  have : 0 < l.length := List.length_pos_iff.mpr hl
  omega
theorem after_split {w : RwL} {m : Nat × Nat} {p : Pr} (h : ps[m.2]? = some p) : after ps w m = w.take m.1 ++ (p.2 ++ w.drop (m.1 + p.1.length)) := by
  unfold after
  rw [(getD_of h).1, (getD_of h).2, List.append_assoc]
theorem after_code (R : PR sg ps) {w : RwL} {m : Nat × Nat} (h : m ∈ moves ps w) : code (after ps w m) < code w := by
  obtain ⟨h1, p, h2, h3⟩ := moves_mem.mp h
  have hp := List.mem_of_getElem? h2
  have hc := code_rank R.mono (R.sr p hp) (R.sl p hp) (R.rk p hp)
  have hl : p.2.length ≤ p.1.length := by
    have := R.rk p hp
    unfold rankLt at this
    split at this
    · omega
    · have := of_decide_eq_true this; omega
  rw [after_split h2]
  conv => rhs; rw [hit_split h3]
  rw [code_app, code_app (w.take m.1), code_app, code_app p.1, List.length_append, List.length_append]
  have e1 : 4 ^ (p.2.length + (w.drop (m.1 + p.1.length)).length) ≤ 4 ^ (p.1.length + (w.drop (m.1 + p.1.length)).length) := Nat.pow_le_pow_right (by omega) (by omega)
  have e2 := Nat.mul_le_mul_left (code (w.take m.1)) e1
  have e3 : (code p.2 + 1) * 4 ^ (w.drop (m.1 + p.1.length)).length ≤ code p.1 * 4 ^ (w.drop (m.1 + p.1.length)).length := Nat.mul_le_mul_right _ hc
  rw [Nat.add_mul, Nat.one_mul] at e3
  have e4 : 0 < 4 ^ (w.drop (m.1 + p.1.length)).length := Nat.pow_pos (by omega)
  omega
theorem after_in (R : PR sg ps) {w : RwL} {m : Nat × Nat} (hw : ∀ c ∈ w, c ∈ sg) (h : m ∈ moves ps w) : ∀ c ∈ after ps w m, c ∈ sg := by
  obtain ⟨h1, p, h2, h3⟩ := moves_mem.mp h
  have hp := List.mem_of_getElem? h2
  rw [after_split h2]
  intro c hc
  rw [List.mem_append, List.mem_append] at hc
  rcases hc with hc | hc | hc
  · exact hw c (List.mem_of_mem_take hc)
  · exact R.sr p hp c hc
  · exact hw c (List.mem_of_mem_drop hc)
theorem after_len (R : PR sg ps) {w : RwL} {m : Nat × Nat} (h : m ∈ moves ps w) : (after ps w m).length ≤ w.length := by
  obtain ⟨h1, p, h2, h3⟩ := moves_mem.mp h
  have hp := List.mem_of_getElem? h2
  have hl : p.2.length ≤ p.1.length := by
    have := R.rk p hp
    unfold rankLt at this
    split at this
    · omega
    · have := of_decide_eq_true this; omega
  rw [after_split h2]
  conv => rhs; rw [hit_split h3]
  rw [List.length_append, List.length_append, List.length_append, List.length_append]
  omega
end
/-- the road down: the rows with their moves, the end -/
def road (ps : List Pr) : Nat → RwL → List (RwL × (Nat × Nat)) × RwL
  | 0, w => ([], w)
  | n + 1, w => match least ps w with
    | none => ([], w)
    | some m => ((w, m) :: (road ps n (after ps w m)).1, (road ps n (after ps w m)).2)
theorem least_mem {ps : List Pr} {w : RwL} {m : Nat × Nat} (h : least ps w = some m) : m ∈ moves ps w := List.mem_of_mem_head? h
def nf (ps : List Pr) (w : RwL) : RwL := (road ps (code w) w).2
def rd (ps : List Pr) (w : RwL) : List (RwL × (Nat × Nat)) := (road ps (code w) w).1
section
variable {sg : List Nat} {ps : List Pr}
/-- more fuel tells nothing more -/
theorem road_fuel (R : PR sg ps) : ∀ (n k : Nat) (w : RwL), code w ≤ n → code w ≤ k → road ps n w = road ps k w
  | 0, 0, _, _, _ => rfl
  | 0, k + 1, w, h, _ => by
    unfold road
    cases e : least ps w with
    | none => rfl
    | some m => have := after_code R (least_mem e); omega
  | n + 1, 0, w, _, h => by
    unfold road
    cases e : least ps w with
    | none => rfl
    | some m => have := after_code R (least_mem e); omega
  | n + 1, k + 1, w, h, h' => by
    unfold road
    cases e : least ps w with
    | none => rfl
    | some m =>
      have := after_code R (least_mem e)
      show ((w, m) :: (road ps n (after ps w m)).1, (road ps n (after ps w m)).2) = ((w, m) :: (road ps k (after ps w m)).1, (road ps k (after ps w m)).2)
      rw [road_fuel R n k (after ps w m) (by omega) (by omega)]
theorem rd_none {w : RwL} (h : least ps w = none) : rd ps w = [] ∧ nf ps w = w := by
  unfold rd nf
  cases code w with
  | zero => exact ⟨rfl, rfl⟩
  | succ n => unfold road; rw [h]; exact ⟨rfl, rfl⟩
theorem rd_some (R : PR sg ps) {w : RwL} {m : Nat × Nat} (h : least ps w = some m) : rd ps w = (w, m) :: rd ps (after ps w m) ∧ nf ps w = nf ps (after ps w m) := by
  have hc := after_code R (least_mem h)
  have e : road ps (code w) w = ((w, m) :: (road ps (code w - 1) (after ps w m)).1, (road ps (code w - 1) (after ps w m)).2) := by
    cases e : code w with
    | zero => omega
    | succ n =>
      rw [road, h]; rfl
  unfold rd nf
  rw [e, road_fuel R (code w - 1) (code (after ps w m)) (after ps w m) (by omega) (Nat.le_refl _)]
  exact ⟨rfl, rfl⟩
theorem rd_len (R : PR sg ps) : ∀ (n : Nat) (w : RwL), code w ≤ n → (rd ps w).length ≤ code w
  | n, w, h => by
    cases e : least ps w with
    | none => rw [(rd_none e).1]; simp
    | some m =>
      have hc := after_code R (least_mem e)
      rw [(rd_some R e).1, List.length_cons]
      cases n with
      | zero => omega
      | succ n => have := rd_len R n (after ps w m) (by omega); omega
theorem nf_in (R : PR sg ps) : ∀ (n : Nat) (w : RwL), code w ≤ n → (∀ c ∈ w, c ∈ sg) → (∀ c ∈ nf ps w, c ∈ sg) ∧ (nf ps w).length ≤ w.length
  | n, w, h, hw => by
    cases e : least ps w with
    | none => rw [(rd_none e).2]; exact ⟨hw, Nat.le_refl _⟩
    | some m =>
      have hc := after_code R (least_mem e)
      rw [(rd_some R e).2]
      cases n with
      | zero => omega
      | succ n =>
        obtain ⟨h1, h2⟩ := nf_in R n (after ps w m) (by omega) (after_in R hw (least_mem e))
        exact ⟨h1, Nat.le_trans h2 (after_len R (least_mem e))⟩
end
end Rw
end VS
set_option autoImplicit false
/-! lemmas for evaluating meanings by simp -/
namespace VS
open PySem PySem.Spec PyProof.Rows L2 AR
namespace Ev
theorem fN_s0 {d : D} {ρ : En} : fN 0 (.s d :: ρ) = some (d, .s d :: ρ) := rfl
theorem pN_s0 {d : D} {ρ : En} : pN 0 (.s d :: ρ) = some (d, .s d :: ρ) := rfl
theorem fN_o0 {d : D} {ρ : En} (h : d.isBox = false) : fN 0 (.o d :: ρ) = some (d, .s d :: ρ) := by show (if d.isBox = true then none else some (d, _)) = _; rw [h]; rfl
theorem pN_o0 {d : D} {ρ : En} (h : d.isBox = false) : pN 0 (.o d :: ρ) = some (d, .o d :: ρ) := by show (if d.isBox = true then none else some (d, _)) = _; rw [h]; rfl
theorem fN_s1 {a0 : Sl} {d : D} {ρ : En} : fN 1 (a0 :: .s d :: ρ) = some (d, a0 :: .s d :: ρ) := rfl
theorem pN_s1 {a0 : Sl} {d : D} {ρ : En} : pN 1 (a0 :: .s d :: ρ) = some (d, a0 :: .s d :: ρ) := rfl
theorem fN_o1 {a0 : Sl} {d : D} {ρ : En} (h : d.isBox = false) : fN 1 (a0 :: .o d :: ρ) = some (d, a0 :: .s d :: ρ) := by show (if d.isBox = true then none else some (d, _)) = _; rw [h]; rfl
theorem pN_o1 {a0 : Sl} {d : D} {ρ : En} (h : d.isBox = false) : pN 1 (a0 :: .o d :: ρ) = some (d, a0 :: .o d :: ρ) := by show (if d.isBox = true then none else some (d, _)) = _; rw [h]; rfl
theorem fN_s2 {a0 a1 : Sl} {d : D} {ρ : En} : fN 2 (a0 :: a1 :: .s d :: ρ) = some (d, a0 :: a1 :: .s d :: ρ) := rfl
theorem pN_s2 {a0 a1 : Sl} {d : D} {ρ : En} : pN 2 (a0 :: a1 :: .s d :: ρ) = some (d, a0 :: a1 :: .s d :: ρ) := rfl
theorem fN_o2 {a0 a1 : Sl} {d : D} {ρ : En} (h : d.isBox = false) : fN 2 (a0 :: a1 :: .o d :: ρ) = some (d, a0 :: a1 :: .s d :: ρ) := by show (if d.isBox = true then none else some (d, _)) = _; rw [h]; rfl
theorem pN_o2 {a0 a1 : Sl} {d : D} {ρ : En} (h : d.isBox = false) : pN 2 (a0 :: a1 :: .o d :: ρ) = some (d, a0 :: a1 :: .o d :: ρ) := by show (if d.isBox = true then none else some (d, _)) = _; rw [h]; rfl
theorem fN_s3 {a0 a1 a2 : Sl} {d : D} {ρ : En} : fN 3 (a0 :: a1 :: a2 :: .s d :: ρ) = some (d, a0 :: a1 :: a2 :: .s d :: ρ) := rfl
theorem pN_s3 {a0 a1 a2 : Sl} {d : D} {ρ : En} : pN 3 (a0 :: a1 :: a2 :: .s d :: ρ) = some (d, a0 :: a1 :: a2 :: .s d :: ρ) := rfl
theorem fN_o3 {a0 a1 a2 : Sl} {d : D} {ρ : En} (h : d.isBox = false) : fN 3 (a0 :: a1 :: a2 :: .o d :: ρ) = some (d, a0 :: a1 :: a2 :: .s d :: ρ) := by show (if d.isBox = true then none else some (d, _)) = _; rw [h]; rfl
theorem pN_o3 {a0 a1 a2 : Sl} {d : D} {ρ : En} (h : d.isBox = false) : pN 3 (a0 :: a1 :: a2 :: .o d :: ρ) = some (d, a0 :: a1 :: a2 :: .o d :: ρ) := by show (if d.isBox = true then none else some (d, _)) = _; rw [h]; rfl
theorem fN_s4 {a0 a1 a2 a3 : Sl} {d : D} {ρ : En} : fN 4 (a0 :: a1 :: a2 :: a3 :: .s d :: ρ) = some (d, a0 :: a1 :: a2 :: a3 :: .s d :: ρ) := rfl
theorem pN_s4 {a0 a1 a2 a3 : Sl} {d : D} {ρ : En} : pN 4 (a0 :: a1 :: a2 :: a3 :: .s d :: ρ) = some (d, a0 :: a1 :: a2 :: a3 :: .s d :: ρ) := rfl
theorem fN_o4 {a0 a1 a2 a3 : Sl} {d : D} {ρ : En} (h : d.isBox = false) : fN 4 (a0 :: a1 :: a2 :: a3 :: .o d :: ρ) = some (d, a0 :: a1 :: a2 :: a3 :: .s d :: ρ) := by show (if d.isBox = true then none else some (d, _)) = _; rw [h]; rfl
theorem pN_o4 {a0 a1 a2 a3 : Sl} {d : D} {ρ : En} (h : d.isBox = false) : pN 4 (a0 :: a1 :: a2 :: a3 :: .o d :: ρ) = some (d, a0 :: a1 :: a2 :: a3 :: .o d :: ρ) := by show (if d.isBox = true then none else some (d, _)) = _; rw [h]; rfl
theorem fN_s5 {a0 a1 a2 a3 a4 : Sl} {d : D} {ρ : En} : fN 5 (a0 :: a1 :: a2 :: a3 :: a4 :: .s d :: ρ) = some (d, a0 :: a1 :: a2 :: a3 :: a4 :: .s d :: ρ) := rfl
theorem pN_s5 {a0 a1 a2 a3 a4 : Sl} {d : D} {ρ : En} : pN 5 (a0 :: a1 :: a2 :: a3 :: a4 :: .s d :: ρ) = some (d, a0 :: a1 :: a2 :: a3 :: a4 :: .s d :: ρ) := rfl
theorem fN_o5 {a0 a1 a2 a3 a4 : Sl} {d : D} {ρ : En} (h : d.isBox = false) : fN 5 (a0 :: a1 :: a2 :: a3 :: a4 :: .o d :: ρ) = some (d, a0 :: a1 :: a2 :: a3 :: a4 :: .s d :: ρ) := by show (if d.isBox = true then none else some (d, _)) = _; rw [h]; rfl
theorem pN_o5 {a0 a1 a2 a3 a4 : Sl} {d : D} {ρ : En} (h : d.isBox = false) : pN 5 (a0 :: a1 :: a2 :: a3 :: a4 :: .o d :: ρ) = some (d, a0 :: a1 :: a2 :: a3 :: a4 :: .o d :: ρ) := by show (if d.isBox = true then none else some (d, _)) = _; rw [h]; rfl
theorem fN_s6 {a0 a1 a2 a3 a4 a5 : Sl} {d : D} {ρ : En} : fN 6 (a0 :: a1 :: a2 :: a3 :: a4 :: a5 :: .s d :: ρ) = some (d, a0 :: a1 :: a2 :: a3 :: a4 :: a5 :: .s d :: ρ) := rfl
theorem pN_s6 {a0 a1 a2 a3 a4 a5 : Sl} {d : D} {ρ : En} : pN 6 (a0 :: a1 :: a2 :: a3 :: a4 :: a5 :: .s d :: ρ) = some (d, a0 :: a1 :: a2 :: a3 :: a4 :: a5 :: .s d :: ρ) := rfl
theorem fN_o6 {a0 a1 a2 a3 a4 a5 : Sl} {d : D} {ρ : En} (h : d.isBox = false) : fN 6 (a0 :: a1 :: a2 :: a3 :: a4 :: a5 :: .o d :: ρ) = some (d, a0 :: a1 :: a2 :: a3 :: a4 :: a5 :: .s d :: ρ) := by show (if d.isBox = true then none else some (d, _)) = _; rw [h]; rfl
theorem pN_o6 {a0 a1 a2 a3 a4 a5 : Sl} {d : D} {ρ : En} (h : d.isBox = false) : pN 6 (a0 :: a1 :: a2 :: a3 :: a4 :: a5 :: .o d :: ρ) = some (d, a0 :: a1 :: a2 :: a3 :: a4 :: a5 :: .o d :: ρ) := by show (if d.isBox = true then none else some (d, _)) = _; rw [h]; rfl
theorem fN_s7 {a0 a1 a2 a3 a4 a5 a6 : Sl} {d : D} {ρ : En} : fN 7 (a0 :: a1 :: a2 :: a3 :: a4 :: a5 :: a6 :: .s d :: ρ) = some (d, a0 :: a1 :: a2 :: a3 :: a4 :: a5 :: a6 :: .s d :: ρ) := rfl
theorem pN_s7 {a0 a1 a2 a3 a4 a5 a6 : Sl} {d : D} {ρ : En} : pN 7 (a0 :: a1 :: a2 :: a3 :: a4 :: a5 :: a6 :: .s d :: ρ) = some (d, a0 :: a1 :: a2 :: a3 :: a4 :: a5 :: a6 :: .s d :: ρ) := rfl
theorem fN_o7 {a0 a1 a2 a3 a4 a5 a6 : Sl} {d : D} {ρ : En} (h : d.isBox = false) : fN 7 (a0 :: a1 :: a2 :: a3 :: a4 :: a5 :: a6 :: .o d :: ρ) = some (d, a0 :: a1 :: a2 :: a3 :: a4 :: a5 :: a6 :: .s d :: ρ) := by show (if d.isBox = true then none else some (d, _)) = _; rw [h]; rfl
theorem pN_o7 {a0 a1 a2 a3 a4 a5 a6 : Sl} {d : D} {ρ : En} (h : d.isBox = false) : pN 7 (a0 :: a1 :: a2 :: a3 :: a4 :: a5 :: a6 :: .o d :: ρ) = some (d, a0 :: a1 :: a2 :: a3 :: a4 :: a5 :: a6 :: .o d :: ρ) := by show (if d.isBox = true then none else some (d, _)) = _; rw [h]; rfl
theorem fN_s8 {a0 a1 a2 a3 a4 a5 a6 a7 : Sl} {d : D} {ρ : En} : fN 8 (a0 :: a1 :: a2 :: a3 :: a4 :: a5 :: a6 :: a7 :: .s d :: ρ) = some (d, a0 :: a1 :: a2 :: a3 :: a4 :: a5 :: a6 :: a7 :: .s d :: ρ) := rfl
theorem pN_s8 {a0 a1 a2 a3 a4 a5 a6 a7 : Sl} {d : D} {ρ : En} : pN 8 (a0 :: a1 :: a2 :: a3 :: a4 :: a5 :: a6 :: a7 :: .s d :: ρ) = some (d, a0 :: a1 :: a2 :: a3 :: a4 :: a5 :: a6 :: a7 :: .s d :: ρ) := rfl
theorem fN_o8 {a0 a1 a2 a3 a4 a5 a6 a7 : Sl} {d : D} {ρ : En} (h : d.isBox = false) : fN 8 (a0 :: a1 :: a2 :: a3 :: a4 :: a5 :: a6 :: a7 :: .o d :: ρ) = some (d, a0 :: a1 :: a2 :: a3 :: a4 :: a5 :: a6 :: a7 :: .s d :: ρ) := by show (if d.isBox = true then none else some (d, _)) = _; rw [h]; rfl
theorem pN_o8 {a0 a1 a2 a3 a4 a5 a6 a7 : Sl} {d : D} {ρ : En} (h : d.isBox = false) : pN 8 (a0 :: a1 :: a2 :: a3 :: a4 :: a5 :: a6 :: a7 :: .o d :: ρ) = some (d, a0 :: a1 :: a2 :: a3 :: a4 :: a5 :: a6 :: a7 :: .o d :: ρ) := by show (if d.isBox = true then none else some (d, _)) = _; rw [h]; rfl
theorem fN_s9 {a0 a1 a2 a3 a4 a5 a6 a7 a8 : Sl} {d : D} {ρ : En} : fN 9 (a0 :: a1 :: a2 :: a3 :: a4 :: a5 :: a6 :: a7 :: a8 :: .s d :: ρ) = some (d, a0 :: a1 :: a2 :: a3 :: a4 :: a5 :: a6 :: a7 :: a8 :: .s d :: ρ) := rfl
theorem pN_s9 {a0 a1 a2 a3 a4 a5 a6 a7 a8 : Sl} {d : D} {ρ : En} : pN 9 (a0 :: a1 :: a2 :: a3 :: a4 :: a5 :: a6 :: a7 :: a8 :: .s d :: ρ) = some (d, a0 :: a1 :: a2 :: a3 :: a4 :: a5 :: a6 :: a7 :: a8 :: .s d :: ρ) := rfl
theorem fN_o9 {a0 a1 a2 a3 a4 a5 a6 a7 a8 : Sl} {d : D} {ρ : En} (h : d.isBox = false) : fN 9 (a0 :: a1 :: a2 :: a3 :: a4 :: a5 :: a6 :: a7 :: a8 :: .o d :: ρ) = some (d, a0 :: a1 :: a2 :: a3 :: a4 :: a5 :: a6 :: a7 :: a8 :: .s d :: ρ) := by show (if d.isBox = true then none else some (d, _)) = _; rw [h]; rfl
theorem pN_o9 {a0 a1 a2 a3 a4 a5 a6 a7 a8 : Sl} {d : D} {ρ : En} (h : d.isBox = false) : pN 9 (a0 :: a1 :: a2 :: a3 :: a4 :: a5 :: a6 :: a7 :: a8 :: .o d :: ρ) = some (d, a0 :: a1 :: a2 :: a3 :: a4 :: a5 :: a6 :: a7 :: a8 :: .o d :: ρ) := by show (if d.isBox = true then none else some (d, _)) = _; rw [h]; rfl
theorem fN_s10 {a0 a1 a2 a3 a4 a5 a6 a7 a8 a9 : Sl} {d : D} {ρ : En} : fN 10 (a0 :: a1 :: a2 :: a3 :: a4 :: a5 :: a6 :: a7 :: a8 :: a9 :: .s d :: ρ) = some (d, a0 :: a1 :: a2 :: a3 :: a4 :: a5 :: a6 :: a7 :: a8 :: a9 :: .s d :: ρ) := rfl
theorem pN_s10 {a0 a1 a2 a3 a4 a5 a6 a7 a8 a9 : Sl} {d : D} {ρ : En} : pN 10 (a0 :: a1 :: a2 :: a3 :: a4 :: a5 :: a6 :: a7 :: a8 :: a9 :: .s d :: ρ) = some (d, a0 :: a1 :: a2 :: a3 :: a4 :: a5 :: a6 :: a7 :: a8 :: a9 :: .s d :: ρ) := rfl
theorem fN_o10 {a0 a1 a2 a3 a4 a5 a6 a7 a8 a9 : Sl} {d : D} {ρ : En} (h : d.isBox = false) : fN 10 (a0 :: a1 :: a2 :: a3 :: a4 :: a5 :: a6 :: a7 :: a8 :: a9 :: .o d :: ρ) = some (d, a0 :: a1 :: a2 :: a3 :: a4 :: a5 :: a6 :: a7 :: a8 :: a9 :: .s d :: ρ) := by show (if d.isBox = true then none else some (d, _)) = _; rw [h]; rfl
theorem pN_o10 {a0 a1 a2 a3 a4 a5 a6 a7 a8 a9 : Sl} {d : D} {ρ : En} (h : d.isBox = false) : pN 10 (a0 :: a1 :: a2 :: a3 :: a4 :: a5 :: a6 :: a7 :: a8 :: a9 :: .o d :: ρ) = some (d, a0 :: a1 :: a2 :: a3 :: a4 :: a5 :: a6 :: a7 :: a8 :: a9 :: .o d :: ρ) := by show (if d.isBox = true then none else some (d, _)) = _; rw [h]; rfl
theorem fN_s11 {a0 a1 a2 a3 a4 a5 a6 a7 a8 a9 a10 : Sl} {d : D} {ρ : En} : fN 11 (a0 :: a1 :: a2 :: a3 :: a4 :: a5 :: a6 :: a7 :: a8 :: a9 :: a10 :: .s d :: ρ) = some (d, a0 :: a1 :: a2 :: a3 :: a4 :: a5 :: a6 :: a7 :: a8 :: a9 :: a10 :: .s d :: ρ) := rfl
theorem pN_s11 {a0 a1 a2 a3 a4 a5 a6 a7 a8 a9 a10 : Sl} {d : D} {ρ : En} : pN 11 (a0 :: a1 :: a2 :: a3 :: a4 :: a5 :: a6 :: a7 :: a8 :: a9 :: a10 :: .s d :: ρ) = some (d, a0 :: a1 :: a2 :: a3 :: a4 :: a5 :: a6 :: a7 :: a8 :: a9 :: a10 :: .s d :: ρ) := rfl
theorem fN_o11 {a0 a1 a2 a3 a4 a5 a6 a7 a8 a9 a10 : Sl} {d : D} {ρ : En} (h : d.isBox = false) : fN 11 (a0 :: a1 :: a2 :: a3 :: a4 :: a5 :: a6 :: a7 :: a8 :: a9 :: a10 :: .o d :: ρ) = some (d, a0 :: a1 :: a2 :: a3 :: a4 :: a5 :: a6 :: a7 :: a8 :: a9 :: a10 :: .s d :: ρ) := by show (if d.isBox = true then none else some (d, _)) = _; rw [h]; rfl
theorem pN_o11 {a0 a1 a2 a3 a4 a5 a6 a7 a8 a9 a10 : Sl} {d : D} {ρ : En} (h : d.isBox = false) : pN 11 (a0 :: a1 :: a2 :: a3 :: a4 :: a5 :: a6 :: a7 :: a8 :: a9 :: a10 :: .o d :: ρ) = some (d, a0 :: a1 :: a2 :: a3 :: a4 :: a5 :: a6 :: a7 :: a8 :: a9 :: a10 :: .o d :: ρ) := by show (if d.isBox = true then none else some (d, _)) = _; rw [h]; rfl
theorem fN_s12 {a0 a1 a2 a3 a4 a5 a6 a7 a8 a9 a10 a11 : Sl} {d : D} {ρ : En} : fN 12 (a0 :: a1 :: a2 :: a3 :: a4 :: a5 :: a6 :: a7 :: a8 :: a9 :: a10 :: a11 :: .s d :: ρ) = some (d, a0 :: a1 :: a2 :: a3 :: a4 :: a5 :: a6 :: a7 :: a8 :: a9 :: a10 :: a11 :: .s d :: ρ) := rfl
theorem pN_s12 {a0 a1 a2 a3 a4 a5 a6 a7 a8 a9 a10 a11 : Sl} {d : D} {ρ : En} : pN 12 (a0 :: a1 :: a2 :: a3 :: a4 :: a5 :: a6 :: a7 :: a8 :: a9 :: a10 :: a11 :: .s d :: ρ) = some (d, a0 :: a1 :: a2 :: a3 :: a4 :: a5 :: a6 :: a7 :: a8 :: a9 :: a10 :: a11 :: .s d :: ρ) := rfl
theorem fN_o12 {a0 a1 a2 a3 a4 a5 a6 a7 a8 a9 a10 a11 : Sl} {d : D} {ρ : En} (h : d.isBox = false) : fN 12 (a0 :: a1 :: a2 :: a3 :: a4 :: a5 :: a6 :: a7 :: a8 :: a9 :: a10 :: a11 :: .o d :: ρ) = some (d, a0 :: a1 :: a2 :: a3 :: a4 :: a5 :: a6 :: a7 :: a8 :: a9 :: a10 :: a11 :: .s d :: ρ) := by show (if d.isBox = true then none else some (d, _)) = _; rw [h]; rfl
theorem pN_o12 {a0 a1 a2 a3 a4 a5 a6 a7 a8 a9 a10 a11 : Sl} {d : D} {ρ : En} (h : d.isBox = false) : pN 12 (a0 :: a1 :: a2 :: a3 :: a4 :: a5 :: a6 :: a7 :: a8 :: a9 :: a10 :: a11 :: .o d :: ρ) = some (d, a0 :: a1 :: a2 :: a3 :: a4 :: a5 :: a6 :: a7 :: a8 :: a9 :: a10 :: a11 :: .o d :: ρ) := by show (if d.isBox = true then none else some (d, _)) = _; rw [h]; rfl
theorem fN_s13 {a0 a1 a2 a3 a4 a5 a6 a7 a8 a9 a10 a11 a12 : Sl} {d : D} {ρ : En} : fN 13 (a0 :: a1 :: a2 :: a3 :: a4 :: a5 :: a6 :: a7 :: a8 :: a9 :: a10 :: a11 :: a12 :: .s d :: ρ) = some (d, a0 :: a1 :: a2 :: a3 :: a4 :: a5 :: a6 :: a7 :: a8 :: a9 :: a10 :: a11 :: a12 :: .s d :: ρ) := rfl
theorem pN_s13 {a0 a1 a2 a3 a4 a5 a6 a7 a8 a9 a10 a11 a12 : Sl} {d : D} {ρ : En} : pN 13 (a0 :: a1 :: a2 :: a3 :: a4 :: a5 :: a6 :: a7 :: a8 :: a9 :: a10 :: a11 :: a12 :: .s d :: ρ) = some (d, a0 :: a1 :: a2 :: a3 :: a4 :: a5 :: a6 :: a7 :: a8 :: a9 :: a10 :: a11 :: a12 :: .s d :: ρ) := rfl
theorem fN_o13 {a0 a1 a2 a3 a4 a5 a6 a7 a8 a9 a10 a11 a12 : Sl} {d : D} {ρ : En} (h : d.isBox = false) : fN 13 (a0 :: a1 :: a2 :: a3 :: a4 :: a5 :: a6 :: a7 :: a8 :: a9 :: a10 :: a11 :: a12 :: .o d :: ρ) = some (d, a0 :: a1 :: a2 :: a3 :: a4 :: a5 :: a6 :: a7 :: a8 :: a9 :: a10 :: a11 :: a12 :: .s d :: ρ) := by show (if d.isBox = true then none else some (d, _)) = _; rw [h]; rfl
theorem pN_o13 {a0 a1 a2 a3 a4 a5 a6 a7 a8 a9 a10 a11 a12 : Sl} {d : D} {ρ : En} (h : d.isBox = false) : pN 13 (a0 :: a1 :: a2 :: a3 :: a4 :: a5 :: a6 :: a7 :: a8 :: a9 :: a10 :: a11 :: a12 :: .o d :: ρ) = some (d, a0 :: a1 :: a2 :: a3 :: a4 :: a5 :: a6 :: a7 :: a8 :: a9 :: a10 :: a11 :: a12 :: .o d :: ρ) := by show (if d.isBox = true then none else some (d, _)) = _; rw [h]; rfl
theorem fN_s14 {a0 a1 a2 a3 a4 a5 a6 a7 a8 a9 a10 a11 a12 a13 : Sl} {d : D} {ρ : En} : fN 14 (a0 :: a1 :: a2 :: a3 :: a4 :: a5 :: a6 :: a7 :: a8 :: a9 :: a10 :: a11 :: a12 :: a13 :: .s d :: ρ) = some (d, a0 :: a1 :: a2 :: a3 :: a4 :: a5 :: a6 :: a7 :: a8 :: a9 :: a10 :: a11 :: a12 :: a13 :: .s d :: ρ) := rfl
theorem pN_s14 {a0 a1 a2 a3 a4 a5 a6 a7 a8 a9 a10 a11 a12 a13 : Sl} {d : D} {ρ : En} : pN 14 (a0 :: a1 :: a2 :: a3 :: a4 :: a5 :: a6 :: a7 :: a8 :: a9 :: a10 :: a11 :: a12 :: a13 :: .s d :: ρ) = some (d, a0 :: a1 :: a2 :: a3 :: a4 :: a5 :: a6 :: a7 :: a8 :: a9 :: a10 :: a11 :: a12 :: a13 :: .s d :: ρ) := rfl
theorem fN_o14 {a0 a1 a2 a3 a4 a5 a6 a7 a8 a9 a10 a11 a12 a13 : Sl} {d : D} {ρ : En} (h : d.isBox = false) : fN 14 (a0 :: a1 :: a2 :: a3 :: a4 :: a5 :: a6 :: a7 :: a8 :: a9 :: a10 :: a11 :: a12 :: a13 :: .o d :: ρ) = some (d, a0 :: a1 :: a2 :: a3 :: a4 :: a5 :: a6 :: a7 :: a8 :: a9 :: a10 :: a11 :: a12 :: a13 :: .s d :: ρ) := by show (if d.isBox = true then none else some (d, _)) = _; rw [h]; rfl
theorem pN_o14 {a0 a1 a2 a3 a4 a5 a6 a7 a8 a9 a10 a11 a12 a13 : Sl} {d : D} {ρ : En} (h : d.isBox = false) : pN 14 (a0 :: a1 :: a2 :: a3 :: a4 :: a5 :: a6 :: a7 :: a8 :: a9 :: a10 :: a11 :: a12 :: a13 :: .o d :: ρ) = some (d, a0 :: a1 :: a2 :: a3 :: a4 :: a5 :: a6 :: a7 :: a8 :: a9 :: a10 :: a11 :: a12 :: a13 :: .o d :: ρ) := by show (if d.isBox = true then none else some (d, _)) = _; rw [h]; rfl
theorem fN_s15 {a0 a1 a2 a3 a4 a5 a6 a7 a8 a9 a10 a11 a12 a13 a14 : Sl} {d : D} {ρ : En} : fN 15 (a0 :: a1 :: a2 :: a3 :: a4 :: a5 :: a6 :: a7 :: a8 :: a9 :: a10 :: a11 :: a12 :: a13 :: a14 :: .s d :: ρ) = some (d, a0 :: a1 :: a2 :: a3 :: a4 :: a5 :: a6 :: a7 :: a8 :: a9 :: a10 :: a11 :: a12 :: a13 :: a14 :: .s d :: ρ) := rfl
theorem pN_s15 {a0 a1 a2 a3 a4 a5 a6 a7 a8 a9 a10 a11 a12 a13 a14 : Sl} {d : D} {ρ : En} : pN 15 (a0 :: a1 :: a2 :: a3 :: a4 :: a5 :: a6 :: a7 :: a8 :: a9 :: a10 :: a11 :: a12 :: a13 :: a14 :: .s d :: ρ) = some (d, a0 :: a1 :: a2 :: a3 :: a4 :: a5 :: a6 :: a7 :: a8 :: a9 :: a10 :: a11 :: a12 :: a13 :: a14 :: .s d :: ρ) := rfl
theorem fN_o15 {a0 a1 a2 a3 a4 a5 a6 a7 a8 a9 a10 a11 a12 a13 a14 : Sl} {d : D} {ρ : En} (h : d.isBox = false) : fN 15 (a0 :: a1 :: a2 :: a3 :: a4 :: a5 :: a6 :: a7 :: a8 :: a9 :: a10 :: a11 :: a12 :: a13 :: a14 :: .o d :: ρ) = some (d, a0 :: a1 :: a2 :: a3 :: a4 :: a5 :: a6 :: a7 :: a8 :: a9 :: a10 :: a11 :: a12 :: a13 :: a14 :: .s d :: ρ) := by show (if d.isBox = true then none else some (d, _)) = _; rw [h]; rfl
theorem pN_o15 {a0 a1 a2 a3 a4 a5 a6 a7 a8 a9 a10 a11 a12 a13 a14 : Sl} {d : D} {ρ : En} (h : d.isBox = false) : pN 15 (a0 :: a1 :: a2 :: a3 :: a4 :: a5 :: a6 :: a7 :: a8 :: a9 :: a10 :: a11 :: a12 :: a13 :: a14 :: .o d :: ρ) = some (d, a0 :: a1 :: a2 :: a3 :: a4 :: a5 :: a6 :: a7 :: a8 :: a9 :: a10 :: a11 :: a12 :: a13 :: a14 :: .o d :: ρ) := by show (if d.isBox = true then none else some (d, _)) = _; rw [h]; rfl
theorem fN_s16 {a0 a1 a2 a3 a4 a5 a6 a7 a8 a9 a10 a11 a12 a13 a14 a15 : Sl} {d : D} {ρ : En} : fN 16 (a0 :: a1 :: a2 :: a3 :: a4 :: a5 :: a6 :: a7 :: a8 :: a9 :: a10 :: a11 :: a12 :: a13 :: a14 :: a15 :: .s d :: ρ) = some (d, a0 :: a1 :: a2 :: a3 :: a4 :: a5 :: a6 :: a7 :: a8 :: a9 :: a10 :: a11 :: a12 :: a13 :: a14 :: a15 :: .s d :: ρ) := rfl
theorem pN_s16 {a0 a1 a2 a3 a4 a5 a6 a7 a8 a9 a10 a11 a12 a13 a14 a15 : Sl} {d : D} {ρ : En} : pN 16 (a0 :: a1 :: a2 :: a3 :: a4 :: a5 :: a6 :: a7 :: a8 :: a9 :: a10 :: a11 :: a12 :: a13 :: a14 :: a15 :: .s d :: ρ) = some (d, a0 :: a1 :: a2 :: a3 :: a4 :: a5 :: a6 :: a7 :: a8 :: a9 :: a10 :: a11 :: a12 :: a13 :: a14 :: a15 :: .s d :: ρ) := rfl
theorem fN_o16 {a0 a1 a2 a3 a4 a5 a6 a7 a8 a9 a10 a11 a12 a13 a14 a15 : Sl} {d : D} {ρ : En} (h : d.isBox = false) : fN 16 (a0 :: a1 :: a2 :: a3 :: a4 :: a5 :: a6 :: a7 :: a8 :: a9 :: a10 :: a11 :: a12 :: a13 :: a14 :: a15 :: .o d :: ρ) = some (d, a0 :: a1 :: a2 :: a3 :: a4 :: a5 :: a6 :: a7 :: a8 :: a9 :: a10 :: a11 :: a12 :: a13 :: a14 :: a15 :: .s d :: ρ) := by show (if d.isBox = true then none else some (d, _)) = _; rw [h]; rfl
theorem pN_o16 {a0 a1 a2 a3 a4 a5 a6 a7 a8 a9 a10 a11 a12 a13 a14 a15 : Sl} {d : D} {ρ : En} (h : d.isBox = false) : pN 16 (a0 :: a1 :: a2 :: a3 :: a4 :: a5 :: a6 :: a7 :: a8 :: a9 :: a10 :: a11 :: a12 :: a13 :: a14 :: a15 :: .o d :: ρ) = some (d, a0 :: a1 :: a2 :: a3 :: a4 :: a5 :: a6 :: a7 :: a8 :: a9 :: a10 :: a11 :: a12 :: a13 :: a14 :: a15 :: .o d :: ρ) := by show (if d.isBox = true then none else some (d, _)) = _; rw [h]; rfl
theorem box_non : D.isBox .non = false := rfl
theorem box_bl (b : Bool) : D.isBox (.bl b) = false := rfl
theorem box_int (b : Int) : D.isBox (.int b) = false := rfl
theorem box_str (b : Str) : D.isBox (.str b) = false := rfl
theorem box_lst (b : List D) : D.isBox (.lst b) = false := rfl
theorem box_tup (b : List D) : D.isBox (.tup b) = false := rfl
theorem box_dct (t : Nat) (b c : List D) : D.isBox (.dct t b c) = false := rfl
theorem box_ins (t : Str) (b : List Str) (c : List D) : D.isBox (.ins t b c) = false := rfl
theorem fBx_of {ρ : En} {i : Nat} {k : Int} {p : Bool} {xs : List Int} (h : ρ[i]? = some (.o (.box p (.nums xs)))) : fBx i k ρ = (atI xs k).map fun v => (.int v, ρ) := by unfold fBx; rw [h]
theorem addI (i j : Int) : addO (.int i) (.int j) = some (.int (i + j)) := rfl
theorem subI (i j : Int) : subO (.int i) (.int j) = some (.int (i - j)) := rfl
theorem addN (i j : Nat) : addO (.int (i : Nat)) (.int (j : Nat)) = some (.int ((i + j : Nat) : Int)) := by show some (D.int _) = _; rw [Int.natCast_add]
theorem mkT0 : mkT [] = some (.tup []) := rfl
theorem mkT1 (a : D) : mkT [a] = some (.tup [a]) := rfl
theorem mkT2 (a b : D) : mkT [a, b] = some (.tup [a, b]) := rfl
theorem mkT3 (a b c : D) : mkT [a, b, c] = some (.tup [a, b, c]) := rfl
theorem mkL0 : mkL [] = some (.lst []) := rfl
theorem mkL1 (a : D) : mkL [a] = some (.lst [a]) := rfl
theorem mkL2 (a b : D) : mkL [a, b] = some (.lst [a, b]) := rfl
theorem mkL3 (a b c : D) : mkL [a, b, c] = some (.lst [a, b, c]) := rfl
theorem is_str_str (x : Str) : isO "str" (.str x) = some (.bl true) := rfl
theorem is_str_non : isO "str" .non = some (.bl false) := rfl
theorem is_str_bl (b : Bool) : isO "str" (.bl b) = some (.bl false) := rfl
theorem is_str_int (b : Int) : isO "str" (.int b) = some (.bl false) := rfl
theorem is_str_lst (b : List D) : isO "str" (.lst b) = some (.bl false) := rfl
theorem is_str_tup (b : List D) : isO "str" (.tup b) = some (.bl false) := rfl
theorem is_tup_str (x : Str) : isO "tuple" (.str x) = some (.bl false) := rfl
theorem is_tup_non : isO "tuple" .non = some (.bl false) := rfl
theorem is_tup_bl (b : Bool) : isO "tuple" (.bl b) = some (.bl false) := rfl
theorem is_tup_int (b : Int) : isO "tuple" (.int b) = some (.bl false) := rfl
theorem is_tup_lst (b : List D) : isO "tuple" (.lst b) = some (.bl false) := rfl
theorem is_tup_tup (b : List D) : isO "tuple" (.tup b) = some (.bl true) := rfl
theorem is_bl_str (x : Str) : isO "bool" (.str x) = some (.bl false) := rfl
theorem is_bl_non : isO "bool" .non = some (.bl false) := rfl
theorem is_bl_bl (b : Bool) : isO "bool" (.bl b) = some (.bl true) := rfl
theorem is_bl_int (b : Int) : isO "bool" (.int b) = some (.bl false) := rfl
theorem is_bl_lst (b : List D) : isO "bool" (.lst b) = some (.bl false) := rfl
theorem is_bl_tup (b : List D) : isO "bool" (.tup b) = some (.bl false) := rfl
theorem is_int_str (x : Str) : isO "int" (.str x) = some (.bl false) := rfl
theorem is_int_non : isO "int" .non = some (.bl false) := rfl
theorem is_int_bl (b : Bool) : isO "int" (.bl b) = some (.bl true) := rfl
theorem is_int_int (b : Int) : isO "int" (.int b) = some (.bl true) := rfl
theorem is_int_lst (b : List D) : isO "int" (.lst b) = some (.bl false) := rfl
theorem is_int_tup (b : List D) : isO "int" (.tup b) = some (.bl false) := rfl
theorem is2_str (x : Str) : isO2 "list" "tuple" (.str x) = some (.bl false) := rfl
theorem is2_non : isO2 "list" "tuple" .non = some (.bl false) := rfl
theorem is2_bl (b : Bool) : isO2 "list" "tuple" (.bl b) = some (.bl false) := rfl
theorem is2_int (b : Int) : isO2 "list" "tuple" (.int b) = some (.bl false) := rfl
theorem is2_lst (b : List D) : isO2 "list" "tuple" (.lst b) = some (.bl true) := rfl
theorem is2_tup (b : List D) : isO2 "list" "tuple" (.tup b) = some (.bl true) := rfl
theorem len_lst (xs : List D) : lenD (.lst xs) = some (.int (xs.length : Nat)) := rfl
theorem len_tup (xs : List D) : lenD (.tup xs) = some (.int (xs.length : Nat)) := rfl
theorem ltI (i j : Int) : ltO (.int i) (.int j) = some (.bl (decide (i < j))) := rfl
theorem leI (i j : Int) : leO (.int i) (.int j) = some (.bl (decide (i ≤ j))) := rfl
theorem gtI (i j : Int) : gtO (.int i) (.int j) = some (.bl (decide (j < i))) := rfl
theorem geI (i j : Int) : geO (.int i) (.int j) = some (.bl (decide (j ≤ i))) := rfl
theorem neBl (i j : Bool) : neO (.bl i) (.bl j) = some (.bl (!(i == j))) := by
  show some (D.bl (!PyData.eqv (.bool i) (.bool j))) = _
  rw [PyData.eqv]
theorem isN_non : isNO .non .non = some (.bl true) := rfl
theorem notN_non : notNO .non .non = some (.bl false) := rfl
theorem isN_tup (b : List D) : isNO (.tup b) .non = some (.bl false) := rfl
theorem notN_tup (b : List D) : notNO (.tup b) .non = some (.bl true) := rfl
theorem isN_str (b : Str) : isNO (.str b) .non = some (.bl false) := rfl
theorem notN_str (b : Str) : notNO (.str b) .non = some (.bl true) := rfl
theorem int_int (i : Int) : intO (.int i) = some (.int i) := rfl
theorem int_bl (b : Bool) : intO (.bl b) = some (.int (if b then 1 else 0)) := rfl
theorem abs_int (i : Int) : absO (.int i) = some (.int (if i < 0 then -i else i)) := rfl
theorem tup_lst (xs : List D) : tupO (.lst xs) = some (.tup xs) := rfl
theorem tup_tup (xs : List D) : tupO (.tup xs) = some (.tup xs) := rfl
theorem lst_lst (xs : List D) : lstO (.lst xs) = some (.lst xs) := rfl
theorem lst_tup (xs : List D) : lstO (.tup xs) = some (.lst xs) := rfl
end Ev
end VS
set_option autoImplicit false
local macro_rules | `(tactic| walk_at "e") => `(tactic| simp -implicitDefEqProofs only [VS.sSeq, VS.sSet, VS.sSetO, VS.sEx, VS.sRt, VS.sRtN, VS.sIf, VS.sNx, VS.sBk, VS.sCt, VS.sNo, VS.sAs, VS.sPar, VS.sPar3, VS.sPut, VS.sPutL, VS.sAug, VS.slot, VS.cOr, VS.cAnd, VS.cNot, VS.cYes, VS.tF, VS.fB, VS.fU, VS.fC, VS.fBN, VS.fAp, VS.fAnd, VS.fOr, VS.fIf, VS.fCh, VS.aC, VS.aN, VS.aSt, VS.seqOf, VS.fSl, VS.fSlL, VS.oSo, VS.oNo, VS.fMuL, VS.hasSl, VS.blD, VS.notD, VS.negO, VS.gN, VS.gTu, VS.gCo, VS.gNi, VS.Rw.sl_T, VS.Rw.slTo_T, VS.Rw.slFrom_T, VS.Rw.stw_T, VS.Rw.eq_T, VS.Rw.ne_T, VS.Rw.len_T, VS.Rw.neI, VS.Rw.eqI, VS.Ev.fN_s0, VS.Ev.pN_s0, VS.Ev.fN_o0, VS.Ev.pN_o0, VS.Ev.fN_s1, VS.Ev.pN_s1, VS.Ev.fN_o1, VS.Ev.pN_o1, VS.Ev.fN_s2, VS.Ev.pN_s2, VS.Ev.fN_o2, VS.Ev.pN_o2, VS.Ev.fN_s3, VS.Ev.pN_s3, VS.Ev.fN_o3, VS.Ev.pN_o3, VS.Ev.fN_s4, VS.Ev.pN_s4, VS.Ev.fN_o4, VS.Ev.pN_o4, VS.Ev.fN_s5, VS.Ev.pN_s5, VS.Ev.fN_o5, VS.Ev.pN_o5, VS.Ev.fN_s6, VS.Ev.pN_s6, VS.Ev.fN_o6, VS.Ev.pN_o6, VS.Ev.fN_s7, VS.Ev.pN_s7, VS.Ev.fN_o7, VS.Ev.pN_o7, VS.Ev.fN_s8, VS.Ev.pN_s8, VS.Ev.fN_o8, VS.Ev.pN_o8, VS.Ev.fN_s9, VS.Ev.pN_s9, VS.Ev.fN_o9, VS.Ev.pN_o9, VS.Ev.fN_s10, VS.Ev.pN_s10, VS.Ev.fN_o10, VS.Ev.pN_o10, VS.Ev.fN_s11, VS.Ev.pN_s11, VS.Ev.fN_o11, VS.Ev.pN_o11, VS.Ev.fN_s12, VS.Ev.pN_s12, VS.Ev.fN_o12, VS.Ev.pN_o12, VS.Ev.fN_s13, VS.Ev.pN_s13, VS.Ev.fN_o13, VS.Ev.pN_o13, VS.Ev.fN_s14, VS.Ev.pN_s14, VS.Ev.fN_o14, VS.Ev.pN_o14, VS.Ev.fN_s15, VS.Ev.pN_s15, VS.Ev.fN_o15, VS.Ev.pN_o15, VS.Ev.fN_s16, VS.Ev.pN_s16, VS.Ev.fN_o16, VS.Ev.pN_o16, VS.Ev.box_non, VS.Ev.box_bl, VS.Ev.box_int, VS.Ev.box_str, VS.Ev.box_lst, VS.Ev.box_tup, VS.Ev.box_dct, VS.Ev.box_ins, VS.Ev.fBx_of, VS.Ev.subI, VS.Ev.addN, VS.Ev.mkT0, VS.Ev.mkT1, VS.Ev.mkT2, VS.Ev.mkT3, VS.Ev.mkL0, VS.Ev.mkL1, VS.Ev.mkL2, VS.Ev.mkL3, VS.Ev.is_str_str, VS.Ev.is_str_non, VS.Ev.is_str_bl, VS.Ev.is_str_int, VS.Ev.is_str_lst, VS.Ev.is_str_tup, VS.Ev.is_tup_str, VS.Ev.is_tup_non, VS.Ev.is_tup_bl, VS.Ev.is_tup_int, VS.Ev.is_tup_lst, VS.Ev.is_tup_tup, VS.Ev.is_bl_str, VS.Ev.is_bl_non, VS.Ev.is_bl_bl, VS.Ev.is_bl_int, VS.Ev.is_bl_lst, VS.Ev.is_bl_tup, VS.Ev.is_int_str, VS.Ev.is_int_non, VS.Ev.is_int_bl, VS.Ev.is_int_int, VS.Ev.is_int_lst, VS.Ev.is_int_tup, VS.Ev.is2_str, VS.Ev.is2_non, VS.Ev.is2_bl, VS.Ev.is2_int, VS.Ev.is2_lst, VS.Ev.is2_tup, VS.Ev.len_lst, VS.Ev.len_tup, VS.Ev.ltI, VS.Ev.leI, VS.Ev.gtI, VS.Ev.geI, VS.Ev.neBl, VS.Ev.isN_non, VS.Ev.notN_non, VS.Ev.isN_tup, VS.Ev.notN_tup, VS.Ev.isN_str, VS.Ev.notN_str, VS.Ev.int_int, VS.Ev.int_bl, VS.Ev.abs_int, VS.Ev.tup_lst, VS.Ev.tup_tup, VS.Ev.lst_lst, VS.Ev.lst_tup, List.isEmpty_nil, List.isEmpty_cons, List.length_cons, List.length_nil, Nat.zero_add, List.getElem?_cons_zero, List.getElem?_cons_succ, List.set_cons_zero, List.set_cons_succ, List.append_nil, List.nil_append, List.cons_append, Option.bind_some, Option.map_some, Option.bind_none, Option.map_none, Bool.false_eq_true, if_true, if_false, reduceIte, Bool.not_true, Bool.not_false, decide_true, decide_false])
namespace K60
open PySem PySem.Spec PyProof.Rows L2 AR VS VS.Rw
def prD (p : Pr) : D := .tup [tD p.1, tD p.2]
def psD (ps : List Pr) : D := .lst (ps.map prD)
def psT (ps : List Pr) : D := .tup (ps.map prD)
def mvD (m : Nat × Nat) : D := .tup [.int (m.1 : Nat), .int (m.2 : Nat)]
def rul (sg : List Nat) (ps : List Pr) : D := .ins "Rules" ["signs", "pairs"] [tD sg, psT ps]
def enF (n : Nat) (xs : List D) : List D := List.zipWith (fun i x => D.tup [.int (i : Nat), x]) (List.range' n xs.length) xs
theorem enF_0 (xs : List D) : enuD xs = enF 0 xs := by unfold enuD enF; rw [List.range_eq_range']
theorem enF_cons (n : Nat) (x : D) (xs : List D) : enF n (x :: xs) = .tup [.int (n : Nat), x] :: enF (n + 1) xs := by
  unfold enF
  rw [List.length_cons, List.range'_succ, List.zipWith_cons_cons]
def rng (i k : Nat) : List D := (List.range' i k).map fun i => D.int (i : Nat)
theorem rng_0 (n : Nat) : rngD 0 (n : Nat) = rng 0 n := by
  unfold rngD rng
  rw [← List.range_eq_range']
  have : ((n : Int) - 0).toNat = n := by omega
  rw [this]
  exact List.map_congr_left fun i _ => by rw [Int.zero_add]
theorem rng_succ (i k : Nat) : rng i (k + 1) = .int (i : Nat) :: rng (i + 1) k := by
  unfold rng
  rw [List.range'_succ, List.map_cons]
theorem big6 : (1000000 : Nat) ≤ sizeLine := by decide
theorem iR1_nat {a : FA} {ρ ρ1 : En} {n : Nat} (h : a ρ = some ([.int (n : Nat)], ρ1)) (hn : n ≤ 1000000) : iR1 a ρ = some (rng 0 n, ρ1) := by
  rw [iR1_of h (by omega) (by omega), rng_0]
theorem mkT2 (a b : D) : mkT [a, b] = some (.tup [a, b]) := rfl
theorem app_ok {xs : List D} {x : D} (h : xs.length < 1000000) : appO xs [x] = some (.non, xs ++ [x]) := by
  have hb := big6
  show (if xs.length < sizeLine then _ else _) = _
  rw [if_pos (by omega)]
section
variable {sg : List Nat} {ps : List Pr} {w : RwL}
def mvI : FS := sIf (tF blD (fB stwO (fSl (fN 1) (oSo (fN 3)) oNo) (fN 5))) (sEx (fMuL appO 2 (aC (fAp mkT (aC (fN 3) (aC (fN 4) aN))) aN))) sNx
def mvG : FG := gTu 2 (gCo (gN 4) (gCo (gTu 2 (gCo (gN 5) (gCo (gN 6) gNi))) gNi))
theorem mvI_ok {A : D} {found : List D} {i n : Nat} {l r : RwL} (hf : found.length < 1000000) : mvI [.s A, .s (tD w), .o (.lst found), .s (.int (i : Nat)), .s (.int (n : Nat)), .s (tD l), .s (tD r)] =
    some (.nx [.s A, .s (tD w), .o (.lst (if hit l w i then found ++ [mvD (i, n)] else found)), .s (.int (i : Nat)), .s (.int (n : Nat)), .s (tD l), .s (tD r)]) := by
  unfold mvI hit mvD
  walk_at "e"
  by_cases h : (w.drop i).take l.length = l
  · simp only [h, decide_true]
    walk_at "e"
    rw [app_ok hf]
    rfl
  · simp only [h, decide_false]
    walk_at "e"
theorem mv_in {A : D} {i : Nat} : ∀ (ps : List Pr) (n : Nat) (found : List D) (v4 v5 v6 : Sl), found.length + ps.length < 1000000 →
    ∃ v4' v5' v6', forL mvG mvI (enF n (ps.map prD)) [.s A, .s (tD w), .o (.lst found), .s (.int (i : Nat)), v4, v5, v6] = some (.nx [.s A, .s (tD w), .o (.lst (found ++ (hitsAt w i n ps).map mvD)), .s (.int (i : Nat)), v4', v5', v6'])
  | [], n, found, v4, v5, v6, _ => ⟨v4, v5, v6, by simp [hitsAt]; rfl⟩
  | p :: ps, n, found, v4, v5, v6, hf => by
    rw [List.length_cons] at hf
    have e : hitsAt w i n (p :: ps) = if hit p.1 w i then (i, n) :: hitsAt w i (n + 1) ps else hitsAt w i (n + 1) ps := rfl
    obtain ⟨a, b, c, ih⟩ := mv_in (A := A) (i := i) ps (n + 1) (if hit p.1 w i then found ++ [mvD (i, n)] else found) (.s (.int (n : Nat))) (.s (tD p.1)) (.s (tD p.2)) (by
      split
      · rw [List.length_append, List.length_singleton]; omega
      · omega)
    refine ⟨a, b, c, ?_⟩
    rw [List.map_cons, enF_cons, forL_nx (tg := mvG) (ρ1 := [.s A, .s (tD w), .o (.lst found), .s (.int (i : Nat)), .s (.int (n : Nat)), .s (tD p.1), .s (tD p.2)]) rfl (mvI_ok (by omega)), ih, e]
    split <;> simp
theorem mv_out : ∀ (k i : Nat) (found : List D) (v3 v4 v5 v6 : Sl), found.length + k * ps.length + ps.length < 1000000 →
    ∃ v3' v4' v5' v6', forL (gN 3) (sFor (iEn (fN 0)) mvG mvI) (rng i k) [.s (psD ps), .s (tD w), .o (.lst found), v3, v4, v5, v6] = some (.nx [.s (psD ps), .s (tD w), .o (.lst (found ++ (mvsFrom ps w i k).map mvD)), v3', v4', v5', v6'])
  | 0, i, found, v3, v4, v5, v6, _ => ⟨v3, v4, v5, v6, by simp [mvsFrom]; rfl⟩
  | k + 1, i, found, v3, v4, v5, v6, hf => by
    rw [Nat.succ_mul] at hf
    have hl : (hitsAt w i 0 ps).length ≤ ps.length := by
      have : ∀ (ps : List Pr) (n : Nat), (hitsAt w i n ps).length ≤ ps.length := by
        intro ps
        induction ps with
        | nil => intro n; simp [hitsAt]
        | cons p ps ih =>
          intro n
          have := ih (n + 1)
          show (if hit p.1 w i then (i, n) :: hitsAt w i (n + 1) ps else hitsAt w i (n + 1) ps).length ≤ _
          split <;> simp <;> omega
      exact this ps 0
    obtain ⟨a, b, c, h1⟩ := mv_in (w := w) (A := psD ps) (i := i) ps 0 found v4 v5 v6 (by omega)
    obtain ⟨a', b', c', d', h2⟩ := mv_out k (i + 1) (found ++ (hitsAt w i 0 ps).map mvD) (.s (.int (i : Nat))) a b c (by rw [List.length_append, List.length_map]; omega)
    refine ⟨a', b', c', d', ?_⟩
    rw [rng_succ, forL_nx (tg := gN 3) (ρ1 := [.s (psD ps), .s (tD w), .o (.lst found), .s (.int (i : Nat)), v4, v5, v6]) rfl (ρ2 := [.s (psD ps), .s (tD w), .o (.lst (found ++ (hitsAt w i 0 ps).map mvD)), .s (.int (i : Nat)), a, b, c]) (by
      show (iEn (fN 0) _).bind _ = _
      show (some (enuD (ps.map prD), _)).bind _ = _
      rw [enF_0]
      exact h1), h2, mvsFrom]
    simp
theorem w_moves_ok (hw : w.length ≤ 1000) (hp : ps.length ≤ 20) : fnD 2 7 b_w_moves [psD ps, tD w] = some (.lst ((moves ps w).map mvD)) := by
  obtain ⟨a, b, c, d, h⟩ := mv_out (ps := ps) (w := w) w.length 0 [] .u .u .u .u (by
    have := Nat.mul_le_mul hw hp
    simp; omega)
  refine fnD_rt (ρ := [.s (psD ps), .s (tD w), .s (.lst ((moves ps w).map mvD)), a, b, c, d]) rfl ?_
  unfold b_w_moves
  refine sSeq_of (sSetO_of (d := .lst []) rfl) (sSeq_of (ρ1 := [.s (psD ps), .s (tD w), .o (.lst ((moves ps w).map mvD)), a, b, c, d]) ?_ rfl)
  unfold sFor
  rw [iR1_nat (n := w.length) (aC_of (fU_of (x := tD w) rfl (len_T w)) rfl) (by omega)]
  exact h
end
end K60
set_option autoImplicit false
namespace K60
open PySem PySem.Spec PyProof.Rows L2 AR VS VS.Rw
theorem forL_rt {tg : FG} {b : FS} {x d : D} {xs : List D} {ρ ρ1 ρ2 : En} (h1 : tg x ρ = some ρ1) (h2 : b ρ1 = some (.rt d ρ2)) : forL tg b (x :: xs) ρ = some (.rt d ρ2) := by
  show (tg x ρ).bind _ = _
  rw [h1]
  show (match b ρ1 with | some (.nx ρ2) => _ | some (.ct ρ2) => _ | some (.bk ρ2) => _ | some (.rt d ρ2) => _ | none => _) = _
  rw [h2]
theorem whL_t {c : FT} {b : FS} {F : Nat} {ρ ρ1 ρ2 : En} (h : c ρ = some (true, ρ1)) (h2 : b ρ1 = some (.nx ρ2)) : whL c b (F + 1) ρ = whL c b F ρ2 := by
  simp only [whL, h, h2, Option.bind_some, if_true]
theorem whL_f {c : FT} {b : FS} {F : Nat} {ρ ρ1 : En} (h : c ρ = some (false, ρ1)) : whL c b (F + 1) ρ = some (.nx ρ1) := by
  simp only [whL, h, Option.bind_some, Bool.false_eq_true, if_false]
def optD : Option (Nat × Nat) → D
  | some m => mvD m
  | none => .non
section
variable {sg : List Nat} {ps : List Pr} {w : RwL}
def lmI : FS := sIf (tF blD (fB eqO (fSl (fN 1) (oSo (fN 2)) (oSo (fB addO (fN 2) (fU lenD (pN 4))))) (fN 4))) (sRt (fAp mkT (aC (fN 2) (aC (fN 3) aN)))) sNx
def lmG : FG := gTu 2 (gCo (gN 3) (gCo (gTu 2 (gCo (gN 4) (gCo (gN 5) gNi))) gNi))
theorem lmI_ok {R : D} {i n : Nat} {l r : RwL} : lmI [.s R, .s (tD w), .s (.int (i : Nat)), .s (.int (n : Nat)), .s (tD l), .s (tD r)] =
    if hit l w i then some (.rt (mvD (i, n)) [.s R, .s (tD w), .s (.int (i : Nat)), .s (.int (n : Nat)), .s (tD l), .s (tD r)]) else some (.nx [.s R, .s (tD w), .s (.int (i : Nat)), .s (.int (n : Nat)), .s (tD l), .s (tD r)]) := by
  unfold lmI hit mvD
  walk_at "e"
  have e : i + l.length - i = l.length := by omega
  rw [e]
theorem lm_in {R : D} {i : Nat} : ∀ (ps : List Pr) (n : Nat) (v3 v4 v5 : Sl),
    (∀ m, (hitsAt w i n ps).head? = some m → ∃ ρ', forL lmG lmI (enF n (ps.map prD)) [.s R, .s (tD w), .s (.int (i : Nat)), v3, v4, v5] = some (.rt (mvD m) ρ')) ∧
    (hitsAt w i n ps = [] → ∃ v3' v4' v5', forL lmG lmI (enF n (ps.map prD)) [.s R, .s (tD w), .s (.int (i : Nat)), v3, v4, v5] = some (.nx [.s R, .s (tD w), .s (.int (i : Nat)), v3', v4', v5']))
  | [], n, v3, v4, v5 => ⟨fun m h => (by simp [hitsAt] at h), fun _ => ⟨v3, v4, v5, rfl⟩⟩
  | p :: ps, n, v3, v4, v5 => by
    have e : hitsAt w i n (p :: ps) = if hit p.1 w i then (i, n) :: hitsAt w i (n + 1) ps else hitsAt w i (n + 1) ps := rfl
    have hb := lmI_ok (w := w) (R := R) (i := i) (n := n) (l := p.1) (r := p.2)
    obtain ⟨k1, k2⟩ := lm_in (R := R) (i := i) ps (n + 1) (.s (.int (n : Nat))) (.s (tD p.1)) (.s (tD p.2))
    rw [e, List.map_cons, enF_cons]
    by_cases h : hit p.1 w i = true
    · rw [if_pos h] at hb ⊢
      refine ⟨fun m hm => ?_, fun z => nomatch z⟩
      cases hm
      exact ⟨_, forL_rt (tg := lmG) (ρ1 := [.s R, .s (tD w), .s (.int (i : Nat)), .s (.int (n : Nat)), .s (tD p.1), .s (tD p.2)]) rfl hb⟩
    · rw [if_neg h] at hb ⊢
      rw [forL_nx (tg := lmG) (ρ1 := [.s R, .s (tD w), .s (.int (i : Nat)), .s (.int (n : Nat)), .s (tD p.1), .s (tD p.2)]) rfl hb]
      exact ⟨k1, k2⟩
theorem pairs_at {ρ : En} (h : ρ[0]? = some (.s (rul sg ps))) : fU (attrD ["Rules"] "pairs") (pN 0) ρ = some (psT ps, ρ) := fU_of (x := rul sg ps) (by unfold pN; rw [h]) rfl
theorem lm_out : ∀ (k i : Nat) (v2 v3 v4 v5 : Sl),
    (∀ m, (mvsFrom ps w i k).head? = some m → ∃ ρ', forL (gN 2) (sFor (iEn (fU (attrD ["Rules"] "pairs") (pN 0))) lmG lmI) (rng i k) [.s (rul sg ps), .s (tD w), v2, v3, v4, v5] = some (.rt (mvD m) ρ')) ∧
    (mvsFrom ps w i k = [] → ∃ v2' v3' v4' v5', forL (gN 2) (sFor (iEn (fU (attrD ["Rules"] "pairs") (pN 0))) lmG lmI) (rng i k) [.s (rul sg ps), .s (tD w), v2, v3, v4, v5] = some (.nx [.s (rul sg ps), .s (tD w), v2', v3', v4', v5']))
  | 0, i, v2, v3, v4, v5 => ⟨fun m h => (by simp [mvsFrom] at h), fun _ => ⟨v2, v3, v4, v5, rfl⟩⟩
  | k + 1, i, v2, v3, v4, v5 => by
    obtain ⟨k1, k2⟩ := lm_in (w := w) (R := rul sg ps) (i := i) ps 0 v3 v4 v5
    have hs : (sFor (iEn (fU (attrD ["Rules"] "pairs") (pN 0))) lmG lmI) [.s (rul sg ps), .s (tD w), .s (.int (i : Nat)), v3, v4, v5] = forL lmG lmI (enF 0 (ps.map prD)) [.s (rul sg ps), .s (tD w), .s (.int (i : Nat)), v3, v4, v5] := by
      unfold sFor iEn
      rw [pairs_at rfl]
      show (some (enuD (ps.map prD), _)).bind _ = _
      rw [enF_0]; rfl
    rw [rng_succ, mvsFrom]
    cases e : hitsAt w i 0 ps with
    | cons m ms =>
      refine ⟨fun m' hm => ?_, fun z => nomatch z⟩
      cases hm
      obtain ⟨ρ', h⟩ := k1 m (by rw [e]; rfl)
      exact ⟨ρ', forL_rt (tg := gN 2) (ρ1 := [.s (rul sg ps), .s (tD w), .s (.int (i : Nat)), v3, v4, v5]) rfl (by rw [hs]; exact h)⟩
    | nil =>
      obtain ⟨a, b, c, h⟩ := k2 e
      rw [List.nil_append, forL_nx (tg := gN 2) (ρ1 := [.s (rul sg ps), .s (tD w), .s (.int (i : Nat)), v3, v4, v5]) rfl (by rw [hs]; exact h)]
      exact lm_out k (i + 1) (.s (.int (i : Nat))) a b c
theorem st6 (a b : D) : startE 6 [a, b] = [.s a, .s b, .u, .u, .u, .u] := rfl
theorem lm_for (hw : w.length ≤ 1000) : sFor (iR1 (aC (fU lenD (pN 1)) aN)) (gN 2) (sFor (iEn (fU (attrD ["Rules"] "pairs") (pN 0))) lmG lmI) [.s (rul sg ps), .s (tD w), .u, .u, .u, .u] = forL (gN 2) (sFor (iEn (fU (attrD ["Rules"] "pairs") (pN 0))) lmG lmI) (rng 0 w.length) [.s (rul sg ps), .s (tD w), .u, .u, .u, .u] := by
  have h : iR1 (aC (fU lenD (pN 1)) aN) [.s (rul sg ps), .s (tD w), .u, .u, .u, .u] = some (rng 0 w.length, [.s (rul sg ps), .s (tD w), .u, .u, .u, .u]) := iR1_nat (n := w.length) (by walk_at "e") (by omega)
  unfold sFor
  rw [h, Option.bind_some]
theorem lm_b : b_Rules_least_move = sSeq (sFor (iR1 (aC (fU lenD (pN 1)) aN)) (gN 2) (sFor (iEn (fU (attrD ["Rules"] "pairs") (pN 0))) lmG lmI)) (sRt (fC .non)) := rfl
theorem sSeq_rt {a b : FS} {ρ ρ1 : En} {d : D} (h : a ρ = some (.rt d ρ1)) : sSeq a b ρ = some (.rt d ρ1) := by unfold sSeq; rw [h]
theorem least_b (hw : w.length ≤ 1000) : ∃ ρ', b_Rules_least_move [.s (rul sg ps), .s (tD w), .u, .u, .u, .u] = some (.rt (optD (least ps w)) ρ') := by
  obtain ⟨k1, k2⟩ := lm_out (sg := sg) (ps := ps) (w := w) w.length 0 .u .u .u .u
  have hs := lm_for (sg := sg) (ps := ps) hw
  have e2 : least ps w = (mvsFrom ps w 0 w.length).head? := rfl
  rw [e2, lm_b]
  cases e : mvsFrom ps w 0 w.length with
  | cons m ms =>
    obtain ⟨ρ', h⟩ := k1 m (by rw [e]; rfl)
    exact ⟨ρ', sSeq_rt (hs.trans h)⟩
  | nil =>
    obtain ⟨a, b, c, d, h⟩ := k2 e
    exact ⟨_, sSeq_of (hs.trans h) (sRt_of rfl)⟩
theorem least_ok (hw : w.length ≤ 1000) : fnD 2 6 b_Rules_least_move [rul sg ps, tD w] = some (optD (least ps w)) := by
  obtain ⟨ρ', h⟩ := least_b (sg := sg) (ps := ps) hw
  exact fnD_rt (k := 6) (ds := [rul sg ps, tD w]) rfl ((congrArg b_Rules_least_move (st6 (rul sg ps) (tD w))).trans h)
theorem methR {m : Str} {n k : Nat} {body : FS} {ds : List D} {d : D} (hm : m ∉ (["signs", "pairs"] : List Str)) (h : fnD n k body (rul sg ps :: ds) = some d) : methD "Rules" m (fnD n k body) (rul sg ps :: ds) = some d := by
  show (if (("Rules" : Str) = "Rules" ∧ m ∉ (["signs", "pairs"] : List Str)) then _ else none) = _
  rw [if_pos ⟨rfl, hm⟩]; exact h
theorem pr_get {p : Pr} {n : Nat} (h : ps[n]? = some p) : (ps.map prD)[n]? = some (prD p) := by rw [List.getElem?_map, h]; rfl
theorem after_ok {m : Nat × Nat} {p : Pr} (h : ps[m.2]? = some p) (hw : w.length ≤ 1000) (hl : p.2.length ≤ 20) : fnD 3 7 b_Rules_after [rul sg ps, tD w, mvD m] = some (tD (after ps w m)) := by
  refine fnD_rt (ρ := [.s (rul sg ps), .s (tD w), .s (mvD m), .s (.int (m.1 : Nat)), .s (.int (m.2 : Nat)), .s (tD p.1), .s (tD p.2)]) rfl ?_
  show b_Rules_after [.s (rul sg ps), .s (tD w), .s (mvD m), .u, .u, .u, .u] = _
  unfold b_Rules_after
  have ha : attrD ["Rules"] "pairs" (rul sg ps) = some (psT ps) := rfl
  have hg : getD (psT ps) (.int (m.2 : Nat)) = some (prD p) := get_tup (pr_get h)
  walk_at "e"
  simp only [mvD]
  walk_at "e"
  rw [ha]
  walk_at "e"
  rw [hg]
  simp only [prD]
  walk_at "e"
  rw [add_T (by rw [List.length_take]; omega)]
  walk_at "e"
  rw [add_T (by rw [List.length_append, List.length_take, List.length_drop]; omega)]
  unfold after
  rw [(getD_of h).1, (getD_of h).2]
  rfl
theorem w_after_ok {m : Nat × Nat} {p : Pr} (h : ps[m.2]? = some p) (hw : w.length ≤ 1000) (hl : p.2.length ≤ 20) : fnD 3 5 b_w_after [psD ps, tD w, mvD m] = some (tD (after ps w m)) := by
  refine fnD_rt (ρ := [.s (psD ps), .s (tD w), .s (mvD m), .s (tD p.1), .s (tD p.2)]) rfl ?_
  show b_w_after [.s (psD ps), .s (tD w), .s (mvD m), .u, .u] = _
  unfold b_w_after
  have g0 : getD (mvD m) (.int 0) = some (.int (m.1 : Nat)) := rfl
  have g1 : getD (mvD m) (.int 1) = some (.int (m.2 : Nat)) := rfl
  have hg : getD (psD ps) (.int (m.2 : Nat)) = some (prD p) := get_lst (pr_get h)
  walk_at "e"
  rw [g1]
  walk_at "e"
  rw [hg]
  simp only [prD]
  walk_at "e"
  rw [g0]
  walk_at "e"
  rw [add_T (by rw [List.length_take]; omega)]
  walk_at "e"
  rw [g0]
  walk_at "e"
  rw [add_T (by rw [List.length_append, List.length_take, List.length_drop]; omega)]
  unfold after
  rw [(getD_of h).1, (getD_of h).2]
  rfl
end
end K60
set_option autoImplicit false
namespace K60
open PySem PySem.Spec PyProof.Rows L2 AR VS VS.Rw
theorem isN_mv (m : Nat × Nat) : notNO (mvD m) .non = some (.bl true) := rfl
section
variable {sg : List Nat} {ps : List Pr} {w : RwL}
/-- a move's pair -/
theorem mv_pr (R : PR sg ps) {m : Nat × Nat} (h : m ∈ moves ps w) : ∃ p, ps[m.2]? = some p ∧ p.2.length ≤ 20 := by
  obtain ⟨_, p, h2, _⟩ := moves_mem.mp h
  exact ⟨p, h2, R.lr p (List.mem_of_getElem? h2)⟩
theorem aft (R : PR sg ps) (hw : w.length ≤ 1000) {m : Nat × Nat} (h : m ∈ moves ps w) : methD "Rules" "after" (fnD 3 7 b_Rules_after) [rul sg ps, tD w, mvD m] = some (tD (after ps w m)) := by
  obtain ⟨p, h1, h2⟩ := mv_pr R h
  exact methR (by decide) (after_ok h1 hw h2)
theorem lea (hw : w.length ≤ 1000) : methD "Rules" "least_move" (fnD 2 6 b_Rules_least_move) [rul sg ps, tD w] = some (optD (least ps w)) := methR (by decide) (least_ok hw)
def mvs (l : List (RwL × (Nat × Nat))) : List D := l.map fun q => mvD q.2
/-- reduced -/
def reC : FT := tF blD (fB notNO (fN 2) (fC .non))
def reB : FS := (sSeq (sSet 1 (fAp (methD "Rules" "after" (fnD 3 7 b_Rules_after)) (aC (fN 0) (aC (fN 1) (aC (fN 2) aN)))))
      (sSet 2 (fAp (methD "Rules" "least_move" (fnD 2 6 b_Rules_least_move)) (aC (fN 0) (aC (fN 1) aN)))))
theorem re_wh (R : PR sg ps) (F : Nat) : ∀ (w : RwL), code w < F → w.length ≤ 1000 → whL reC reB F [.s (rul sg ps), .s (tD w), .s (optD (least ps w))] = some (.nx [.s (rul sg ps), .s (tD (nf ps w)), .s .non]) := by
  induction F with
  | zero => intro w h; omega
  | succ F ih =>
    intro w hc hw
    cases e : least ps w with
    | none =>
      rw [(rd_none e).2]
      exact whL_f (by unfold reC optD; walk_at "e")
    | some m =>
      have hm := least_mem e
      have hlt := after_code R hm
      have hl := after_len R hm
      rw [(rd_some R e).2, whL_t (c := reC) (b := reB) (ρ1 := [.s (rul sg ps), .s (tD w), .s (mvD m)]) (ρ2 := [.s (rul sg ps), .s (tD (after ps w m)), .s (optD (least ps (after ps w m)))]) (by unfold reC optD; walk_at "e"; rw [isN_mv]; rfl) (by
        unfold reB
        walk_at "e"
        rw [aft R hw hm]
        walk_at "e"
        rw [lea (by omega)]; rfl)]
      exact ih (after ps w m) (by omega) (by omega)
theorem reduced_ok (R : PR sg ps) (hc : code w ≤ 300000) (hw : w.length ≤ 1000) : methD "Rules" "reduced" (fnD 2 3 b_Rules_reduced) [rul sg ps, tD w] = some (tD (nf ps w)) := by
  refine methR (by decide) (fnD_rt (ρ := [.s (rul sg ps), .s (tD (nf ps w)), .s .non]) rfl ?_)
  have h := re_wh R 1000000 w (by omega) hw
  show b_Rules_reduced [.s (rul sg ps), .s (tD w), .u] = _
  refine sSeq_of (ρ1 := [.s (rul sg ps), .s (tD w), .s (optD (least ps w))]) (by walk_at "e"; rw [lea hw]; rfl) (sSeq_of h ?_)
  walk_at "e"
/-- road -/
def roC : FT := tF blD (fB notNO (fN 3) (fC .non))
def roB : FS := (sSeq (sEx (fMuL appO 2 (aC (fN 3) aN)))
      (sSeq (sSet 1 (fAp (methD "Rules" "after" (fnD 3 7 b_Rules_after)) (aC (fN 0) (aC (fN 1) (aC (fN 3) aN)))))
      (sSet 3 (fAp (methD "Rules" "least_move" (fnD 2 6 b_Rules_least_move)) (aC (fN 0) (aC (fN 1) aN))))))
theorem ro_wh (R : PR sg ps) (F : Nat) : ∀ (w : RwL) (found : List D), code w < F → w.length ≤ 1000 → found.length + code w < 1000000 → whL roC roB F [.s (rul sg ps), .s (tD w), .o (.lst found), .s (optD (least ps w))] = some (.nx [.s (rul sg ps), .s (tD (nf ps w)), .o (.lst (found ++ mvs (rd ps w))), .s .non]) := by
  induction F with
  | zero => intro w found h; omega
  | succ F ih =>
    intro w found hc hw hf
    cases e : least ps w with
    | none =>
      rw [(rd_none e).2, (rd_none e).1]
      refine whL_f (by unfold roC optD mvs; walk_at "e"; simp)
    | some m =>
      have hm := least_mem e
      have hlt := after_code R hm
      have hl := after_len R hm
      rw [(rd_some R e).2, (rd_some R e).1, whL_t (c := roC) (b := roB) (ρ1 := [.s (rul sg ps), .s (tD w), .o (.lst found), .s (mvD m)]) (ρ2 := [.s (rul sg ps), .s (tD (after ps w m)), .o (.lst (found ++ [mvD m])), .s (optD (least ps (after ps w m)))]) (by unfold roC optD; walk_at "e"; rw [isN_mv]; rfl) (by
        unfold roB
        walk_at "e"
        rw [app_ok (by omega)]
        walk_at "e"
        rw [aft R hw hm]
        walk_at "e"
        rw [lea (by omega)]; rfl)]
      rw [ih (after ps w m) (found ++ [mvD m]) (by omega) (by omega) (by rw [List.length_append, List.length_singleton]; omega)]
      unfold mvs
      simp
theorem road_ok (R : PR sg ps) (hc : code w ≤ 300000) (hw : w.length ≤ 1000) : methD "Rules" "road" (fnD 2 4 b_Rules_road) [rul sg ps, tD w] = some (.tup (mvs (rd ps w))) := by
  refine methR (by decide) (fnD_rt (ρ := [.s (rul sg ps), .s (tD (nf ps w)), .s (.lst (mvs (rd ps w))), .s .non]) rfl ?_)
  have h := ro_wh R 1000000 w [] (by omega) hw (by simp; omega)
  rw [List.nil_append] at h
  show b_Rules_road [.s (rul sg ps), .s (tD w), .u, .u] = _
  refine sSeq_of (ρ1 := [.s (rul sg ps), .s (tD w), .o (.lst []), .s (optD (least ps w))]) (by walk_at "e"; rw [lea hw]; rfl) (sSeq_of h ?_)
  walk_at "e"
/-- the law's road -/
def wrC : FT := tF blD (fB neO (fN 3) (fAp mkL aN))
def wrB : FS := (sSeq (sEx (fMuL appO 2 (aC (fB getD (fN 3) (fC (.int 0))) aN)))
      (sSeq (sSet 1 (fAp (fnD 3 5 b_w_after) (aC (fN 0) (aC (fN 1) (aC (fB getD (fN 3) (fC (.int 0))) aN)))))
      (sSet 3 (fAp (fnD 2 7 b_w_moves) (aC (fN 0) (aC (fN 1) aN))))))
def mvP (m : Nat × Nat) : PyData := .tuple [.int (m.1 : Nat), .int (m.2 : Nat)]
theorem toP_mv (m : Nat × Nat) : toP (mvD m) = some (mvP m) := by simp [mvD, mvP, toP, toPs]
theorem toPs_mv : ∀ ms : List (Nat × Nat), toPs (ms.map mvD) = some (ms.map mvP)
  | [] => by simp [toPs]
  | m :: ms => by
    rw [List.map_cons, toPs, toP_mv, toPs_mv ms]; rfl
theorem dp_mv (m : Nat × Nat) : (mvP m).depth = 1 := by simp [mvP, PyData.depth, PyData.depthAll]
theorem dps_mv : ∀ ms : List (Nat × Nat), PyData.depthAll (ms.map mvP) ≤ 1
  | [] => by simp [PyData.depthAll]
  | m :: ms => by rw [List.map_cons, PyData.depthAll, dp_mv]; have := dps_mv ms; omega
theorem ne_nil (ms : List (Nat × Nat)) : neO (.lst (ms.map mvD)) (.lst []) = some (.bl (!ms.isEmpty)) := by
  unfold neO eqB
  simp only [toP, toPs_mv, toPs, Option.map_some]
  have h := dps_mv ms
  rw [if_pos ⟨by rw [PyData.depth]; omega, by simp [PyData.depth, PyData.depthAll]⟩]
  cases ms with
  | nil => simp [PyData.eqv, PyData.eqvAll]
  | cons m ms => simp [PyData.eqv, PyData.eqvAll]
theorem wr_wh (R : PR sg ps) (F : Nat) : ∀ (w : RwL) (found : List D), code w < F → w.length ≤ 1000 → found.length + code w < 1000000 → whL wrC wrB F [.s (psD ps), .s (tD w), .o (.lst found), .s (.lst ((moves ps w).map mvD))] = some (.nx [.s (psD ps), .s (tD (nf ps w)), .o (.lst (found ++ mvs (rd ps w))), .s (.lst [])]) := by
  induction F with
  | zero => intro w found h; omega
  | succ F ih =>
    intro w found hc hw hf
    cases e : least ps w with
    | none =>
      have em : moves ps w = [] := by
        unfold least at e
        cases h : moves ps w with
        | nil => rfl
        | cons m ms => rw [h] at e; cases e
      rw [(rd_none e).2, (rd_none e).1, em]
      have h0 : neO (.lst []) (.lst []) = some (.bl false) := ne_nil []
      refine whL_f (by unfold wrC mvs; walk_at "e"; rw [List.map_nil, h0]; simp)
    | some m =>
      have hm := least_mem e
      have hlt := after_code R hm
      have hl := after_len R hm
      obtain ⟨p, hp1, hp2⟩ := mv_pr R hm
      have em : ∃ ms, moves ps w = m :: ms := by
        unfold least at e
        cases h : moves ps w with
        | nil => rw [h] at e; cases e
        | cons a ms => rw [h] at e; cases e; exact ⟨ms, rfl⟩
      obtain ⟨ms, em⟩ := em
      have g0 : getD (.lst ((m :: ms).map mvD)) (.int 0) = some (mvD m) := get_lst (i := 0) rfl
      have hne := ne_nil (m :: ms)
      rw [em, (rd_some R e).2, (rd_some R e).1, whL_t (c := wrC) (b := wrB) (ρ1 := [.s (psD ps), .s (tD w), .o (.lst found), .s (.lst ((m :: ms).map mvD))]) (ρ2 := [.s (psD ps), .s (tD (after ps w m)), .o (.lst (found ++ [mvD m])), .s (.lst ((moves ps (after ps w m)).map mvD))]) (by
          unfold wrC
          walk_at "e"
          rw [hne]; rfl) (by
        unfold wrB
        walk_at "e"
        rw [g0]
        walk_at "e"
        rw [app_ok (by omega)]
        walk_at "e"
        rw [g0]
        walk_at "e"
        rw [w_after_ok hp1 hw hp2]
        walk_at "e"
        rw [w_moves_ok (by omega) R.len]; rfl)]
      rw [ih (after ps w m) (found ++ [mvD m]) (by omega) (by omega) (by rw [List.length_append, List.length_singleton]; omega)]
      unfold mvs
      simp
def wroD (ps : List Pr) (w : RwL) : D := .tup [.lst (mvs (rd ps w)), tD (nf ps w)]
theorem w_road_ok (R : PR sg ps) (hc : code w ≤ 300000) (hw : w.length ≤ 1000) : fnD 2 4 b_w_road [psD ps, tD w] = some (wroD ps w) := by
  have h := wr_wh R 1000000 w [] (by omega) hw (by simp; omega)
  rw [List.nil_append] at h
  refine fnD_rt (ρ := [.s (psD ps), .s (tD (nf ps w)), .s (.lst (mvs (rd ps w))), .s (.lst [])]) rfl ?_
  show b_w_road [.s (psD ps), .s (tD w), .u, .u] = _
  refine sSeq_of (ρ1 := [.s (psD ps), .s (tD w), .o (.lst []), .s (.lst ((moves ps w).map mvD))]) (by walk_at "e"; rw [w_moves_ok hw R.len]; rfl) (sSeq_of h ?_)
  unfold wroD
  walk_at "e"
end
end K60
set_option autoImplicit false
namespace K60
open PySem PySem.Spec PyProof.Rows L2 AR VS VS.Rw
def fstD : D → D
  | .tup (x :: _) => x
  | d => d
theorem mkL_ok {xs : List D} (h : xs.length < 1000000) : mkL xs = some (.lst xs) := by
  have hb := big6
  unfold mkL
  rw [if_pos (by omega)]
theorem cutL_to {α : Type} (xs : List α) (j : Nat) : cutL xs none (some (j : Int)) = xs.take j := by
  unfold cutL
  rw [HT.sIx_none, HT.sIx_nat, List.drop_zero, Nat.sub_zero]
  by_cases h2 : j ≤ xs.length
  · rw [Nat.min_eq_left h2]
  · rw [Nat.min_eq_right (by omega), List.take_of_length_le (Nat.le_refl _), List.take_of_length_le (by omega)]
theorem cutL_from {α : Type} (xs : List α) (i : Nat) : cutL xs (some (i : Int)) none = xs.drop i := by
  unfold cutL
  rw [HT.sIx_none, HT.sIx_nat]
  by_cases h : i ≤ xs.length
  · rw [Nat.min_eq_left h, List.take_of_length_le (by simp)]
  · rw [List.drop_eq_nil_of_le (by omega : xs.length ≤ i), List.drop_eq_nil_of_le (by omega)]
    simp
theorem slTo_t (xs : List D) (j : Nat) : slD (.tup xs) none (some (j : Int)) = some (.tup (xs.take j)) := by show some (D.tup (cutL xs _ _)) = _; rw [cutL_to]
theorem slFrom_t (xs : List D) (j : Nat) : slD (.tup xs) (some (j : Int)) none = some (.tup (xs.drop j)) := by show some (D.tup (cutL xs _ _)) = _; rw [cutL_from]
theorem slTo_l (xs : List D) (j : Nat) : slD (.lst xs) none (some (j : Int)) = some (.lst (xs.take j)) := by show some (D.lst (cutL xs _ _)) = _; rw [cutL_to]
theorem slFrom_l (xs : List D) (j : Nat) : slD (.lst xs) (some (j : Int)) none = some (.lst (xs.drop j)) := by show some (D.lst (cutL xs _ _)) = _; rw [cutL_from]
theorem add_t {xs ys : List D} (h : xs.length + ys.length ≤ 1000000) : addO (.tup xs) (.tup ys) = some (.tup (xs ++ ys)) := by
  have hb := big6
  show (if _ then _ else _) = _
  rw [if_pos (by omega)]
section
variable {sg : List Nat} {ps : List Pr}
theorem allO_map {α : Type} (f : α → Bool) (xs : List α) : allO (.lst (xs.map fun x => .bl (f x))) = some (.bl (xs.all f)) := by
  have h : blsOf (xs.map fun x => D.bl (f x)) = some (xs.map f) := by
    induction xs with
    | nil => rfl
    | cons x xs ih => show Option.map _ (blsOf (xs.map fun x => D.bl (f x))) = _; rw [ih]; rfl
  show Option.map _ (blsOf (xs.map fun x => D.bl (f x))) = _
  rw [h]
  show some (D.bl ((xs.map f).all id)) = _
  congr 2
  simp
theorem row_T {x : RwL} (hx : x.length ≤ 1000) : fnD 2 3 b_is_row_of [tD x, tD sg] = some (.bl (x.all fun c => decide (c ∈ sg))) := by
  have hb := big6
  refine fnD_rt (ρ := [.s (tD x), .s (tD sg), .u]) rfl ?_
  show b_is_row_of [.s (tD x), .s (tD sg), .u] = _
  unfold b_is_row_of
  have hl : fLC [2] (iS (fN 0)) (gN 2) cYes (fB inO (fN 2) (pN 1)) [.s (tD x), .s (tD sg), .u] = some (.lst (x.map fun c => .bl (decide (c ∈ sg))), [.s (tD x), .s (tD sg), .u]) := by
    refine Eq.trans (fLC_map (E0 := [.s (tD x), .s (tD sg), .u]) (xs := chs x) (fun d => match d with | .str s => .bl (decide (s.cps.toList.headD 0 ∈ sg)) | _ => d) (iS_of (x := tD x) rfl (congrArg some (chD_T x))) rfl (by unfold chs; rw [List.length_map]; omega) fun d hd => ?_) ?_
    · unfold chs at hd
      obtain ⟨c, hc, rfl⟩ := List.mem_map.mp hd
      refine ⟨[.s (tD x), .s (tD sg), .s (tD [c])], [.s (tD x), .s (tD sg), .s (tD [c])], rfl, ?_, rfl⟩
      walk_at "e"
      rw [in_T]
      rfl
    · unfold chs
      rw [List.map_map]
      rfl
  walk_at "e"
  rw [hl]
  walk_at "e"
  rw [allO_map]
  walk_at "e"
end
end K60
set_option autoImplicit false
namespace K60
open PySem PySem.Spec PyProof.Rows L2 AR VS VS.Rw
/-! the drawing -/
def B3 (c : BoxC) : Prop := ∃ x y z : Int, c = .nums [x, y, z]
theorem mod_of {x n : Int} (h : 0 < n) : modO (.int x) (.int n) = some (.int (x % n)) := by show (if _ then _ else _) = _; rw [if_pos h]
theorem fdiv_of {x n : Int} (h : 0 < n) (h2 : n < 1073741824) : fdivO (.int x) (.int n) = some (.int (x / n)) := by show (if _ then _ else _) = _; rw [if_pos ⟨h, h2⟩]
theorem mul_r {x n : Int} (h : 0 ≤ n) (h2 : n < 18446744073709551616) : mulO (.int x) (.int n) = some (.int (x * n)) := by show (if _ then _ else _) = _; rw [if_pos (.inr ⟨by omega, h2⟩)]
theorem mul_l {x n : Int} (h : 0 ≤ n) (h2 : n < 18446744073709551616) : mulO (.int n) (.int x) = some (.int (n * x)) := by show (if _ then _ else _) = _; rw [if_pos (.inl ⟨by omega, h2⟩)]
theorem int_of (i : Int) : intO (.int i) = some (.int i) := rfl
theorem gtI (i j : Int) : gtO (.int i) (.int j) = some (.bl (decide (j < i))) := rfl
theorem put0 (x y z v : Int) : updX (.box true (.nums [x, y, z])) 0 (.int v) = some (.box true (.nums [v, y, z])) := rfl
theorem put1 (x y z v : Int) : updX (.box true (.nums [x, y, z])) 1 (.int v) = some (.box true (.nums [x, v, z])) := rfl
theorem put2 (x y z v : Int) : updX (.box true (.nums [x, y, z])) 2 (.int v) = some (.box true (.nums [x, y, v])) := rfl
theorem bx0 (x y z : Int) (ρ : En) : fBx 0 0 (.o (.box true (.nums [x, y, z])) :: ρ) = some (.int x, .o (.box true (.nums [x, y, z])) :: ρ) := rfl
theorem bx1 (x y z : Int) (ρ : En) : fBx 0 1 (.o (.box true (.nums [x, y, z])) :: ρ) = some (.int y, .o (.box true (.nums [x, y, z])) :: ρ) := rfl
theorem bx2 (x y z : Int) (ρ : En) : fBx 0 2 (.o (.box true (.nums [x, y, z])) :: ρ) = some (.int z, .o (.box true (.nums [x, y, z])) :: ρ) := rfl
local macro_rules | `(tactic| walk_at "ww") => `(tactic| repeat (first | walk_at "e" | simp -implicitDefEqProofs only [Ev.addI, bx0, bx1, bx2, put0, put1, put2]))
theorem take_i {x y z n : Int} (h0 : 0 < n) (h1 : n < 1073741824) : ∃ (v : Int) (c' : BoxC), 0 ≤ v ∧ v < n ∧ B3 c' ∧ fnB 1 4 b_w_take (.nums [x, y, z]) [.int n] = some (.int v, c') := by
  by_cases hx : 0 < x
  · refine ⟨x % n, .nums [x / n, y, z], Int.emod_nonneg _ (by omega), Int.emod_lt_of_pos _ h0, ⟨_, _, _, rfl⟩, ?_⟩
    refine fnB_rt (ρ := [.o (.box true (.nums [x / n, y, z])), .s (.int n), .s (.int (x % n)), .u]) rfl ?_ rfl rfl
    show b_w_take [.o (.box true (.nums [x, y, z])), .s (.int n), .u, .u] = _
    unfold b_w_take
    refine sSeq_rt ?_
    walk_at "ww"
    rw [decide_eq_true hx]
    walk_at "ww"
    rw [mod_of h0]
    walk_at "ww"
    rw [fdiv_of h0 h1]
    walk_at "ww"
  · let near : Int := (y + 96737 * (z + 1)) * 69403 % 2147483647
    let b1 : Int := (near * 47599 + 27109) % 2147483629 + 1
    refine ⟨(near * 2147483647 + b1) / 8191 % n, .nums [x, b1, z + 1], Int.emod_nonneg _ (by omega), Int.emod_lt_of_pos _ h0, ⟨_, _, _, rfl⟩, ?_⟩
    refine fnB_rt (ρ := [.o (.box true (.nums [x, b1, z + 1])), .s (.int n), .u, .s (.int near)]) rfl ?_ rfl rfl
    show b_w_take [.o (.box true (.nums [x, y, z])), .s (.int n), .u, .u] = _
    unfold b_w_take
    refine sSeq_of (ρ1 := [.o (.box true (.nums [x, y, z])), .s (.int n), .u, .u]) ?_ (sSeq_of (ρ1 := [.o (.box true (.nums [x, y, z + 1])), .s (.int n), .u, .u]) ?_ (sSeq_of (ρ1 := [.o (.box true (.nums [x, y, z + 1])), .s (.int n), .u, .s (.int near)]) ?_ (sSeq_of (ρ1 := [.o (.box true (.nums [x, b1, z + 1])), .s (.int n), .u, .s (.int near)]) ?_ ?_)))
    · walk_at "ww"
      rw [decide_eq_false hx]
      walk_at "ww"
    · walk_at "ww"
    · walk_at "ww"
      rw [mul_l (by omega) (by omega)]
      walk_at "ww"
      rw [mul_r (by omega) (by omega)]
      walk_at "ww"
      rw [mod_of (by omega)]
      walk_at "ww"
      rfl
    · walk_at "ww"
      rw [mul_r (by omega) (by omega)]
      walk_at "ww"
      rw [mod_of (by omega)]
      walk_at "ww"
      rfl
    · walk_at "ww"
      rw [mul_r (by omega) (by omega)]
      walk_at "ww"
      rw [fdiv_of (by omega) (by omega)]
      walk_at "ww"
      rw [mod_of h0]
      walk_at "ww"
theorem take_ok {c : BoxC} (hc : B3 c) {n : Nat} (h0 : 0 < n) (h1 : n ≤ 1000000) : ∃ (v : Nat) (c' : BoxC), v < n ∧ B3 c' ∧ fnB 1 4 b_w_take c [.int (n : Nat)] = some (.int (v : Nat), c') := by
  obtain ⟨x, y, z, rfl⟩ := hc
  obtain ⟨v, c', h2, h3, h4, h5⟩ := take_i (x := x) (y := y) (z := z) (n := (n : Nat)) (by omega) (by omega)
  obtain ⟨k, rfl⟩ := Int.eq_ofNat_of_zero_le h2
  exact ⟨k, c', by omega, h4, h5⟩
theorem get_str {w : RwL} {i : Nat} {ch : Nat} (h : w[i]? = some ch) : getD (tD w) (.int (i : Nat)) = some (tD [ch]) := by
  show (atI (T w).cps.toList ((i : Nat) : Int)).map (fun c => D.str ⟨#[c]⟩) = _
  rw [T_tl]
  have hl := (List.getElem?_eq_some_iff.mp h).1
  unfold atI ixN
  rw [if_pos (by omega), if_pos (by omega)]
  show Option.map _ (w[((i : Nat) : Int).toNat]?) = _
  rw [Int.toNat_natCast, h]; rfl
theorem pick_s {c : BoxC} (hc : B3 c) {sg : RwL} (h0 : sg ≠ []) (h1 : sg.length ≤ 1000) : ∃ (ch : Nat) (c' : BoxC), ch ∈ sg ∧ B3 c' ∧ fnB 1 2 b_w_pick c [tD sg] = some (tD [ch], c') := by
  obtain ⟨v, c', h2, h3, h4⟩ := take_ok hc (n := sg.length) (List.length_pos_iff.mpr h0) (by omega)
  obtain ⟨ch, hch⟩ : ∃ ch, sg[v]? = some ch := ⟨_, List.getElem?_eq_getElem h2⟩
  refine ⟨ch, c', List.mem_of_getElem? hch, h3, ?_⟩
  refine fnB_rt (ρ := [.o (.box true c'), .s (tD sg)]) rfl ?_ rfl (by obtain ⟨_, _, _, rfl⟩ := hc; obtain ⟨_, _, _, rfl⟩ := h3; rfl)
  show b_w_pick [.o (.box true c), .s (tD sg)] = _
  have hca : fCaB (fnB 1 4 b_w_take) 0 (aC (fU lenD (pN 1)) aN) [.o (.box true c), .s (tD sg)] = some (.int (v : Nat), [.o (.box true c'), .s (tD sg)]) := fCaB_of (p := true) (c := c) (ρ1 := [.o (.box true c), .s (tD sg)]) rfl (aC_of (fU_of (x := tD sg) rfl (len_T sg)) rfl) rfl h4
  unfold b_w_pick
  walk_at "e"
  rw [hca]
  walk_at "e"
  rw [get_str hch]
  walk_at "e"
theorem pick_l {c : BoxC} (hc : B3 c) {xs : List D} (h0 : xs ≠ []) (h1 : xs.length ≤ 1000) : ∃ (d : D) (c' : BoxC), d ∈ xs ∧ B3 c' ∧ fnB 1 2 b_w_pick c [.lst xs] = some (d, c') := by
  obtain ⟨v, c', h2, h3, h4⟩ := take_ok hc (n := xs.length) (List.length_pos_iff.mpr h0) (by omega)
  obtain ⟨ch, hch⟩ : ∃ ch, xs[v]? = some ch := ⟨_, List.getElem?_eq_getElem h2⟩
  refine ⟨ch, c', List.mem_of_getElem? hch, h3, ?_⟩
  refine fnB_rt (ρ := [.o (.box true c'), .s (.lst xs)]) rfl ?_ rfl (by obtain ⟨_, _, _, rfl⟩ := hc; obtain ⟨_, _, _, rfl⟩ := h3; rfl)
  show b_w_pick [.o (.box true c), .s (.lst xs)] = _
  have hca : fCaB (fnB 1 4 b_w_take) 0 (aC (fU lenD (pN 1)) aN) [.o (.box true c), .s (.lst xs)] = some (.int (v : Nat), [.o (.box true c'), .s (.lst xs)]) := fCaB_of (p := true) (c := c) (ρ1 := [.o (.box true c), .s (.lst xs)]) rfl (aC_of (fU_of (x := .lst xs) rfl rfl) rfl) rfl h4
  unfold b_w_pick
  walk_at "e"
  rw [hca]
  walk_at "e"
  rw [get_lst hch]
  walk_at "e"
def sgs : List (List Nat) := [[97, 98], [97, 98], [97, 98, 99], [97], [120, 122]]
theorem signs_ok {c : BoxC} (hc : B3 c) : ∃ (sg : List Nat) (c' : BoxC), sg ∈ sgs ∧ B3 c' ∧ fnB 0 1 b_w_signs c [] = some (tD sg, c') := by
  have e : ([.str "ab", .str "ab", .str "abc", .str "a", .str "xz"] : List D) = sgs.map tD := rfl
  obtain ⟨d, c', h1, h2, h3⟩ := pick_l hc (xs := sgs.map tD) (by decide) (by decide)
  obtain ⟨sg, hs, rfl⟩ := List.mem_map.mp h1
  refine ⟨sg, c', hs, h2, ?_⟩
  refine fnB_rt (ρ := [.o (.box true c')]) rfl ?_ rfl (by obtain ⟨_, _, _, rfl⟩ := hc; obtain ⟨_, _, _, rfl⟩ := h2; rfl)
  exact sRt_of (fCaB_of (p := true) (c := c) (ρ1 := [.o (.box true c)]) (ds := [.lst (sgs.map tD)]) rfl rfl rfl h3)
section
variable {sg : List Nat}
theorem flat_len {rs : List RwL} (h : ∀ r ∈ rs, r.length = 1) : rs.flatten.length = rs.length ∧ (rs.map List.length).sum = rs.length := by
  induction rs with
  | nil => exact ⟨rfl, rfl⟩
  | cons r rs ih =>
    obtain ⟨h1, h2⟩ := ih fun x hx => h x (List.mem_cons_of_mem _ hx)
    have := h r List.mem_cons_self
    simp only [List.flatten_cons, List.length_append, List.map_cons, List.sum_cons, List.length_cons]
    omega
theorem one_all : ∀ {ds : List D}, (∀ d ∈ ds, ∃ ch ∈ sg, d = tD [ch]) → ∃ w : RwL, (∀ ch ∈ w, ch ∈ sg) ∧ ds = (w.map fun ch => [ch]).map tD
  | [], _ => ⟨[], (fun _ z => by cases z), rfl⟩
  | d :: ds, h => by
    obtain ⟨ch, hc, rfl⟩ := h d List.mem_cons_self
    obtain ⟨w, h1, h2⟩ := one_all (ds := ds) fun x hx => h x (List.mem_cons_of_mem _ hx)
    refine ⟨ch :: w, fun x hx => ?_, by rw [h2]; rfl⟩
    rcases List.mem_cons.mp hx with rfl | hx
    · exact hc
    · exact h1 x hx
theorem row_ok {c : BoxC} (hc : B3 c) (h0 : sg ≠ []) (h1 : sg.length ≤ 1000) {n : Nat} (hn : n ≤ 1000) : ∃ (w : RwL) (c' : BoxC), (∀ ch ∈ w, ch ∈ sg) ∧ w.length ≤ n ∧ B3 c' ∧ fnB 2 4 b_w_row c [tD sg, .int (n : Nat)] = some (tD w, c') := by
  have hb := big6
  obtain ⟨v, c1, h2, h3, h4⟩ := take_ok hc (n := n + 1) (by omega) (by omega)
  have hca : fCaB (fnB 1 4 b_w_take) 0 (aC (fB addO (fN 2) (fC (.int 1))) aN) [.o (.box true c), .s (tD sg), .s (.int (n : Nat)), .u] = some (.int (v : Nat), [.o (.box true c1), .s (tD sg), .s (.int (n : Nat)), .u]) := fCaB_of (p := true) (c := c) (ρ1 := [.o (.box true c), .s (tD sg), .s (.int (n : Nat)), .u]) rfl (aC_of (fB_of rfl rfl (show addO (.int (n : Nat)) (.int 1) = some (.int ((n + 1 : Nat) : Int)) from rfl)) rfl) rfl h4
  have hi : iR1 (aC (fCaB (fnB 1 4 b_w_take) 0 (aC (fB addO (fN 2) (fC (.int 1))) aN)) aN) [.o (.box true c), .s (tD sg), .s (.int (n : Nat)), .u] = some (rng 0 v, [.o (.box true c1), .s (tD sg), .s (.int (n : Nat)), .u]) := iR1_nat (aC_of hca rfl) (by omega)
  obtain ⟨ds, E, k1, k2, k3, c2, k4, k5⟩ := fLC_inv (us := [3]) (fg := gN 3) (fe := fCaB (fnB 1 2 b_w_pick) 0 (aC (fN 1) aN)) (fun E => ∃ c2, B3 c2 ∧ E = [.o (.box true c2), .s (tD sg), .s (.int (n : Nat)), .u]) (fun d => ∃ ch ∈ sg, d = tD [ch]) hi ⟨c1, h3, rfl⟩ (by unfold rng; rw [List.length_map, List.length_range']; omega) (fun x hx E hE => by
    obtain ⟨c2, k1, rfl⟩ := hE
    obtain ⟨ch, c3, k2, k3, k4⟩ := pick_s k1 h0 h1
    exact ⟨[.o (.box true c2), .s (tD sg), .s (.int (n : Nat)), .s x], tD [ch], _, rfl, fCaB_of (p := true) (c := c2) (ρ1 := [.o (.box true c2), .s (tD sg), .s (.int (n : Nat)), .s x]) rfl (aC_of (x := tD sg) rfl rfl) rfl k4, ⟨ch, k2, rfl⟩, c3, k3, rfl⟩)
  subst k5
  obtain ⟨w, hw, rfl⟩ := one_all k3
  have hlen : w.length = v := by
    simpa [rng] using k2
  have hfl := flat_len (rs := w.map fun ch => [ch]) fun r hr => by obtain ⟨ch, _, rfl⟩ := List.mem_map.mp hr; rfl
  have hflat : ∀ w : RwL, (w.map fun ch => [ch]).flatten = w := by
    intro w
    induction w with
    | nil => rfl
    | cons c w ih => rw [List.map_cons, List.flatten_cons, ih]; rfl
  refine ⟨w, c2, hw, by omega, k4, ?_⟩
  refine fnB_rt (ρ := [.o (.box true c2), .s (tD sg), .s (.int (n : Nat)), .u]) rfl ?_ rfl (by obtain ⟨_, _, _, rfl⟩ := hc; obtain ⟨_, _, _, rfl⟩ := k4; rfl)
  refine sRt_of (fB_of (ρ1 := [.o (.box true c), .s (tD sg), .s (.int (n : Nat)), .u]) rfl k1 ?_)
  rw [join_T (by rw [hfl.2, List.length_map]; omega), hflat]
end
end K60
set_option autoImplicit false
namespace K60
open PySem PySem.Spec PyProof.Rows L2 AR VS VS.Rw
theorem sSeqN_of {a b : FS} {ρ ρ1 : En} {o : Option Out} (h : a ρ = some (.nx ρ1)) (h2 : b ρ1 = o) : sSeqN a b ρ = o := by unfold sSeqN; rw [h]; exact h2
theorem abs_of (v : Int) : absO (.int v) = some (.int (if v < 0 then -v else v)) := rfl
theorem geI (i j : Int) : geO (.int i) (.int j) = some (.bl (decide (j ≤ i))) := rfl
theorem ltI (i j : Int) : ltO (.int i) (.int j) = some (.bl (decide (i < j))) := rfl
theorem gtI' (i j : Int) : gtO (.int i) (.int j) = some (.bl (decide (j < i))) := rfl
theorem pow18 : powO (.int 10) (.int 18) = some (.int (10 ^ 18)) := by
  show (if (0 : Int) ≤ 18 ∧ (18 : Int) ≤ 1000000 ∧ (10 : Int).natAbs < 2 ^ 64 then some (D.int ((10 : Int) ^ (18 : Int).toNat)) else none) = _
  rw [if_pos ⟨by decide, by decide, by decide⟩]; rfl
theorem box_ok (ns : List Int) (k : Nat) : ∃ c, B3 c ∧ fnNB 2 4 b_w_box [.lst (ns.map D.int), .int (k : Nat)] = some c := by
  have hs : ∃ (a b : Int) (ρ : En), b_w_box [.s (.lst (ns.map D.int)), .s (.int (k : Nat)), .u, .u] = some (.rt (.lst [.int a, .int b, .int 0]) ρ) := by
    have h1 : (sSet 2 (fB addO (fB mulO (fC (.int 5281)) (fN 1)) (fC (.int 97)))) [.s (.lst (ns.map D.int)), .s (.int (k : Nat)), .u, .u] = some (.nx [.s (.lst (ns.map D.int)), .s (.int (k : Nat)), .s (.int (5281 * (k : Nat) + 97)), .u]) := by
      walk_at "e"
      rw [mul_l (by omega) (by omega)]
      walk_at "e"
      rw [Ev.addI]
      walk_at "e"
    have h2 : ∃ G : Int, (sIf (tF blD (fB ltO (fN 1) (fU lenD (pN 0)))) (sSet 2 (fU absO (fU intO (fB getD (fN 0) (fN 1))))) (sIf (tF blD (fB gtO (fU lenD (pN 0)) (fC (.int 0)))) (sSet 2 (fB addO (fN 2) (fB mulO (fB modO (fU intO (fB getD (fN 0) (fB modO (fU intO (fN 1)) (fU lenD (pN 0))))) (fC (.int 2147483629))) (fC (.int 80891))))) sNx)) [.s (.lst (ns.map D.int)), .s (.int (k : Nat)), .s (.int (5281 * (k : Nat) + 97)), .u] = some (.nx [.s (.lst (ns.map D.int)), .s (.int (k : Nat)), .s (.int G), .u]) := by
      by_cases hk : k < ns.length
      · obtain ⟨v, hv⟩ : ∃ v, ns[k]? = some v := ⟨_, List.getElem?_eq_getElem hk⟩
        have hg : getD (.lst (ns.map D.int)) (.int (k : Nat)) = some (.int v) := get_lst (by rw [List.getElem?_map, hv]; rfl)
        refine ⟨if v < 0 then -v else v, ?_⟩
        walk_at "e"
        simp only [List.length_map]
        rw [decide_eq_true (show (k : Int) < (ns.length : Nat) by omega)]
        walk_at "e"
        rw [hg]
        walk_at "e"
      · by_cases h0 : 0 < ns.length
        · have hlt : k % ns.length < ns.length := Nat.mod_lt _ h0
          obtain ⟨v, hv⟩ : ∃ v, ns[k % ns.length]? = some v := ⟨_, List.getElem?_eq_getElem hlt⟩
          have hg : getD (.lst (ns.map D.int)) (.int ((k : Int) % (ns.length : Nat))) = some (.int v) := by
            have e : ((k : Int) % (ns.length : Nat)) = ((k % ns.length : Nat) : Int) := by omega
            rw [e]
            exact get_lst (by rw [List.getElem?_map, hv]; rfl)
          refine ⟨5281 * (k : Nat) + 97 + v % 2147483629 * 80891, ?_⟩
          walk_at "e"
          try simp only [List.length_map]
          rw [decide_eq_false (show ¬ (k : Int) < (ns.length : Nat) by omega)]
          walk_at "e"
          try simp only [List.length_map]
          rw [decide_eq_true (show (0 : Int) < (ns.length : Nat) by omega)]
          walk_at "e"
          try simp only [List.length_map]
          rw [mod_of (by omega)]
          walk_at "e"
          rw [hg]
          walk_at "e"
          rw [mod_of (by omega)]
          walk_at "e"
          rw [mul_r (by omega) (by omega)]
          walk_at "e"
          rw [Ev.addI]
          walk_at "e"
        · refine ⟨5281 * (k : Nat) + 97, ?_⟩
          walk_at "e"
          try simp only [List.length_map]
          rw [decide_eq_false (show ¬ (k : Int) < (ns.length : Nat) by omega)]
          walk_at "e"
          try simp only [List.length_map]
          rw [decide_eq_false (show ¬ (0 : Int) < (ns.length : Nat) by omega)]
          walk_at "e"
    obtain ⟨G, h2⟩ := h2
    have h3 : ∃ S : Int, (sSet 3 (fB addO (fB modO (fU intO (fB addO (fB addO (fB mulO (fB modO (fU intO (fN 2)) (fC (.int 2147483629))) (fC (.int 46589))) (fB mulO (fC (.int 38767)) (fN 1))) (fC (.int 23)))) (fC (.int 2147483629))) (fC (.int 1)))) [.s (.lst (ns.map D.int)), .s (.int (k : Nat)), .s (.int G), .u] = some (.nx [.s (.lst (ns.map D.int)), .s (.int (k : Nat)), .s (.int G), .s (.int S)]) := by
      refine ⟨(G % 2147483629 * 46589 + 38767 * (k : Nat) + 23) % 2147483629 + 1, ?_⟩
      walk_at "e"
      rw [mod_of (by omega)]
      walk_at "e"
      rw [mul_r (by omega) (by omega)]
      walk_at "e"
      rw [mul_l (by omega) (by omega)]
      walk_at "e"
      rw [Ev.addI]
      walk_at "e"
      rw [Ev.addI]
      walk_at "e"
      rw [mod_of (by omega)]
      walk_at "e"
      rw [Ev.addI]
      walk_at "e"
    obtain ⟨S, h3⟩ := h3
    have h4 : ∃ a : Int, (sRt (fAp mkL (aC (fB getD (fAp mkL (aC (fC (.int 0)) (aC (fN 2) aN))) (fU intO (fB geO (fN 2) (fB powO (fC (.int 10)) (fC (.int 18)))))) (aC (fN 3) (aC (fC (.int 0)) aN))))) [.s (.lst (ns.map D.int)), .s (.int (k : Nat)), .s (.int G), .s (.int S)] = some (.rt (.lst [.int a, .int S, .int 0]) [.s (.lst (ns.map D.int)), .s (.int (k : Nat)), .s (.int G), .s (.int S)]) := by
      by_cases hG : (10 ^ 18 : Int) ≤ G
      · refine ⟨G, ?_⟩
        walk_at "e"
        rw [pow18]
        walk_at "e"
        rw [decide_eq_true hG]
        rfl
      · refine ⟨0, ?_⟩
        walk_at "e"
        rw [pow18]
        walk_at "e"
        rw [decide_eq_false hG]
        rfl
    obtain ⟨a, h4⟩ := h4
    exact ⟨a, S, _, sSeqN_of h1 (sSeqN_of h2 (sSeqN_of h3 h4))⟩
  obtain ⟨a, b, ρ, h⟩ := hs
  refine ⟨.nums [a, b, 0], ⟨_, _, _, rfl⟩, ?_⟩
  have h' : b_w_box (startE 4 [.lst (ns.map D.int), .int (k : Nat)]) = some (.rt (.lst [.int a, .int b, .int 0]) ρ) := h
  unfold fnNB
  rw [if_pos (show ([.lst (ns.map D.int), .int (k : Nat)] : List D).length = 2 from rfl), h']
  rfl
/-! texts within texts -/
def sub (x y : RwL) : Bool := (inB (tD x) (tD y)).getD false
theorem in_sub (x y : RwL) : inO (tD x) (tD y) = some (.bl (sub x y)) := by
  unfold sub inO
  have : ∃ b, inB (tD x) (tD y) = some b := ⟨_, rfl⟩
  obtain ⟨b, hb⟩ := this
  rw [hb]; rfl
def Apart (ps : List Pr) : Prop := ps.Pairwise fun p q => sub p.1 q.1 = false ∧ sub q.1 p.1 = false
/-- pairs as they are drawn -/
structure PW (sg : List Nat) (n : Nat) (ps : List Pr) : Prop where
  sl : ∀ p ∈ ps, ∀ c ∈ p.1, c ∈ sg
  sr : ∀ p ∈ ps, ∀ c ∈ p.2, c ∈ sg
  rk : ∀ p ∈ ps, rankLt p.2 p.1 = true
  len : ps.length ≤ n
  ll : ∀ p ∈ ps, p.1.length ≤ 4
  lr : ∀ p ∈ ps, p.2.length ≤ 4
  ap : Apart ps
theorem PW.pr {sg : List Nat} {n : Nat} {ps : List Pr} (h : PW sg n ps) (hs : Mono sg) (hn : n ≤ 20) : PR sg ps :=
  ⟨hs, h.sl, h.sr, h.rk, Nat.le_trans h.len hn, fun p hp => Nat.le_trans (h.ll p hp) (by omega), fun p hp => Nat.le_trans (h.lr p hp) (by omega)⟩
theorem lt_rank (a b : RwL) : ltTO (.tup [.int (a.length : Nat), tD a]) (.tup [.int (b.length : Nat), tD b]) = some (.bl (rankLt a b)) := by
  show some (D.bl (ltIS _ (T a) _ (T b))) = _
  unfold ltIS rankLt
  rw [T_tl, T_tl]
  by_cases h : a.length = b.length
  · rw [if_pos (by omega), if_pos h]
  · rw [if_neg (by omega), if_neg h]
    congr 2
    rw [decide_eq_decide]; omega
theorem w_rank_ok (a : RwL) : fnD 1 1 b_w_rank [tD a] = some (.tup [.int (a.length : Nat), tD a]) := by
  refine fnD_rt (ρ := [.s (tD a)]) rfl ?_
  show b_w_rank [.s (tD a)] = _
  unfold b_w_rank
  walk_at "e"
theorem rank_ok (a : RwL) : fnD 1 1 b_rank [tD a] = some (.tup [.int (a.length : Nat), tD a]) := by
  refine fnD_rt (ρ := [.s (tD a)]) rfl ?_
  show b_rank [.s (tD a)] = _
  unfold b_rank
  walk_at "e"
end K60
set_option autoImplicit false
namespace K60
open PySem PySem.Spec PyProof.Rows L2 AR VS VS.Rw
section
variable {sg : List Nat}
def wpN : FS := (sIf (tF blD (fB ltTO (fAp (fnD 1 1 b_w_rank) (aC (fN 6) aN)) (fAp (fnD 1 1 b_w_rank) (aC (fN 5) aN)))) (sSeq (sSet 7 (fLC [8, 9] (iS (fN 3)) (gTu 2 (gCo (gN 8) (gCo (gN 9) gNi))) (cOr (tF blD (fB inO (fN 8) (pN 5))) (tF blD (fB inO (fN 5) (pN 8)))) (fN 8)))
      (sSet 3 (fB catO (fN 3) (fIf (tF blD (fB eqO (fN 7) (fAp mkL aN))) (fAp mkL (aC (fAp mkT (aC (fN 5) (aC (fN 6) aN))) aN)) (fAp mkL aN))))) sNx)
def wpB : FS := (sSeq (sSet 5 (fB addO (fCaB (fnB 2 4 b_w_row) 0 (aC (fN 1) (aC (fC (.int 3)) aN))) (fCaB (fnB 1 2 b_w_pick) 0 (aC (fN 1) aN))))
      (sSeq (sSet 6 (fCaB (fnB 2 4 b_w_row) 0 (aC (fN 1) (aC (fU lenD (pN 5)) aN)))) wpN))
def EP (c : BoxC) (sg : RwL) (n : Nat) (ps : List Pr) (v4 v5 v6 v7 : Sl) : En := [.o (.box true c), .s (tD sg), .s (.int (n : Nat)), .s (psD ps), v4, v5, v6, v7, .u, .u]
theorem near_lc {c : BoxC} {n : Nat} {ps : List Pr} {v4 v6 v7 : Sl} {l : RwL} (hp : ps.length ≤ 1000) :
    fLC [8, 9] (iS (fN 3)) (gTu 2 (gCo (gN 8) (gCo (gN 9) gNi))) (cOr (tF blD (fB inO (fN 8) (pN 5))) (tF blD (fB inO (fN 5) (pN 8)))) (fN 8) (EP c sg n ps v4 (.s (tD l)) v6 v7) = some (.lst (((ps.filter fun p => sub p.1 l || sub l p.1).map (·.1)).map tD), EP c sg n ps v4 (.s (tD l)) v6 v7) := by
  have hb := big6
  let b : D → Bool := fun d => match d with
    | .tup [.str x, _] => sub x.cps.toList l || sub l x.cps.toList
    | _ => false
  let g : D → D := fun d => match d with
    | .tup [x, _] => x
    | d => d
  refine (fLC_fil (E0 := EP c sg n ps v4 (.s (tD l)) v6 v7) (xs := ps.map prD) b g (iS_of (x := psD ps) rfl rfl) rfl (by rw [List.length_map]; omega) fun d hd => ?_).trans ?_
  · obtain ⟨p, hp', rfl⟩ := List.mem_map.mp hd
    have e : b (prD p) = (sub p.1 l || sub l p.1) := by
      show (sub (T p.1).cps.toList l || sub l (T p.1).cps.toList) = _
      rw [T_tl]
    refine ⟨[.o (.box true c), .s (tD sg), .s (.int (n : Nat)), .s (psD ps), v4, .s (tD l), v6, v7, .s (tD p.1), .s (tD p.2)], [.o (.box true c), .s (tD sg), .s (.int (n : Nat)), .s (psD ps), v4, .s (tD l), v6, v7, .s (tD p.1), .s (tD p.2)], rfl, ?_, rfl, fun _ => ⟨[.o (.box true c), .s (tD sg), .s (.int (n : Nat)), .s (psD ps), v4, .s (tD l), v6, v7, .s (tD p.1), .s (tD p.2)], rfl, rfl⟩⟩
    rw [e]
    walk_at "e"
    rw [in_sub]
    cases h1 : sub p.1 l with
    | true => rfl
    | false =>
      walk_at "e"
      rw [in_sub]
      cases h2 : sub l p.1 with
      | true => rfl
      | false => rfl
  · have e : ((ps.map prD).filter b).map g = ((ps.filter fun p => sub p.1 l || sub l p.1).map (·.1)).map tD := by
      rw [List.filter_map, List.map_map, List.map_map]
      have : (b ∘ prD) = fun p : Pr => sub p.1 l || sub l p.1 := by
        funext p
        show (sub (T p.1).cps.toList l || sub l (T p.1).cps.toList) = _
        rw [T_tl]
      rw [this]; rfl
    rw [e]
def tP (r : RwL) : PyData := .str (T r)
theorem toP_ts : ∀ rs : List RwL, toPs (rs.map tD) = some (rs.map tP)
  | [] => by simp [toPs]
  | r :: rs => by rw [List.map_cons, toPs, toP_T, toP_ts rs]; rfl
theorem dps_ts : ∀ rs : List RwL, PyData.depthAll (rs.map tP) ≤ 1
  | [] => by simp [PyData.depthAll]
  | r :: rs => by rw [List.map_cons, PyData.depthAll]; have := dps_ts rs; have : (tP r).depth = 0 := by simp [tP, PyData.depth]
                  omega
theorem eq_ts (rs : List RwL) : eqO (.lst (rs.map tD)) (.lst []) = some (.bl rs.isEmpty) := by
  unfold eqO eqB
  simp only [toP, toP_ts, toPs, Option.map_some]
  have h := dps_ts rs
  rw [if_pos ⟨by rw [PyData.depth]; omega, by simp [PyData.depth, PyData.depthAll]⟩]
  cases rs with
  | nil => simp [PyData.eqv, PyData.eqvAll]
  | cons m ms => simp [PyData.eqv, PyData.eqvAll]
theorem cat_ps (ps qs : List Pr) (h : ps.length + qs.length ≤ 1000) : catO (psD ps) (psD qs) = some (psD (ps ++ qs)) := by
  have hb := big6
  show mkL (ps.map prD ++ qs.map prD) = _
  rw [mkL_ok (by simp; omega), ← List.map_append]; rfl
theorem wp_body {c : BoxC} (hc : B3 c) (h0 : sg ≠ []) (h1 : sg.length ≤ 1000) {n k : Nat} {ps : List Pr} (hp : PW sg k ps) (hk : k ≤ 10) (v4 v5 v6 v7 : Sl) : ∃ c' ps' v5' v6' v7', B3 c' ∧ PW sg (k + 1) ps' ∧ wpB (EP c sg n ps v4 v5 v6 v7) = some (.nx (EP c' sg n ps' v4 v5' v6' v7')) := by
  obtain ⟨w, c1, a1, a2, a3, a4⟩ := row_ok hc h0 h1 (n := 3) (by omega)
  obtain ⟨ch, c2, b1, b2, b3⟩ := pick_s a3 h0 h1
  have e1 : fCaB (fnB 2 4 b_w_row) 0 (aC (fN 1) (aC (fC (.int 3)) aN)) (EP c sg n ps v4 v5 v6 v7) = some (tD w, EP c1 sg n ps v4 v5 v6 v7) := fCaB_of (p := true) (c := c) (ρ1 := EP c sg n ps v4 v5 v6 v7) (ds := [tD sg, .int (3 : Nat)]) rfl (aC_of (x := tD sg) rfl (aC_of rfl rfl)) rfl a4
  have e2 : fCaB (fnB 1 2 b_w_pick) 0 (aC (fN 1) aN) (EP c1 sg n ps v4 v5 v6 v7) = some (tD [ch], EP c2 sg n ps v4 v5 v6 v7) := fCaB_of (p := true) (c := c1) (ρ1 := EP c1 sg n ps v4 v5 v6 v7) (ds := [tD sg]) rfl (aC_of (x := tD sg) rfl rfl) rfl b3
  have s1 : sSet 5 (fB addO (fCaB (fnB 2 4 b_w_row) 0 (aC (fN 1) (aC (fC (.int 3)) aN))) (fCaB (fnB 1 2 b_w_pick) 0 (aC (fN 1) aN))) (EP c sg n ps v4 v5 v6 v7) = some (.nx (EP c2 sg n ps v4 (.s (tD (w ++ [ch]))) v6 v7)) := (sSet_of (fB_of e1 e2 (add_T (by rw [List.length_singleton]; omega)))).trans rfl
  obtain ⟨r, c3, d1, d2, d3, d4⟩ := row_ok b2 h0 h1 (n := (w ++ [ch]).length) (by rw [List.length_append, List.length_singleton]; omega)
  generalize hl : w ++ [ch] = l at s1 d2 d4
  have hll : l.length ≤ 4 := by rw [← hl, List.length_append, List.length_singleton]; omega
  have hlg : ∀ x ∈ l, x ∈ sg := by
    rw [← hl]
    intro x hx
    rcases List.mem_append.mp hx with hx | hx
    · exact a1 x hx
    · rw [List.mem_singleton.mp hx]; exact b1
  have e3 : fCaB (fnB 2 4 b_w_row) 0 (aC (fN 1) (aC (fU lenD (pN 5)) aN)) (EP c2 sg n ps v4 (.s (tD l)) v6 v7) = some (tD r, EP c3 sg n ps v4 (.s (tD l)) v6 v7) := fCaB_of (p := true) (c := c2) (ρ1 := EP c2 sg n ps v4 (.s (tD l)) v6 v7) (ds := [tD sg, .int (l.length : Nat)]) rfl (aC_of (x := tD sg) rfl (aC_of (fU_of (x := tD l) rfl (len_T l)) rfl)) rfl d4
  have s2 : sSet 6 (fCaB (fnB 2 4 b_w_row) 0 (aC (fN 1) (aC (fU lenD (pN 5)) aN))) (EP c2 sg n ps v4 (.s (tD l)) v6 v7) = some (.nx (EP c3 sg n ps v4 (.s (tD l)) (.s (tD r)) v7)) := (sSet_of e3).trans rfl
  have hmo : PW sg (k + 1) ps := { hp with len := Nat.le_succ_of_le hp.len }
  have hct : (tF blD (fB ltTO (fAp (fnD 1 1 b_w_rank) (aC (fN 6) aN)) (fAp (fnD 1 1 b_w_rank) (aC (fN 5) aN)))) (EP c3 sg n ps v4 (.s (tD l)) (.s (tD r)) v7) = some (rankLt r l, EP c3 sg n ps v4 (.s (tD l)) (.s (tD r)) v7) := by
    unfold EP
    walk_at "e"
    rw [w_rank_ok]
    walk_at "e"
    rw [w_rank_ok]
    walk_at "e"
    rw [lt_rank]
    walk_at "e"
  cases hr : rankLt r l with
  | false =>
    rw [hr] at hct
    refine ⟨c3, ps, .s (tD l), .s (tD r), v7, d3, hmo, sSeq_of s1 (sSeq_of s2 ?_)⟩
    unfold wpN sIf
    rw [hct]; rfl
  | true =>
    rw [hr] at hct
    have e4 := near_lc (c := c3) (sg := sg) (n := n) (ps := ps) (v4 := v4) (v6 := .s (tD r)) (v7 := v7) (l := l) (by have := hp.len; omega)
    generalize hns : ((ps.filter fun p => sub p.1 l || sub l p.1).map (·.1)) = ns at e4
    have s3 : sSet 7 (fLC [8, 9] (iS (fN 3)) (gTu 2 (gCo (gN 8) (gCo (gN 9) gNi))) (cOr (tF blD (fB inO (fN 8) (pN 5))) (tF blD (fB inO (fN 5) (pN 8)))) (fN 8)) (EP c3 sg n ps v4 (.s (tD l)) (.s (tD r)) v7) = some (.nx (EP c3 sg n ps v4 (.s (tD l)) (.s (tD r)) (.s (.lst (ns.map tD))))) := (sSet_of e4).trans rfl
    have hfin : ∀ qs, sSet 3 (fB catO (fN 3) (fIf (tF blD (fB eqO (fN 7) (fAp mkL aN))) (fAp mkL (aC (fAp mkT (aC (fN 5) (aC (fN 6) aN))) aN)) (fAp mkL aN))) (EP c3 sg n ps v4 (.s (tD l)) (.s (tD r)) (.s (.lst (ns.map tD)))) = some (.nx (EP c3 sg n qs v4 (.s (tD l)) (.s (tD r)) (.s (.lst (ns.map tD))))) → wpN (EP c3 sg n ps v4 (.s (tD l)) (.s (tD r)) v7) = some (.nx (EP c3 sg n qs v4 (.s (tD l)) (.s (tD r)) (.s (.lst (ns.map tD))))) := by
      intro qs h
      unfold wpN sIf
      rw [hct]
      exact sSeq_of s3 h
    cases hne : ns.isEmpty with
    | false =>
      have hcat : catO (psD ps) (.lst []) = some (psD ps) := by
        have := cat_ps ps [] (by have := hp.len; simp; omega)
        rw [List.append_nil] at this; exact this
      refine ⟨c3, ps, .s (tD l), .s (tD r), .s (.lst (ns.map tD)), d3, hmo, sSeq_of s1 (sSeq_of s2 (hfin ps ?_))⟩
      unfold EP
      walk_at "e"
      rw [eq_ts, hne]
      walk_at "e"
      rw [hcat]
      walk_at "e"
    | true =>
      have hcat : catO (psD ps) (.lst [.tup [tD l, tD r]]) = some (psD (ps ++ [(l, r)])) := cat_ps ps [(l, r)] (by have := hp.len; simp; omega)
      refine ⟨c3, ps ++ [(l, r)], .s (tD l), .s (tD r), .s (.lst (ns.map tD)), d3, ?_, sSeq_of s1 (sSeq_of s2 (hfin _ ?_))⟩
      · have hq : ∀ {P : Pr → Prop}, (∀ p ∈ ps, P p) → P (l, r) → ∀ p ∈ ps ++ [(l, r)], P p := by
          intro P h1 h2 p hp'
          rcases List.mem_append.mp hp' with h | h
          · exact h1 p h
          · rw [List.mem_singleton.mp h]; exact h2
        refine ⟨hq hp.sl hlg, hq hp.sr d1, hq hp.rk hr, by have := hp.len; simp; omega, hq hp.ll hll, hq hp.lr (Nat.le_trans d2 hll), ?_⟩
        have hno : ∀ p ∈ ps, sub p.1 l = false ∧ sub l p.1 = false := by
          intro p hp'
          have : ps.filter (fun p => sub p.1 l || sub l p.1) = [] := by
            have h' : ns = [] := List.isEmpty_iff.mp hne
            rw [← hns] at h'
            exact List.map_eq_nil_iff.mp h'
          have := List.filter_eq_nil_iff.mp this p hp'
          cases h3 : sub p.1 l <;> cases h4 : sub l p.1 <;> simp [h3, h4] at this ⊢
        refine List.pairwise_append.mpr ⟨hp.ap, List.pairwise_singleton _ _, fun p hp' q hq' => ?_⟩
        rw [List.mem_singleton.mp hq']
        exact hno p hp'
      · unfold EP
        walk_at "e"
        rw [eq_ts, hne]
        walk_at "e"
        rw [hcat]
        walk_at "e"
theorem wp_for {n : Nat} (h0 : sg ≠ []) (h1 : sg.length ≤ 1000) : ∀ (m i k : Nat) (c : BoxC) (ps : List Pr) (v4 v5 v6 v7 : Sl), B3 c → PW sg k ps → k + m ≤ 10 → ∃ c' ps' v4' v5' v6' v7', B3 c' ∧ PW sg (k + m) ps' ∧ forL (gN 4) wpB (rng i m) (EP c sg n ps v4 v5 v6 v7) = some (.nx (EP c' sg n ps' v4' v5' v6' v7'))
  | 0, i, k, c, ps, v4, v5, v6, v7, hc, hp, _ => ⟨c, ps, v4, v5, v6, v7, hc, hp, rfl⟩
  | m + 1, i, k, c, ps, v4, v5, v6, v7, hc, hp, hk => by
    obtain ⟨c1, ps1, w5, w6, w7, k1, k2, k3⟩ := wp_body hc h0 h1 (n := n) hp (by omega) (.s (.int (i : Nat))) v5 v6 v7
    obtain ⟨c2, ps2, w4, w5', w6', w7', k4, k5, k6⟩ := wp_for h0 h1 m (i + 1) (k + 1) c1 ps1 (.s (.int (i : Nat))) w5 w6 w7 k1 k2 (by omega)
    refine ⟨c2, ps2, w4, w5', w6', w7', k4, ?_, ?_⟩
    · rw [show k + (m + 1) = k + 1 + m by omega]; exact k5
    · rw [rng_succ, forL_nx (tg := gN 4) (ρ1 := EP c sg n ps (.s (.int (i : Nat))) v5 v6 v7) rfl k3]
      exact k6
theorem pairs_ok {c : BoxC} (hc : B3 c) (h0 : sg ≠ []) (h1 : sg.length ≤ 1000) {n : Nat} (hn : n ≤ 10) : ∃ (ps : List Pr) (c' : BoxC), PW sg n ps ∧ B3 c' ∧ fnB 2 10 b_w_pairs c [tD sg, .int (n : Nat)] = some (psD ps, c') := by
  have hw0 : PW sg 0 [] := ⟨(fun _ h => by cases h), (fun _ h => by cases h), (fun _ h => by cases h), Nat.le_refl _, (fun _ h => by cases h), (fun _ h => by cases h), List.Pairwise.nil⟩
  obtain ⟨c', ps, w4, w5, w6, w7, k1, k2, k3⟩ := wp_for (n := n) h0 h1 n 0 0 c [] .u .u .u .u hc hw0 (by omega)
  rw [Nat.zero_add] at k2
  refine ⟨ps, c', k2, k1, ?_⟩
  refine fnB_rt (ρ := EP c' sg n ps w4 w5 w6 w7) rfl ?_ rfl (by obtain ⟨_, _, _, rfl⟩ := hc; obtain ⟨_, _, _, rfl⟩ := k1; rfl)
  refine sSeq_of (ρ1 := EP c sg n [] .u .u .u .u) rfl (sSeq_of (ρ1 := EP c' sg n ps w4 w5 w6 w7) ?_ rfl)
  unfold sFor
  rw [iR1_nat (n := n) (ρ := EP c sg n [] .u .u .u .u) (ρ1 := EP c sg n [] .u .u .u .u) (aC_of rfl rfl) (by omega)]
  exact k3
end
end K60
set_option autoImplicit false
namespace K60
open PySem PySem.Spec PyProof.Rows L2 AR VS VS.Rw
theorem are_signs_ok {sg : List Nat} (h : sg ∈ sgs) : fnD 1 4 b_are_signs [tD sg] = some (.bl true) := by
  unfold sgs at h
  simp only [List.mem_cons, List.not_mem_nil, or_false] at h
  rcases h with rfl | rfl | rfl | rfl | rfl <;> rfl
theorem sgs_ok {sg : List Nat} (h : sg ∈ sgs) : sg ≠ [] ∧ sg.length ≤ 1000 ∧ Mono sg := by
  unfold sgs at h
  simp only [List.mem_cons, List.not_mem_nil, or_false] at h
  rcases h with rfl | rfl | rfl | rfl | rfl <;> exact ⟨by decide, by decide, by unfold Mono; decide⟩
section
variable {sg : List Nat}
theorem is_pair_ok {p : Pr} (h1 : ∀ c ∈ p.1, c ∈ sg) (h2 : ∀ c ∈ p.2, c ∈ sg) (h3 : rankLt p.2 p.1 = true) (l1 : p.1.length ≤ 1000) (l2 : p.2.length ≤ 1000) : fnD 2 2 b_is_pair [prD p, tD sg] = some (.bl true) := by
  have g0 : getD (.tup [tD p.1, tD p.2]) (.int 0) = some (tD p.1) := rfl
  have g1 : getD (.tup [tD p.1, tD p.2]) (.int 1) = some (tD p.2) := rfl
  have r1 : fnD 2 3 b_is_row_of [tD p.1, tD sg] = some (.bl true) := by
    rw [row_T l1, List.all_eq_true.mpr fun c hc => decide_eq_true (h1 c hc)]
  have r2 : fnD 2 3 b_is_row_of [tD p.2, tD sg] = some (.bl true) := by
    rw [row_T l2, List.all_eq_true.mpr fun c hc => decide_eq_true (h2 c hc)]
  refine fnD_rt (ρ := [.s (prD p), .s (tD sg)]) rfl ?_
  show b_is_pair [.s (.tup [tD p.1, tD p.2]), .s (tD sg)] = some (.rt (.bl true) [.s (.tup [tD p.1, tD p.2]), .s (tD sg)])
  unfold b_is_pair
  walk_at "e"
  simp only [show ((1 + 1 : Nat) : Int) = 2 from rfl]
  walk_at "e"
  rw [g0]
  walk_at "e"
  rw [r1]
  walk_at "e"
  rw [g1]
  walk_at "e"
  rw [r2]
  walk_at "e"
  rw [g1]
  walk_at "e"
  rw [rank_ok]
  walk_at "e"
  rw [g0]
  walk_at "e"
  rw [rank_ok]
  walk_at "e"
  rw [lt_rank, h3]
  walk_at "e"
theorem anyO_map {α : Type} (f : α → Bool) (xs : List α) : anyO (.lst (xs.map fun x => .bl (f x))) = some (.bl (xs.any f)) := by
  have h : blsOf (xs.map fun x => D.bl (f x)) = some (xs.map f) := by
    induction xs with
    | nil => rfl
    | cons x xs ih => show Option.map _ (blsOf (xs.map fun x => D.bl (f x))) = _; rw [ih]; rfl
  show Option.map _ (blsOf (xs.map fun x => D.bl (f x))) = _
  rw [h]
  show some (D.bl ((xs.map f).any id)) = _
  congr 2
  simp
def apB : FS := (sIf (tF blD (fU anyO (fLC [7] (iS (fAp mkL (aSt (fSl (fN 3) oNo (oSo (fN 6))) (aSt (fSl (fN 3) (oSo (fB addO (fN 6) (fC (.int 1)))) oNo) aN)))) (gN 7) cYes (fB inO (fN 4) (pN 7))))) (sRt (fC (.bl false))) sNx)
theorem ap_body {ls : List RwL} {i : Nat} {l : RwL} (hl : ls.length ≤ 1000) (hn : ∀ o ∈ ls.take i ++ ls.drop (i + 1), sub l o = false) {a0 a1 a2 a5 : Sl} :
    apB [a0, a1, a2, .s (.lst (ls.map tD)), .s (tD l), a5, .s (.int (i : Nat)), .u] = some (.nx [a0, a1, a2, .s (.lst (ls.map tD)), .s (tD l), a5, .s (.int (i : Nat)), .u]) := by
  have hb := big6
  have a1' : addO (.int (i : Nat)) (.int 1) = some (.int ((i + 1 : Nat) : Int)) := rfl
  have hit : iS (fAp mkL (aSt (fSl (fN 3) oNo (oSo (fN 6))) (aSt (fSl (fN 3) (oSo (fB addO (fN 6) (fC (.int 1)))) oNo) aN))) [a0, a1, a2, .s (.lst (ls.map tD)), .s (tD l), a5, .s (.int (i : Nat)), .u] = some ((ls.take i ++ ls.drop (i + 1)).map tD, [a0, a1, a2, .s (.lst (ls.map tD)), .s (tD l), a5, .s (.int (i : Nat)), .u]) := by
    refine iS_of (x := .lst ((ls.take i ++ ls.drop (i + 1)).map tD)) ?_ rfl
    walk_at "e"
    rw [slTo_l]
    walk_at "e"
    rw [a1']
    walk_at "e"
    rw [slFrom_l]
    walk_at "e"
    rw [mkL_ok (by simp; omega)]
    simp
  have hlc : fLC [7] (iS (fAp mkL (aSt (fSl (fN 3) oNo (oSo (fN 6))) (aSt (fSl (fN 3) (oSo (fB addO (fN 6) (fC (.int 1)))) oNo) aN)))) (gN 7) cYes (fB inO (fN 4) (pN 7)) [a0, a1, a2, .s (.lst (ls.map tD)), .s (tD l), a5, .s (.int (i : Nat)), .u] = some (.lst ((ls.take i ++ ls.drop (i + 1)).map fun o => .bl (sub l o)), [a0, a1, a2, .s (.lst (ls.map tD)), .s (tD l), a5, .s (.int (i : Nat)), .u]) := by
    refine (fLC_map (E0 := [a0, a1, a2, .s (.lst (ls.map tD)), .s (tD l), a5, .s (.int (i : Nat)), .u]) (fun d => match d with | .str s => .bl (sub l s.cps.toList) | _ => d) hit rfl (by simp; omega) fun d hd => ?_).trans ?_
    · obtain ⟨o, ho, rfl⟩ := List.mem_map.mp hd
      refine ⟨[a0, a1, a2, .s (.lst (ls.map tD)), .s (tD l), a5, .s (.int (i : Nat)), .s (tD o)], [a0, a1, a2, .s (.lst (ls.map tD)), .s (tD l), a5, .s (.int (i : Nat)), .s (tD o)], rfl, ?_, rfl⟩
      walk_at "e"
      rw [in_sub]
      rfl
    · rw [List.map_map]; rfl
  have hany : (ls.take i ++ ls.drop (i + 1)).any (sub l) = false := by
    rw [List.any_eq_false]
    intro o ho
    rw [hn o ho]; decide
  unfold apB
  walk_at "e"
  rw [hlc]
  walk_at "e"
  rw [anyO_map, hany]
  walk_at "e"
theorem ap_no {ps : List Pr} (h : Apart ps) {i : Nat} {p : Pr} (hp : ps[i]? = some p) : ∀ o ∈ (ps.map (·.1)).take i ++ (ps.map (·.1)).drop (i + 1), sub p.1 o = false := by
  intro o ho
  have hi := (List.getElem?_eq_some_iff.mp hp).1
  have hpe := (List.getElem?_eq_some_iff.mp hp).2
  unfold Apart at h
  rw [List.pairwise_iff_getElem] at h
  rcases List.mem_append.mp ho with ho | ho
  · obtain ⟨j, hj, rfl⟩ := List.mem_iff_getElem.mp ho
    rw [List.length_take, List.length_map] at hj
    have := (h j i (by omega) hi (by omega)).2
    rw [hpe] at this
    simpa using this
  · obtain ⟨j, hj, rfl⟩ := List.mem_iff_getElem.mp ho
    rw [List.length_drop, List.length_map] at hj
    have := (h i (i + 1 + j) hi (by omega) (by omega)).1
    rw [hpe] at this
    simpa using this
theorem ap_for {ps : List Pr} (hl : ps.length ≤ 1000) (h : Apart ps) {a0 a1 a2 a5 : Sl} : ∀ (qs : List Pr) (n : Nat) (v4 v6 : Sl), ps.drop n = qs → ∃ v4' v6', forL (gTu 2 (gCo (gN 6) (gCo (gN 4) gNi))) apB (enF n ((qs.map (·.1)).map tD)) [a0, a1, a2, .s (.lst ((ps.map (·.1)).map tD)), v4, a5, v6, .u] = some (.nx [a0, a1, a2, .s (.lst ((ps.map (·.1)).map tD)), v4', a5, v6', .u])
  | [], n, v4, v6, _ => ⟨v4, v6, rfl⟩
  | q :: qs, n, v4, v6, hd => by
    have hq : ps[n]? = some q := by
      have : (ps.drop n)[0]? = some q := by rw [hd]; rfl
      rw [List.getElem?_drop] at this
      simpa using this
    have hd' : ps.drop (n + 1) = qs := by rw [← List.drop_drop, hd]; rfl
    obtain ⟨w4, w6, k⟩ := ap_for hl h (a0 := a0) (a1 := a1) (a2 := a2) (a5 := a5) qs (n + 1) (.s (tD q.1)) (.s (.int (n : Nat))) hd'
    refine ⟨w4, w6, ?_⟩
    rw [List.map_cons, List.map_cons, enF_cons, forL_nx (ρ1 := [a0, a1, a2, .s (.lst ((ps.map (·.1)).map tD)), .s (tD q.1), a5, .s (.int (n : Nat)), .u]) rfl (ap_body (by rw [List.length_map]; exact hl) (ap_no h hq))]
    exact k
theorem are_pairs_X {n : Nat} {ps : List Pr} {X : D} (hX : isO2 "list" "tuple" X = some (.bl true)) (hI : itD X = some (ps.map prD)) (hnX : slot false X = .s X) (h : PW sg n ps) (hn : n ≤ 10) : fnD 2 8 b_are_pairs [X, tD sg] = some (.bl true) := by
  have hb := big6
  have hlen := h.len
  obtain ⟨w4, w6, hf⟩ := ap_for (ps := ps) (by omega) h.ap (a0 := .s (X)) (a1 := .s (tD sg)) (a2 := .u) (a5 := .u) ps 0 .u .u rfl
  refine fnD_rt (ρ := [.s (X), .s (tD sg), .u, .s (.lst ((ps.map (·.1)).map tD)), w4, .u, w6, .u]) rfl ?_
  show b_are_pairs [.s (X), .s (tD sg), .u, .u, .u, .u, .u, .u] = _
  have hlc1 : fLC [2] (iS (fN 0)) (gN 2) cYes (fAp (fnD 2 2 b_is_pair) (aC (fN 2) (aC (fN 1) aN))) [.s (X), .s (tD sg), .u, .u, .u, .u, .u, .u] = some (.lst (ps.map fun _ => .bl true), [.s (X), .s (tD sg), .u, .u, .u, .u, .u, .u]) := by
    refine (fLC_map (E0 := [.s (X), .s (tD sg), .u, .u, .u, .u, .u, .u]) (xs := ps.map prD) (fun _ => .bl true) (iS_of (x := X) rfl hI) rfl (by rw [List.length_map]; omega) fun d hd => ?_).trans ?_
    · obtain ⟨p, hp, rfl⟩ := List.mem_map.mp hd
      refine ⟨[.s (X), .s (tD sg), .s (prD p), .u, .u, .u, .u, .u], [.s (X), .s (tD sg), .s (prD p), .u, .u, .u, .u, .u], rfl, ?_, rfl⟩
      walk_at "e"
      rw [is_pair_ok (h.sl p hp) (h.sr p hp) (h.rk p hp) (by have := h.ll p hp; omega) (by have := h.lr p hp; omega)]
      rfl
    · rw [List.map_map]; rfl
  have hlc2 : fLC [4, 5] (iS (fN 0)) (gTu 2 (gCo (gN 4) (gCo (gN 5) gNi))) cYes (fN 4) [.s (X), .s (tD sg), .u, .u, .u, .u, .u, .u] = some (.lst ((ps.map (·.1)).map tD), [.s (X), .s (tD sg), .u, .u, .u, .u, .u, .u]) := by
    refine (fLC_map (E0 := [.s (X), .s (tD sg), .u, .u, .u, .u, .u, .u]) (xs := ps.map prD) fstD (iS_of (x := X) rfl hI) rfl (by rw [List.length_map]; omega) fun d hd => ?_).trans ?_
    · obtain ⟨p, hp, rfl⟩ := List.mem_map.mp hd
      exact ⟨[.s (X), .s (tD sg), .u, .u, .s (tD p.1), .s (tD p.2), .u, .u], _, rfl, rfl, rfl⟩
    · rw [List.map_map, List.map_map]; rfl
  have hall : (ps.all fun _ : Pr => true) = true := by simp
  unfold b_are_pairs
  refine sSeq_of (ρ1 := [.s (X), .s (tD sg), .u, .u, .u, .u, .u, .u]) ?_ (sSeq_of ((sSet_of hlc2).trans rfl) (sSeq_of (ρ1 := [.s (X), .s (tD sg), .u, .s (.lst ((ps.map (·.1)).map tD)), w4, .u, w6, .u]) ?_ rfl))
  · walk_at "e"
    rw [hX]
    walk_at "e"
    rw [hlc1]
    walk_at "e"
    rw [allO_map, hall]
    walk_at "e"
  · have he : iEn (fN 3) [.s (X), .s (tD sg), .u, .s (.lst ((ps.map (·.1)).map tD)), .u, .u, .u, .u] = some (enF 0 ((ps.map (·.1)).map tD), [.s (X), .s (tD sg), .u, .s (.lst ((ps.map (·.1)).map tD)), .u, .u, .u, .u]) := by
      unfold iEn
      walk_at "e"
      rw [enF_0]
    unfold sFor
    show (iEn (fN 3) [.s (X), .s (tD sg), .u, .s (.lst ((ps.map (·.1)).map tD)), .u, .u, .u, .u]).bind _ = _
    rw [he]
    exact hf
theorem are_pairs_ok {n : Nat} {ps : List Pr} (h : PW sg n ps) (hn : n ≤ 10) : fnD 2 8 b_are_pairs [psD ps, tD sg] = some (.bl true) := are_pairs_X (X := psD ps) rfl rfl rfl h hn
theorem are_pairs_okT {n : Nat} {ps : List Pr} (h : PW sg n ps) (hn : n ≤ 10) : fnD 2 8 b_are_pairs [psT ps, tD sg] = some (.bl true) := are_pairs_X (X := psT ps) rfl rfl rfl h hn
theorem rules_ok (hs : sg ∈ sgs) {n : Nat} {ps : List Pr} (h : PW sg n ps) (hn : n ≤ 10) : iniD "Rules" 2 3 b_RulesD_initD [tD sg, psD ps] = some (rul sg ps) := by
  have e1 := are_signs_ok hs
  have e2 := are_pairs_ok h hn
  have k1 : sIf (cNot (tF blD (fAp (fnD 1 4 b_are_signs) (aC (fN 1) aN)))) sNo sNx (startI "Rules" 3 [tD sg, psD ps]) = some (.nx (startI "Rules" 3 [tD sg, psD ps])) := by
    have : fAp (fnD 1 4 b_are_signs) (aC (fN 1) aN) (startI "Rules" 3 [tD sg, psD ps]) = some (.bl true, startI "Rules" 3 [tD sg, psD ps]) := fAp_of (aC_of (x := tD sg) rfl rfl) e1
    unfold sIf cNot tF
    rw [this]; rfl
  have k2 : sIf (cNot (tF blD (fAp (fnD 2 8 b_are_pairs) (aC (fN 2) (aC (fN 1) aN))))) sNo sNx (startI "Rules" 3 [tD sg, psD ps]) = some (.nx (startI "Rules" 3 [tD sg, psD ps])) := by
    have : fAp (fnD 2 8 b_are_pairs) (aC (fN 2) (aC (fN 1) aN)) (startI "Rules" 3 [tD sg, psD ps]) = some (.bl true, startI "Rules" 3 [tD sg, psD ps]) := fAp_of (aC_of (x := psD ps) rfl (aC_of (x := tD sg) rfl rfl)) e2
    unfold sIf cNot tF
    rw [this]; rfl
  have k3 : b_RulesD_initD (startI "Rules" 3 [tD sg, psD ps]) = some (.nx [.o (rul sg ps), .s (tD sg), .s (psD ps)]) := by
    unfold b_RulesD_initD
    refine sSeq_of k1 (sSeq_of k2 ?_)
    rfl
  unfold iniD
  rw [if_pos (show ([tD sg, psD ps] : List D).length = 2 from rfl), k3]
  rfl
theorem rules_okT (hs : sg ∈ sgs) {n : Nat} {ps : List Pr} (h : PW sg n ps) (hn : n ≤ 10) : iniD "Rules" 2 3 b_RulesD_initD [tD sg, psT ps] = some (rul sg ps) := by
  have e1 := are_signs_ok hs
  have e2 := are_pairs_okT h hn
  have k1 : sIf (cNot (tF blD (fAp (fnD 1 4 b_are_signs) (aC (fN 1) aN)))) sNo sNx (startI "Rules" 3 [tD sg, psT ps]) = some (.nx (startI "Rules" 3 [tD sg, psT ps])) := by
    have : fAp (fnD 1 4 b_are_signs) (aC (fN 1) aN) (startI "Rules" 3 [tD sg, psT ps]) = some (.bl true, startI "Rules" 3 [tD sg, psT ps]) := fAp_of (aC_of (x := tD sg) rfl rfl) e1
    unfold sIf cNot tF
    rw [this]; rfl
  have k2 : sIf (cNot (tF blD (fAp (fnD 2 8 b_are_pairs) (aC (fN 2) (aC (fN 1) aN))))) sNo sNx (startI "Rules" 3 [tD sg, psT ps]) = some (.nx (startI "Rules" 3 [tD sg, psT ps])) := by
    have : fAp (fnD 2 8 b_are_pairs) (aC (fN 2) (aC (fN 1) aN)) (startI "Rules" 3 [tD sg, psT ps]) = some (.bl true, startI "Rules" 3 [tD sg, psT ps]) := fAp_of (aC_of (x := psT ps) rfl (aC_of (x := tD sg) rfl rfl)) e2
    unfold sIf cNot tF
    rw [this]; rfl
  have k3 : b_RulesD_initD (startI "Rules" 3 [tD sg, psT ps]) = some (.nx [.o (rul sg ps), .s (tD sg), .s (psT ps)]) := by
    unfold b_RulesD_initD
    refine sSeq_of k1 (sSeq_of k2 ?_)
    rfl
  unfold iniD
  rw [if_pos (show ([tD sg, psT ps] : List D).length = 2 from rfl), k3]
  rfl
end
end K60
set_option autoImplicit false
/-! == of things without bools is being the same -/
namespace VS
open PySem PySem.Spec PyProof.Rows L2 AR
mutual
def nb : D → Bool
  | .non => true
  | .int _ => true
  | .str _ => true
  | .lst xs => nbs xs
  | .tup xs => nbs xs
  | _ => false
def nbs : List D → Bool
  | [] => true
  | x :: xs => nb x && nbs xs
end
mutual
def dpt : D → Nat
  | .lst xs => dpts xs + 1
  | .tup xs => dpts xs + 1
  | _ => 0
def dpts : List D → Nat
  | [] => 0
  | x :: xs => max (dpt x) (dpts xs)
end
theorem nbs_iff : ∀ {xs : List D}, nbs xs = true ↔ ∀ x ∈ xs, nb x = true
  | [] => by simp [nbs]
  | x :: xs => by simp [nbs, nbs_iff (xs := xs)]
theorem dpts_le {n : Nat} : ∀ {xs : List D}, (∀ x ∈ xs, dpt x ≤ n) → dpts xs ≤ n
  | [], _ => by simp [dpts]
  | x :: xs, h => by
    have h1 := h x List.mem_cons_self
    have h2 := dpts_le (xs := xs) fun y hy => h y (List.mem_cons_of_mem _ hy)
    unfold dpts
    omega
mutual
theorem nb_toP : ∀ {d : D}, nb d = true → ∃ p, toP d = some p ∧ p.depth = dpt d
  | .non, _ => ⟨_, rfl, by simp [PyData.depth, dpt]⟩
  | .int _, _ => ⟨_, rfl, by simp [PyData.depth, dpt]⟩
  | .str _, _ => ⟨_, rfl, by simp [PyData.depth, dpt]⟩
  | .lst xs, h => by
    obtain ⟨ps, e, hd⟩ := nbs_toP (ds := xs) (by simpa [nb] using h)
    exact ⟨.list ps, by simp [toP, e], by simp [PyData.depth, dpt, hd]; try omega⟩
  | .tup xs, h => by
    obtain ⟨ps, e, hd⟩ := nbs_toP (ds := xs) (by simpa [nb] using h)
    exact ⟨.tuple ps, by simp [toP, e], by simp [PyData.depth, dpt, hd]; try omega⟩
theorem nbs_toP : ∀ {ds : List D}, nbs ds = true → ∃ ps, toPs ds = some ps ∧ PyData.depthAll ps = dpts ds
  | [], _ => ⟨[], by simp [toPs], by simp [PyData.depthAll, dpts]⟩
  | x :: xs, h => by
    have h' : nb x = true ∧ nbs xs = true := by simpa [nbs] using h
    obtain ⟨p, e, hd⟩ := nb_toP h'.1
    obtain ⟨ps, e2, hd2⟩ := nbs_toP h'.2
    exact ⟨p :: ps, by simp [toPs, e, e2], by simp [PyData.depthAll, dpts, hd, hd2]⟩
end
mutual
theorem eqv_nb : ∀ {d d' : D} {p p' : PyData}, nb d = true → nb d' = true → toP d = some p → toP d' = some p' → (PyData.eqv p p' = true ↔ d = d')
  | .non, d', p, p', _, h', e, e' => by
    cases e
    cases d' <;> simp [nb] at h' <;> simp only [toP, Option.some.injEq] at e'
    · subst e'; simp [PyData.eqv]
    · subst e'; simp [PyData.eqv]
    · subst e'; simp [PyData.eqv]
    all_goals (obtain ⟨q, _, rfl⟩ := Option.map_eq_some_iff.mp e'; simp [PyData.eqv])
  | .int i, d', p, p', _, h', e, e' => by
    cases e
    cases d' <;> simp [nb] at h' <;> simp only [toP, Option.some.injEq] at e'
    · subst e'; simp [PyData.eqv]
    · subst e'; simp [PyData.eqv]
    · subst e'; simp [PyData.eqv]
    all_goals (obtain ⟨q, _, rfl⟩ := Option.map_eq_some_iff.mp e'; simp [PyData.eqv])
  | .str x, d', p, p', _, h', e, e' => by
    cases e
    cases d' <;> simp [nb] at h' <;> simp only [toP, Option.some.injEq] at e'
    · subst e'; simp [PyData.eqv]
    · subst e'; simp [PyData.eqv]
    · subst e'; simp [PyData.eqv]
    all_goals (obtain ⟨q, _, rfl⟩ := Option.map_eq_some_iff.mp e'; simp [PyData.eqv])
  | .lst xs, d', p, p', h, h', e, e' => by
    have h0 : nbs xs = true := by simpa [nb] using h
    simp only [toP] at e
    obtain ⟨q, eq1, rfl⟩ := Option.map_eq_some_iff.mp e
    cases d' <;> simp [nb] at h' <;> simp only [toP, Option.some.injEq] at e'
    · subst e'; simp [PyData.eqv]
    · subst e'; simp [PyData.eqv]
    · subst e'; simp [PyData.eqv]
    · obtain ⟨q', eq2, rfl⟩ := Option.map_eq_some_iff.mp e'
      simp only [PyData.eqv, D.lst.injEq]
      exact eqvs_nb h0 h' eq1 eq2
    · obtain ⟨q', eq2, rfl⟩ := Option.map_eq_some_iff.mp e'
      simp [PyData.eqv]
  | .tup xs, d', p, p', h, h', e, e' => by
    have h0 : nbs xs = true := by simpa [nb] using h
    simp only [toP] at e
    obtain ⟨q, eq1, rfl⟩ := Option.map_eq_some_iff.mp e
    cases d' <;> simp [nb] at h' <;> simp only [toP, Option.some.injEq] at e'
    · subst e'; simp [PyData.eqv]
    · subst e'; simp [PyData.eqv]
    · subst e'; simp [PyData.eqv]
    · obtain ⟨q', eq2, rfl⟩ := Option.map_eq_some_iff.mp e'
      simp [PyData.eqv]
    · obtain ⟨q', eq2, rfl⟩ := Option.map_eq_some_iff.mp e'
      simp only [PyData.eqv, D.tup.injEq]
      exact eqvs_nb h0 h' eq1 eq2
theorem eqvs_nb : ∀ {ds ds' : List D} {ps ps' : List PyData}, nbs ds = true → nbs ds' = true → toPs ds = some ps → toPs ds' = some ps' → (PyData.eqvAll ps ps' = true ↔ ds = ds')
  | [], [], ps, ps', _, _, e, e' => by
    simp only [toPs, Option.some.injEq] at e e'
    subst e e'
    simp [PyData.eqvAll]
  | [], y :: ys, ps, ps', _, _, e, e' => by
    simp only [toPs, Option.some.injEq] at e
    subst e
    rw [toPs] at e'
    obtain ⟨q, e1, e2⟩ := Option.bind_eq_some_iff.mp e'
    obtain ⟨qs, e3, rfl⟩ := Option.map_eq_some_iff.mp e2
    simp [PyData.eqvAll]
  | x :: xs, [], ps, ps', _, _, e, e' => by
    simp only [toPs, Option.some.injEq] at e'
    subst e'
    rw [toPs] at e
    obtain ⟨q, e1, e2⟩ := Option.bind_eq_some_iff.mp e
    obtain ⟨qs, e3, rfl⟩ := Option.map_eq_some_iff.mp e2
    simp [PyData.eqvAll]
  | x :: xs, y :: ys, ps, ps', h, h', e, e' => by
    have g : nb x = true ∧ nbs xs = true := by simpa [nbs] using h
    have g' : nb y = true ∧ nbs ys = true := by simpa [nbs] using h'
    rw [toPs] at e e'
    obtain ⟨q, e1, e2⟩ := Option.bind_eq_some_iff.mp e
    obtain ⟨qs, e3, rfl⟩ := Option.map_eq_some_iff.mp e2
    obtain ⟨q', e1', e2'⟩ := Option.bind_eq_some_iff.mp e'
    obtain ⟨qs', e3', rfl⟩ := Option.map_eq_some_iff.mp e2'
    rw [PyData.eqvAll, Bool.and_eq_true, eqv_nb g.1 g'.1 e1 e1', eqvs_nb g.2 g'.2 e3 e3', List.cons.injEq]
end
theorem eqB_nb {d d' : D} (h : nb d = true) (h' : nb d' = true) (l : dpt d ≤ 64) (l' : dpt d' ≤ 64) : ∃ b, eqB d d' = some b ∧ (b = true ↔ d = d') := by
  obtain ⟨p, e, hd⟩ := nb_toP h
  obtain ⟨p', e', hd'⟩ := nb_toP h'
  refine ⟨PyData.eqv p p', ?_, eqv_nb h h' e e'⟩
  unfold eqB
  rw [e, e']
  show (if p.depth ≤ 64 ∧ p'.depth ≤ 64 then _ else _) = _
  rw [if_pos ⟨by omega, by omega⟩]
theorem eq_same {d : D} (h : nb d = true) (l : dpt d ≤ 64) : eqO d d = some (.bl true) := by
  obtain ⟨b, e, hb⟩ := eqB_nb h h l l
  unfold eqO
  rw [e, hb.mpr rfl]; rfl
theorem ne_same {d : D} (h : nb d = true) (l : dpt d ≤ 64) : neO d d = some (.bl false) := by
  obtain ⟨b, e, hb⟩ := eqB_nb h h l l
  unfold neO
  rw [e, hb.mpr rfl]; rfl
theorem eq_diff {d d' : D} (h : nb d = true) (h' : nb d' = true) (l : dpt d ≤ 64) (l' : dpt d' ≤ 64) (n : d ≠ d') : eqO d d' = some (.bl false) := by
  obtain ⟨b, e, hb⟩ := eqB_nb h h' l l'
  unfold eqO
  rw [e]
  cases b with
  | true => exact absurd (hb.mp rfl) n
  | false => rfl
theorem ne_diff {d d' : D} (h : nb d = true) (h' : nb d' = true) (l : dpt d ≤ 64) (l' : dpt d' ≤ 64) (n : d ≠ d') : neO d d' = some (.bl true) := by
  obtain ⟨b, e, hb⟩ := eqB_nb h h' l l'
  unfold neO
  rw [e]
  cases b with
  | true => exact absurd (hb.mp rfl) n
  | false => rfl
end VS
set_option autoImplicit false
namespace K60
open PySem PySem.Spec PyProof.Rows L2 AR VS VS.Rw
/-! Rules.moves -/
section
variable {sg : List Nat} {ps : List Pr} {w : RwL}
def mjI : FS := sIf (tF blD (fB eqO (fSl (fN 1) (oSo (fN 3)) (oSo (fB addO (fN 3) (fU lenD (pN 5))))) (fN 5))) (sEx (fMuL appO 2 (aC (fAp mkT (aC (fN 3) (aC (fN 4) aN))) aN))) sNx
theorem mjI_ok {A : D} {found : List D} {i n : Nat} {l r : RwL} (hf : found.length < 1000000) : mjI [.s A, .s (tD w), .o (.lst found), .s (.int (i : Nat)), .s (.int (n : Nat)), .s (tD l), .s (tD r)] =
    some (.nx [.s A, .s (tD w), .o (.lst (if hit l w i then found ++ [mvD (i, n)] else found)), .s (.int (i : Nat)), .s (.int (n : Nat)), .s (tD l), .s (tD r)]) := by
  unfold mjI hit mvD
  walk_at "e"
  have e : i + l.length - i = l.length := by omega
  rw [e]
  by_cases h : (w.drop i).take l.length = l
  · simp only [h, decide_true]
    walk_at "e"
    rw [app_ok hf]
    rfl
  · simp only [h, decide_false]
    walk_at "e"
theorem mj_in {A : D} {i : Nat} : ∀ (ps : List Pr) (n : Nat) (found : List D) (v4 v5 v6 : Sl), found.length + ps.length < 1000000 →
    ∃ v4' v5' v6', forL mvG mjI (enF n (ps.map prD)) [.s A, .s (tD w), .o (.lst found), .s (.int (i : Nat)), v4, v5, v6] = some (.nx [.s A, .s (tD w), .o (.lst (found ++ (hitsAt w i n ps).map mvD)), .s (.int (i : Nat)), v4', v5', v6'])
  | [], n, found, v4, v5, v6, _ => ⟨v4, v5, v6, by simp [hitsAt]; rfl⟩
  | p :: ps, n, found, v4, v5, v6, hf => by
    rw [List.length_cons] at hf
    have e : hitsAt w i n (p :: ps) = if hit p.1 w i then (i, n) :: hitsAt w i (n + 1) ps else hitsAt w i (n + 1) ps := rfl
    obtain ⟨a, b, c, ih⟩ := mj_in (A := A) (i := i) ps (n + 1) (if hit p.1 w i then found ++ [mvD (i, n)] else found) (.s (.int (n : Nat))) (.s (tD p.1)) (.s (tD p.2)) (by
      split
      · rw [List.length_append, List.length_singleton]; omega
      · omega)
    refine ⟨a, b, c, ?_⟩
    rw [List.map_cons, enF_cons, forL_nx (tg := mvG) (ρ1 := [.s A, .s (tD w), .o (.lst found), .s (.int (i : Nat)), .s (.int (n : Nat)), .s (tD p.1), .s (tD p.2)]) rfl (mjI_ok (by omega)), ih, e]
    split <;> simp
theorem mj_out : ∀ (k i : Nat) (found : List D) (v3 v4 v5 v6 : Sl), found.length + k * ps.length + ps.length < 1000000 →
    ∃ v3' v4' v5' v6', forL (gN 3) (sFor (iEn (fU (attrD ["Rules"] "pairs") (pN 0))) mvG mjI) (rng i k) [.s (rul sg ps), .s (tD w), .o (.lst found), v3, v4, v5, v6] = some (.nx [.s (rul sg ps), .s (tD w), .o (.lst (found ++ (mvsFrom ps w i k).map mvD)), v3', v4', v5', v6'])
  | 0, i, found, v3, v4, v5, v6, _ => ⟨v3, v4, v5, v6, by simp [mvsFrom]; rfl⟩
  | k + 1, i, found, v3, v4, v5, v6, hf => by
    rw [Nat.succ_mul] at hf
    have hl : (hitsAt w i 0 ps).length ≤ ps.length := by
      have : ∀ (ps : List Pr) (n : Nat), (hitsAt w i n ps).length ≤ ps.length := by
        intro ps
        induction ps with
        | nil => intro n; simp [hitsAt]
        | cons p ps ih =>
          intro n
          have := ih (n + 1)
          show (if hit p.1 w i then (i, n) :: hitsAt w i (n + 1) ps else hitsAt w i (n + 1) ps).length ≤ _
          split <;> simp <;> omega
      exact this ps 0
    obtain ⟨a, b, c, h1⟩ := mj_in (w := w) (A := rul sg ps) (i := i) ps 0 found v4 v5 v6 (by omega)
    obtain ⟨a', b', c', d', h2⟩ := mj_out k (i + 1) (found ++ (hitsAt w i 0 ps).map mvD) (.s (.int (i : Nat))) a b c (by rw [List.length_append, List.length_map]; omega)
    refine ⟨a', b', c', d', ?_⟩
    rw [rng_succ, forL_nx (tg := gN 3) (ρ1 := [.s (rul sg ps), .s (tD w), .o (.lst found), .s (.int (i : Nat)), v4, v5, v6]) rfl (ρ2 := [.s (rul sg ps), .s (tD w), .o (.lst (found ++ (hitsAt w i 0 ps).map mvD)), .s (.int (i : Nat)), a, b, c]) (by
      unfold sFor iEn
      rw [pairs_at rfl]
      show (some (enuD (ps.map prD), _)).bind _ = _
      rw [enF_0]
      exact h1), h2, mvsFrom]
    simp
theorem moves_b (hw : w.length ≤ 1000) (hp : ps.length ≤ 20) : fnD 2 7 b_Rules_moves [rul sg ps, tD w] = some (.tup ((moves ps w).map mvD)) := by
  obtain ⟨a, b, c, d, h⟩ := mj_out (sg := sg) (ps := ps) (w := w) w.length 0 [] .u .u .u .u (by
    have := Nat.mul_le_mul hw hp
    simp; omega)
  refine fnD_rt (ρ := [.s (rul sg ps), .s (tD w), .s (.lst ((moves ps w).map mvD)), a, b, c, d]) rfl ?_
  show b_Rules_moves [.s (rul sg ps), .s (tD w), .u, .u, .u, .u, .u] = _
  unfold b_Rules_moves
  refine sSeq_of (ρ1 := [.s (rul sg ps), .s (tD w), .o (.lst []), .u, .u, .u, .u]) rfl (sSeq_of (ρ1 := [.s (rul sg ps), .s (tD w), .o (.lst ((moves ps w).map mvD)), a, b, c, d]) ?_ rfl)
  unfold sFor
  rw [iR1_nat (n := w.length) (aC_of (fU_of (x := tD w) rfl (len_T w)) rfl) (by omega)]
  exact h
theorem moves_ok (hw : w.length ≤ 1000) (hp : ps.length ≤ 20) : methD "Rules" "moves" (fnD 2 7 b_Rules_moves) [rul sg ps, tD w] = some (.tup ((moves ps w).map mvD)) := methR (by decide) (moves_b hw hp)
theorem kwR {m : Str} {j : Nat} {is : List Nat} {fn : List D → Option D} {ds ds' : List D} {d : D} (hm : m ∉ (["signs", "pairs"] : List Str)) (hl : ds.length = j) (hp : permL is (rul sg ps :: ds) = rul sg ps :: ds') (h : methD "Rules" m fn (rul sg ps :: ds') = some d) : kwM "Rules" m j is fn (rul sg ps :: ds) = some d := by
  show (if ds.length = j then _ else none) = _
  rw [if_pos hl]
  show (if (("Rules" : Str) = "Rules" ∧ m ∉ (["signs", "pairs"] : List Str)) then fn (permL is (rul sg ps :: ds)) else none) = _
  rw [if_pos ⟨rfl, hm⟩, hp]
  have h' : (if (("Rules" : Str) = "Rules" ∧ m ∉ (["signs", "pairs"] : List Str)) then fn (rul sg ps :: ds') else none) = some d := h
  rw [if_pos ⟨rfl, hm⟩] at h'
  exact h'
theorem kw_moves (hw : w.length ≤ 1000) (hp : ps.length ≤ 20) : kwM "Rules" "moves" 1 [0, 1] (fnD 2 7 b_Rules_moves) [rul sg ps, tD w] = some (.tup ((moves ps w).map mvD)) := kwR (by decide) rfl rfl (moves_ok hw hp)
theorem kw_after (R : PR sg ps) (hw : w.length ≤ 1000) {m : Nat × Nat} (h : m ∈ moves ps w) : kwM "Rules" "after" 2 [0, 2, 1] (fnD 3 7 b_Rules_after) [rul sg ps, mvD m, tD w] = some (tD (after ps w m)) := kwR (by decide) rfl rfl (aft R hw h)
theorem kw_reduced (R : PR sg ps) (hc : code w ≤ 300000) (hw : w.length ≤ 1000) : kwM "Rules" "reduced" 1 [0, 1] (fnD 2 3 b_Rules_reduced) [rul sg ps, tD w] = some (tD (nf ps w)) := kwR (by decide) rfl rfl (reduced_ok R hc hw)
theorem kw_road (R : PR sg ps) (hc : code w ≤ 300000) (hw : w.length ≤ 1000) : kwM "Rules" "road" 1 [0, 1] (fnD 2 4 b_Rules_road) [rul sg ps, tD w] = some (.tup (mvs (rd ps w))) := kwR (by decide) rfl rfl (road_ok R hc hw)
/-! what a row comes to has no move -/
theorem nf_least (R : PR sg ps) : ∀ (n : Nat) (w : RwL), code w ≤ n → least ps (nf ps w) = none
  | n, w, h => by
    cases e : least ps w with
    | none => rw [(rd_none e).2]; exact e
    | some m =>
      have hc := after_code R (least_mem e)
      rw [(rd_some R e).2]
      cases n with
      | zero => omega
      | succ n => exact nf_least R n (after ps w m) (by omega)
theorem nf_nf (R : PR sg ps) : nf ps (nf ps w) = nf ps w ∧ rd ps (nf ps w) = [] := ⟨(rd_none (nf_least R _ w (Nat.le_refl _))).2, (rd_none (nf_least R _ w (Nat.le_refl _))).1⟩
theorem after_ne (R : PR sg ps) {m : Nat × Nat} (h : m ∈ moves ps w) : after ps w m ≠ w := fun e => by
  have := after_code R h
  rw [e] at this
  omega
/-! things without bools -/
theorem nb_T (w : RwL) : nb (tD w) = true ∧ dpt (tD w) = 0 := ⟨by simp [nb], by simp [dpt]⟩
theorem nb_mv (m : Nat × Nat) : nb (mvD m) = true ∧ dpt (mvD m) ≤ 1 := ⟨by simp [mvD, nb, nbs], by simp [mvD, dpt, dpts]⟩
theorem nb_pr (p : Pr) : nb (prD p) = true ∧ dpt (prD p) ≤ 1 := ⟨by simp [prD, nb, nbs], by simp [prD, dpt, dpts]⟩
theorem nb_tmv (ms : List (Nat × Nat)) : nb (.tup (ms.map mvD)) = true ∧ dpt (.tup (ms.map mvD)) ≤ 64 := by
  constructor
  · unfold nb
    refine nbs_iff.mpr fun x hx => ?_
    obtain ⟨m, _, rfl⟩ := List.mem_map.mp hx
    exact (nb_mv m).1
  · have : dpts (ms.map mvD) ≤ 1 := dpts_le fun x hx => by
      obtain ⟨m, _, rfl⟩ := List.mem_map.mp hx
      exact (nb_mv m).2
    unfold dpt
    omega
theorem nb_psT (ps : List Pr) : nb (psT ps) = true ∧ dpt (psT ps) ≤ 2 := by
  unfold psT
  constructor
  · unfold nb
    refine nbs_iff.mpr fun x hx => ?_
    obtain ⟨m, _, rfl⟩ := List.mem_map.mp hx
    exact (nb_pr m).1
  · have : dpts (ps.map prD) ≤ 1 := dpts_le fun x hx => by
      obtain ⟨m, _, rfl⟩ := List.mem_map.mp hx
      exact (nb_pr m).2
    unfold dpt
    omega
def rtD (sg : List Nat) (ps : List Pr) : D := .tup [tD sg, psT ps]
theorem nb_rt (sg : List Nat) (ps : List Pr) : nb (rtD sg ps) = true ∧ dpt (rtD sg ps) ≤ 64 := by
  have h := nb_psT ps
  unfold rtD
  refine ⟨by simp [nb, nbs, h.1], ?_⟩
  simp only [dpt, dpts]
  omega
theorem ne_mvs (l : List (Nat × Nat)) : neO (.tup (l.map mvD)) (.tup (l.map mvD)) = some (.bl false) := ne_same (nb_tmv l).1 (nb_tmv l).2
theorem mvs_map (l : List (RwL × (Nat × Nat))) : mvs l = (l.map (·.2)).map mvD := by unfold mvs; rw [List.map_map]; rfl
theorem ne_rt (sg : List Nat) (ps : List Pr) : neO (.tup [tD sg, psT ps]) (.tup [tD sg, psT ps]) = some (.bl false) := ne_same (nb_rt sg ps).1 (nb_rt sg ps).2
/-! == and != -/
theorem eqD_ok (sg sg' : List Nat) (ps ps' : List Pr) : ∃ b : Bool, fnD 2 2 b_RulesD_eqD [rul sg ps, rul sg' ps'] = some (.bl b) ∧ (b = true ↔ rtD sg ps = rtD sg' ps') := by
  obtain ⟨b, e, hb⟩ := eqB_nb (nb_rt sg ps).1 (nb_rt sg' ps').1 (nb_rt sg ps).2 (nb_rt sg' ps').2
  refine ⟨b, ?_, hb⟩
  refine fnD_rt (ρ := [.s (rul sg ps), .s (rul sg' ps')]) rfl ?_
  show b_RulesD_eqD [.s (rul sg ps), .s (rul sg' ps')] = _
  unfold b_RulesD_eqD
  have h1 : eqO (.tup [tD sg, psT ps]) (.tup [tD sg', psT ps']) = some (.bl b) := by
    unfold eqO
    show Option.map _ (eqB (rtD sg ps) (rtD sg' ps')) = _
    rw [e]; rfl
  refine sRt_of ?_
  have h2 : fB eqO (fAp mkT (aC (fU (attrD ["Rules"] "signs") (pN 0)) (aC (fU (attrD ["Rules"] "pairs") (pN 0)) aN))) (fAp mkT (aC (fU (attrD ["Rules"] "signs") (pN 1)) (aC (fU (attrD ["Rules"] "pairs") (pN 1)) aN))) [.s (rul sg ps), .s (rul sg' ps')] = some (.bl b, [.s (rul sg ps), .s (rul sg' ps')]) :=
    fB_of (x := .tup [tD sg, psT ps]) (y := .tup [tD sg', psT ps']) rfl rfl h1
  have h3 : fU (isWO "Rules") (pN 1) [.s (rul sg ps), .s (rul sg' ps')] = some (.bl true, [.s (rul sg ps), .s (rul sg' ps')]) := rfl
  unfold fAnd
  rw [h3]
  exact h2
theorem eqL_no (sg : List Nat) (ps : List Pr) (ds : List D) : eqM "Rules" (fnD 2 2 b_RulesD_eqD) (rul sg ps) (.lst ds) = some (.bl false) := rfl
theorem eqM_ok (sg sg' : List Nat) (ps ps' : List Pr) (h : rtD sg ps ≠ rtD sg' ps') : eqM "Rules" (fnD 2 2 b_RulesD_eqD) (rul sg ps) (rul sg' ps') = some (.bl false) := by
  obtain ⟨b, e, hb⟩ := eqD_ok sg sg' ps ps'
  show (if ("Rules" : Str) = "Rules" ∧ ("Rules" : Str) = "Rules" then _ else none) = _
  rw [if_pos ⟨rfl, rfl⟩, e]
  cases b with
  | true => exact absurd (hb.mp rfl) h
  | false => rfl
theorem neM_no (sg : List Nat) (ps : List Pr) : neM "Rules" (fnD 2 2 b_RulesD_eqD) (rul sg ps) (rul sg ps) = some (.bl false) := by
  obtain ⟨b, e, hb⟩ := eqD_ok sg sg ps ps
  show (if ("Rules" : Str) = "Rules" ∧ ("Rules" : Str) = "Rules" then (match fnD 2 2 b_RulesD_eqD [rul sg ps, rul sg ps] with | some (.bl b) => some (D.bl (!b)) | _ => none) else none) = _
  rw [if_pos ⟨rfl, rfl⟩, e, hb.mpr rfl]
  rfl
end
end K60
set_option autoImplicit false
namespace K60
open PySem PySem.Spec PyProof.Rows L2 AR VS VS.Rw
/-! what is refused -/
abbrev iniR : List D → Option (D ⊕ Xc) := iniX "Rules" 2 3 bX_RulesD_initD
theorem ini_s {d x : D} (h : fnD 1 4 b_are_signs [d] = some (.bl false)) : iniR [d, x] = some (.inr ("InvalidRules", "word", .str "signs")) := by
  have k : fAp (fnD 1 4 b_are_signs) (aC (fN 1) aN) (startI "Rules" 3 [d, x]) = some (.bl false, startI "Rules" 3 [d, x]) := fAp_of (aC_of (x := d) rfl rfl) h
  have k1 : bX_RulesD_initD (startI "Rules" 3 [d, x]) = some (.inr ("InvalidRules", "word", .str "signs")) := by
    unfold bX_RulesD_initD sIfX cNot tF
    rw [k]; rfl
  unfold iniR iniX
  rw [if_pos (show ([d, x] : List D).length = 2 from rfl), k1]
theorem ini_p {d x : D} (hs : fnD 1 4 b_are_signs [d] = some (.bl true)) (h : fnD 2 8 b_are_pairs [x, d] = some (.bl false)) : iniR [d, x] = some (.inr ("InvalidRules", "word", .str "pairs")) := by
  have k : fAp (fnD 1 4 b_are_signs) (aC (fN 1) aN) (startI "Rules" 3 [d, x]) = some (.bl true, startI "Rules" 3 [d, x]) := fAp_of (aC_of (x := d) rfl rfl) hs
  have k' : fAp (fnD 2 8 b_are_pairs) (aC (fN 2) (aC (fN 1) aN)) (startI "Rules" 3 [d, x]) = some (.bl false, startI "Rules" 3 [d, x]) := fAp_of (aC_of (x := x) rfl (aC_of (x := d) rfl rfl)) h
  have k2 : (sIfX (cNot (tF blD (fAp (fnD 2 8 b_are_pairs) (aC (fN 2) (aC (fN 1) aN))))) (sRs "InvalidRules" "word" (fC (.str "pairs")))
      (fun ρ => ((sSeq (sFl ["Rules"] 0 "signs" (fN 1))
      (sFl ["Rules"] 0 "pairs" (fU tupO (fN 2)))) ρ).map .inl)) (startI "Rules" 3 [d, x]) = some (.inr ("InvalidRules", "word", .str "pairs")) := by
    unfold sIfX cNot tF
    rw [k']; rfl
  have k1 : bX_RulesD_initD (startI "Rules" 3 [d, x]) = some (.inr ("InvalidRules", "word", .str "pairs")) := by
    unfold bX_RulesD_initD
    generalize hz : sIfX (cNot (tF blD (fAp (fnD 2 8 b_are_pairs) (aC (fN 2) (aC (fN 1) aN))))) (sRs "InvalidRules" "word" (fC (.str "pairs")))
      (fun ρ => ((sSeq (sFl ["Rules"] 0 "signs" (fN 1))
      (sFl ["Rules"] 0 "pairs" (fU tupO (fN 2)))) ρ).map .inl) = z at k2 ⊢
    unfold sIfX cNot tF
    rw [k]
    exact k2
  unfold iniR iniX
  rw [if_pos (show ([d, x] : List D).length = 2 from rfl), k1]
def hE (a b : D) (t : Str) : En := [.s a, .s b, .s (.str t), .u]
theorem heard_r {a b : D} {t : Str} (h : iniR [a, b] = some (.inr ("InvalidRules", "word", .str t))) : fnD 2 4 b_w_heard [a, b] = some (.str t) := by
  refine fnD_rt (ρ := [.s a, .s b, .s (.str t), .u]) rfl ?_
  show b_w_heard [.s a, .s b, .u, .u] = _
  unfold b_w_heard
  refine sSeq_of (ρ1 := [.s a, .s b, .s (.str "made"), .u]) rfl (sSeq_of (ρ1 := [.s a, .s b, .s (.str t), .u]) ?_ rfl)
  unfold sHrd
  refine (if_pos (show 3 < ([Sl.s a, Sl.s b, Sl.s (D.str "made"), Sl.u] : En).length ∧ 2 ≠ 3 from ⟨by simp, by decide⟩)).trans ?_
  show (match iniR [a, b] with
    | some (.inl _) => some (Out.nx (hE a b "made"))
    | some (.inr x) => if x.1 = "InvalidRules" ∧ x.2.1 = "word" then some (.nx (((hE a b "made").set 2 (.s x.2.2)).set 3 .u)) else none
    | none => none) = _
  rw [h]; rfl
theorem heard_m {a b d : D} (h : iniR [a, b] = some (.inl d)) : fnD 2 4 b_w_heard [a, b] = some (.str "made") := by
  refine fnD_rt (ρ := [.s a, .s b, .s (.str "made"), .u]) rfl ?_
  show b_w_heard [.s a, .s b, .u, .u] = _
  unfold b_w_heard
  refine sSeq_of (ρ1 := [.s a, .s b, .s (.str "made"), .u]) rfl (sSeq_of (ρ1 := [.s a, .s b, .s (.str "made"), .u]) ?_ rfl)
  unfold sHrd
  refine (if_pos (show 3 < ([Sl.s a, Sl.s b, Sl.s (D.str "made"), Sl.u] : En).length ∧ 2 ≠ 3 from ⟨by simp, by decide⟩)).trans ?_
  show (match iniR [a, b] with
    | some (.inl _) => some (Out.nx (hE a b "made"))
    | some (.inr x) => if x.1 = "InvalidRules" ∧ x.2.1 = "word" then some (.nx (((hE a b "made").set 2 (.s x.2.2)).set 3 .u)) else none
    | none => none) = _
  rw [h]; rfl
def deepD : D := .lst [.lst [.lst [.lst [.lst [.lst [.lst [.lst [.str "a"]]]]]]]]
def pD (a b : Str) : D := .tup [.str a, .str b]
def badL : List D := [.non, .int 3, .str "", .str "ba", .str "aa", .str "abcd", .str "aB", .str "a b", .lst [.str "a"], .tup [.str "a", .str "b"], .bl true, deepD, .str "1"]
def wgA : List D := [.non, .int 3, .str "ab", .lst [.tup [.str "a"]], .lst [.lst [.str "b", .str "a"]], .lst [pD "a" "a"], .lst [pD "a" "b"], .lst [pD "" ""], .lst [pD "c" "a"], .lst [pD "b" "c"]]
def wgB : List D := [.lst [.tup [.str "b", .non]], .lst [.tup [.int 3, .str "a"]], .lst [.tup [.str "b", .str "a", .int 1]], .lst [pD "ab" "a", pD "ab" "b"], .lst [pD "ab" "", pD "aba" "b"]]
def wgC : List D := [.lst [pD "b" "a", pD "aba" "b"], .lst [pD "b" "a", .non], deepD, .bl true]
def wgL : List D := wgA ++ wgB ++ wgC
def isF : Option D → Bool
  | some (.bl false) => true
  | _ => false
theorem isF_of {o : Option D} (h : isF o = true) : o = some (.bl false) := by
  unfold isF at h
  split at h
  · rfl
  · cases h
theorem bad_all : (badL.all fun d => isF (fnD 1 4 b_are_signs [d])) = true := by decide +kernel
theorem wrong_all : (wgL.all fun d => isF (fnD 2 8 b_are_pairs [d, tD [97, 98]])) = true := by decide +kernel
theorem ab_ok : fnD 1 4 b_are_signs [tD [97, 98]] = some (.bl true) := rfl
theorem heard_bad {d x : D} (h : d ∈ badL) : fnD 2 4 b_w_heard [d, x] = some (.str "signs") := heard_r (ini_s (isF_of (List.all_eq_true.mp bad_all d h)))
theorem heard_wrong {x : D} (h : x ∈ wgL) : fnD 2 4 b_w_heard [tD [97, 98], x] = some (.str "pairs") := heard_r (ini_p ab_ok (isF_of (List.all_eq_true.mp wrong_all x h)))
def isM : Option (D ⊕ Xc) → Bool
  | some (.inl _) => true
  | _ => false
theorem isM_of {o : Option (D ⊕ Xc)} (h : isM o = true) : ∃ d, o = some (.inl d) := by
  unfold isM at h
  split at h
  · exact ⟨_, rfl⟩
  · cases h
theorem made1 : isM (iniR [tD [97, 98], .lst []]) = true := by decide +kernel
theorem made2 : isM (iniR [tD [122], .lst [pD "zz" ""]]) = true := by decide +kernel
theorem heard1 : fnD 2 4 b_w_heard [tD [97, 98], .lst []] = some (.str "made") := by
  obtain ⟨d, h⟩ := isM_of made1
  exact heard_m h
theorem heard2 : fnD 2 4 b_w_heard [tD [122], .lst [pD "zz" ""]] = some (.str "made") := by
  obtain ⟨d, h⟩ := isM_of made2
  exact heard_m h
def rE (c : BoxC) (v4 : Sl) : En := [.o (.box true c), .s deepD, .s (.lst badL), .s (.lst wgL), v4]
def exA : D := .lst []
def exB : D := .lst [pD "b" "a"]
def rfB1 : FS := (sIf (tF blD (fB neO (fAp (fnD 2 4 b_w_heard) (aC (fCaB (fnB 1 2 b_w_pick) 0 (aC (fN 2) aN)) (aC (fCaB (fnB 1 2 b_w_pick) 0 (aC (fB catO (fN 3) (fAp mkL (aC (fAp mkL aN) (aC (fAp mkL (aC (fAp mkT (aC (fC (.str "b")) (aC (fC (.str "a")) aN))) aN)) aN)))) aN)) aN))) (fC (.str "signs")))) (sRt (fC (.bl false))) sNx)
def rfB2 : FS := (sIf (tF blD (fB neO (fAp (fnD 2 4 b_w_heard) (aC (fC (.str "ab")) (aC (fCaB (fnB 1 2 b_w_pick) 0 (aC (fN 3) aN)) aN))) (fC (.str "pairs")))) (sRt (fC (.bl false))) sNx)
theorem ne_s (t : Str) : neO (.str t) (.str t) = some (.bl false) := ne_same (by simp [nb]) (by simp [dpt])
theorem rf_turn {c : BoxC} (hc : B3 c) (v4 : Sl) : ∃ c', B3 c' ∧ sSeq rfB1 rfB2 (rE c v4) = some (.nx (rE c' v4)) := by
  obtain ⟨d, c1, h1, h2, h3⟩ := pick_l hc (xs := badL) (by decide) (by decide)
  obtain ⟨x, c2, k1, k2, k3⟩ := pick_l h2 (xs := wgL ++ [exA, exB]) (by decide) (by decide)
  obtain ⟨y, c3, l1, l2, l3⟩ := pick_l k2 (xs := wgL) (by decide) (by decide)
  refine ⟨c3, l2, ?_⟩
  have e1 : fCaB (fnB 1 2 b_w_pick) 0 (aC (fN 2) aN) (rE c v4) = some (d, rE c1 v4) := fCaB_of (p := true) (c := c) (ρ1 := rE c v4) (ds := [.lst badL]) rfl (aC_of (x := .lst badL) rfl rfl) rfl h3
  have e2 : fCaB (fnB 1 2 b_w_pick) 0 (aC (fB catO (fN 3) (fAp mkL (aC (fAp mkL aN) (aC (fAp mkL (aC (fAp mkT (aC (fC (.str "b")) (aC (fC (.str "a")) aN))) aN)) aN)))) aN) (rE c1 v4) = some (x, rE c2 v4) :=
    fCaB_of (p := true) (c := c1) (ρ1 := rE c1 v4) (ds := [.lst (wgL ++ [exA, exB])]) rfl (aC_of (x := .lst (wgL ++ [exA, exB])) (fB_of (x := .lst wgL) (y := .lst [exA, exB]) rfl rfl rfl) rfl) rfl k3
  have e3 : fCaB (fnB 1 2 b_w_pick) 0 (aC (fN 3) aN) (rE c2 v4) = some (y, rE c3 v4) := fCaB_of (p := true) (c := c2) (ρ1 := rE c2 v4) (ds := [.lst wgL]) rfl (aC_of (x := .lst wgL) rfl rfl) rfl l3
  refine sSeq_of (ρ1 := rE c2 v4) ?_ ?_
  · exact (sIf_f (tF_of (fB_of (fAp_of (aC_of e1 (aC_of e2 rfl)) (heard_bad h1)) rfl (ne_s _)) rfl)).trans rfl
  · exact (sIf_f (tF_of (fB_of (fAp_of (aC_of (x := tD [97, 98]) rfl (aC_of e3 rfl)) (heard_wrong l1)) rfl (ne_s _)) rfl)).trans rfl
theorem rf_for : ∀ (m i : Nat) (c : BoxC) (v4 : Sl), B3 c → ∃ c' v4', B3 c' ∧ forL (gN 4) (sSeq rfB1 rfB2) (rng i m) (rE c v4) = some (.nx (rE c' v4'))
  | 0, i, c, v4, hc => ⟨c, v4, hc, rfl⟩
  | m + 1, i, c, v4, hc => by
    obtain ⟨c1, h1, h2⟩ := rf_turn hc (.s (.int (i : Nat)))
    obtain ⟨c2, w4, h3, h4⟩ := rf_for m (i + 1) c1 (.s (.int (i : Nat))) h1
    refine ⟨c2, w4, h3, ?_⟩
    rw [rng_succ, forL_nx (tg := gN 4) (ρ1 := rE c (.s (.int (i : Nat)))) rfl h2]
    exact h4
theorem fAnd_t {f g : FE} {ρ ρ1 : En} {o : Option (D × En)} (h : f ρ = some (.bl true, ρ1)) (h2 : g ρ1 = o) : fAnd f g ρ = o := by
  unfold fAnd
  rw [h]
  exact h2
theorem eq_s (t : Str) : eqO (.str t) (.str t) = some (.bl true) := eq_same (by simp [nb]) (by simp [dpt])
theorem refused_ok {c : BoxC} (hc : B3 c) : ∃ c', B3 c' ∧ fnB 0 5 b_w_refused_right c [] = some (.bl true, c') := by
  obtain ⟨c', v4, h1, h2⟩ := rf_for 5 0 c .u hc
  refine ⟨c', h1, fnB_rt (ρ := rE c' v4) rfl ?_ rfl (by obtain ⟨_, _, _, rfl⟩ := hc; obtain ⟨_, _, _, rfl⟩ := h1; rfl)⟩
  show b_w_refused_right [.o (.box true c), .u, .u, .u, .u] = _
  unfold b_w_refused_right
  refine sSeq_of (ρ1 := [.o (.box true c), .s deepD, .u, .u, .u]) rfl (sSeq_of (ρ1 := [.o (.box true c), .s deepD, .s (.lst badL), .u, .u]) rfl (sSeq_of (ρ1 := [.o (.box true c), .s deepD, .s (.lst badL), .s (.lst wgA), .u]) rfl (sSeq_of (ρ1 := [.o (.box true c), .s deepD, .s (.lst badL), .s (.lst (wgA ++ wgB)), .u]) rfl (sSeq_of (ρ1 := rE c .u) rfl (sSeq_of (ρ1 := rE c' v4) ?_ ?_)))))
  · show sFor (iR1 (aC (fC (.int 5)) aN)) (gN 4) (sSeq rfB1 rfB2) _ = _
    unfold sFor
    rw [iR1_nat (n := 5) (ρ := rE c .u) (ρ1 := rE c .u) (aC_of rfl rfl) (by omega)]
    exact h2
  · refine sRt_of ?_
    have a1 : fB eqO (fAp (fnD 2 4 b_w_heard) (aC (fC (.str "ab")) (aC (fAp mkL aN) aN))) (fC (.str "made")) (rE c' v4) = some (.bl true, rE c' v4) := fB_of (fAp_of (aC_of (x := tD [97, 98]) rfl (aC_of (x := .lst []) rfl rfl)) heard1) rfl (eq_s _)
    have a2 : fB eqO (fAp (fnD 2 4 b_w_heard) (aC (fC (.str "z")) (aC (fAp mkL (aC (fAp mkT (aC (fC (.str "zz")) (aC (fC (.str "")) aN))) aN)) aN))) (fC (.str "made")) (rE c' v4) = some (.bl true, rE c' v4) := fB_of (fAp_of (aC_of (x := tD [122]) rfl (aC_of (x := .lst [pD "zz" ""]) rfl rfl)) heard2) rfl (eq_s _)
    exact fAnd_t a1 a2
end K60
set_option autoImplicit false
namespace K60
open PySem PySem.Spec PyProof.Rows L2 AR VS VS.Rw
/-! rules turned about, other rules -/
theorem sub_self (x : RwL) : sub x x = true := by
  unfold sub tD inB
  show Option.getD (some (match (T x).cps.toList with
      | [c] => decide (c ∈ (T x).cps.toList)
      | _ => !(Builtin.Str.occurrences (T x) (T x) 0 (T x).length 1).isEmpty)) false = true
  rw [Option.getD_some]
  split
  · rename_i c h
    rw [h]; simp
  · rw [PySem.StrLaws.found_iff]
    refine ⟨0, by omega, ?_⟩
    unfold Builtin.Str.subAt
    have h1 : (T x).cps.extract 0 (0 + (T x).length) = (T x).cps := by
      show (x.toArray).extract 0 (0 + (x.toArray).size) = x.toArray
      simp
    rw [h1]
    simp
theorem prD_inj {p q : Pr} (h : prD p = prD q) : p = q := by
  obtain ⟨a, b⟩ := p
  obtain ⟨c, d⟩ := q
  unfold prD at h
  injection h with h
  injection h with h1 h2
  injection h2 with h2 h3
  exact Prod.ext (tD_inj h1) (tD_inj h2)
theorem map_inj {ps qs : List Pr} (h : ps.map prD = qs.map prD) : ps = qs := by
  induction ps generalizing qs with
  | nil => cases qs with
    | nil => rfl
    | cons q qs => cases h
  | cons p ps ih => cases qs with
    | nil => cases h
    | cons q qs =>
      rw [List.map_cons, List.map_cons] at h
      injection h with h1 h2
      rw [prD_inj h1, ih h2]
theorem rt_inj {sg sg' : List Nat} {ps ps' : List Pr} (h : rtD sg ps = rtD sg' ps') : sg = sg' ∧ ps = ps' := by
  unfold rtD psT at h
  injection h with h
  injection h with h1 h2
  injection h2 with h2 h3
  injection h2 with h2
  exact ⟨tD_inj h1, map_inj h2⟩
section
variable {sg : List Nat} {ps : List Pr}
theorem PW.rev {n : Nat} (h : PW sg n ps) : PW sg n ps.reverse :=
  ⟨fun p hp => h.sl p (List.mem_reverse.mp hp), fun p hp => h.sr p (List.mem_reverse.mp hp), fun p hp => h.rk p (List.mem_reverse.mp hp), by rw [List.length_reverse]; exact h.len,
    fun p hp => h.ll p (List.mem_reverse.mp hp), fun p hp => h.lr p (List.mem_reverse.mp hp), by
      unfold Apart
      rw [List.pairwise_reverse]
      exact h.ap.imp fun h => ⟨h.2, h.1⟩⟩
theorem rev_ne {n : Nat} (h : PW sg n ps) (hl : 1 < ps.length) : rtD sg ps ≠ rtD sg ps.reverse := by
  intro e
  have e2 := (rt_inj e).2
  have ap := h.ap
  unfold Apart at ap
  rw [List.pairwise_iff_getElem] at ap
  have h1 := (ap 0 (ps.length - 1) (by omega) (by omega) (by omega)).1
  have h2 : ps[0]'(by omega) = ps[ps.length - 1]'(by omega) := by
    have h3 : ps[0]? = ps.reverse[0]? := by rw [← e2]
    rw [List.getElem?_reverse (by omega), List.getElem?_eq_getElem (by omega), List.getElem?_eq_getElem (by omega)] at h3
    injection h3
  rw [← h2, sub_self] at h1
  cases h1
theorem q_ne (hs : sg ∈ sgs) : rtD sg ps ≠ rtD [113] [] := by
  intro e
  have h := (rt_inj e).1
  subst h
  revert hs
  decide
theorem rules_q : iniD "Rules" 2 3 b_RulesD_initD [tD [113], .lst []] = some (rul [113] []) := by
  have e1 : fnD 1 4 b_are_signs [tD [113]] = some (.bl true) := rfl
  have e2 : fnD 2 8 b_are_pairs [.lst [], tD [113]] = some (.bl true) := rfl
  have k1 : sIf (cNot (tF blD (fAp (fnD 1 4 b_are_signs) (aC (fN 1) aN)))) sNo sNx (startI "Rules" 3 [tD [113], .lst []]) = some (.nx (startI "Rules" 3 [tD [113], .lst []])) := by
    have : fAp (fnD 1 4 b_are_signs) (aC (fN 1) aN) (startI "Rules" 3 [tD [113], .lst []]) = some (.bl true, startI "Rules" 3 [tD [113], .lst []]) := fAp_of (aC_of (x := tD [113]) rfl rfl) e1
    unfold sIf cNot tF
    rw [this]; rfl
  have k2 : sIf (cNot (tF blD (fAp (fnD 2 8 b_are_pairs) (aC (fN 2) (aC (fN 1) aN))))) sNo sNx (startI "Rules" 3 [tD [113], .lst []]) = some (.nx (startI "Rules" 3 [tD [113], .lst []])) := by
    have : fAp (fnD 2 8 b_are_pairs) (aC (fN 2) (aC (fN 1) aN)) (startI "Rules" 3 [tD [113], .lst []]) = some (.bl true, startI "Rules" 3 [tD [113], .lst []]) := fAp_of (aC_of (x := .lst []) rfl (aC_of (x := tD [113]) rfl rfl)) e2
    unfold sIf cNot tF
    rw [this]; rfl
  have k3 : b_RulesD_initD (startI "Rules" 3 [tD [113], .lst []]) = some (.nx [.o (rul [113] []), .s (tD [113]), .s (.lst [])]) := by
    unfold b_RulesD_initD
    refine sSeq_of k1 (sSeq_of k2 ?_)
    rfl
  unfold iniD
  rw [if_pos (show ([tD [113], .lst []] : List D).length = 2 from rfl), k3]
  rfl
theorem noLs_all : ∀ {ds : List D}, (∀ d ∈ ds, noL d = true) → noLs ds = true
  | [], _ => rfl
  | d :: ds, h => by
    show (noL d && noLs ds) = true
    rw [h d List.mem_cons_self, noLs_all fun x hx => h x (List.mem_cons_of_mem _ hx)]; rfl
theorem noL_rul (sg : List Nat) (ps : List Pr) : noL (rul sg ps) = true := by
  have h : noL (psT ps) = true := by
    show noLs (ps.map prD) = true
    refine noLs_all fun d hd => ?_
    obtain ⟨p, _, rfl⟩ := List.mem_map.mp hd
    rfl
  show (noL (tD sg) && (noL (psT ps) && noLs [])) = true
  rw [h]; rfl
theorem revD (ps : List Pr) : revO (psD ps) (.int (-1)) = some (psD ps.reverse) := by
  show (if (-1 : Int) = -1 then some (D.lst (ps.map prD).reverse) else none) = _
  rw [if_pos rfl, ← List.map_reverse]; rfl
theorem fRev_of {f g : FE} {ρ ρ1 ρ2 : En} {x y d : D} (h : f ρ = some (x, ρ1)) (h2 : g ρ1 = some (y, ρ2)) (e : revO x y = some d) : fRev f g ρ = some (d, ρ2) := by
  unfold fRev
  rw [h]
  show (g ρ1).bind _ = _
  rw [h2]
  show Option.map _ (revO x y) = _
  rw [e]; rfl
theorem fMkB_of {fn : List D → Option D} {f : FE} {i : Nat} {ρ ρ1 : En} {x r : D} {ds : List D} (h : f ρ = some (x, ρ1)) (hi : ρ1[i]? = some (Sl.o (.lst ds))) (e : fn [x, .lst ds] = some r) (hn : noL r = true) : fMkB fn f i ρ = some (r, ρ1) := by
  unfold fMkB
  rw [h]
  show (match ρ1[i]? with | some (Sl.o (.lst ds)) => _ | _ => _) = _
  rw [hi]
  show (fn [x, .lst ds]).bind _ = _
  rw [e]
  show (if noL r then some (r, ρ1) else none) = _
  rw [if_pos hn]
theorem fIf_t {c : FT} {f g : FE} {ρ ρ1 : En} {o : Option (D × En)} (h : c ρ = some (true, ρ1)) (h2 : f ρ1 = o) : fIf c f g ρ = o := by
  unfold fIf; rw [h]; exact h2
theorem fIf_f {c : FT} {f g : FE} {ρ ρ1 : En} {o : Option (D × En)} (h : c ρ = some (false, ρ1)) (h2 : g ρ1 = o) : fIf c f g ρ = o := by
  unfold fIf; rw [h]; exact h2
theorem cAnd_f {c e : FT} {ρ ρ1 : En} (h : c ρ = some (false, ρ1)) : cAnd c e ρ = some (false, ρ1) := by unfold cAnd; rw [h]; rfl
theorem cAnd_t {c e : FT} {ρ ρ1 : En} (h : c ρ = some (true, ρ1)) : cAnd c e ρ = e ρ1 := by unfold cAnd; rw [h]; rfl
theorem kwI_ok {x y d : D} {fn : List D → Option D} (h : fn [y, x] = some d) : kwI 2 [1, 0] fn [x, y] = some d := h
theorem sAs_of {f : FE} {fg : FG} {ρ ρ1 ρ2 : En} {d : D} (h : f ρ = some (d, ρ1)) (h2 : fg d ρ1 = some ρ2) : sAs f fg ρ = some (.nx ρ2) := by
  unfold sAs
  rw [h]
  show Option.map _ (fg d ρ1) = _
  rw [h2]; rfl
end
theorem for_inv {tg : FG} {b : FS} (I : En → Prop) : ∀ (xs : List D) (ρ : En), I ρ → (∀ x ∈ xs, ∀ ρ, I ρ → ∃ ρ1 ρ2, tg x ρ = some ρ1 ∧ (b ρ1 = some (.nx ρ2) ∨ b ρ1 = some (.ct ρ2)) ∧ I ρ2) → ∃ ρ', forL tg b xs ρ = some (.nx ρ') ∧ I ρ'
  | [], ρ, h, _ => ⟨ρ, rfl, h⟩
  | x :: xs, ρ, h, k => by
    obtain ⟨ρ1, ρ2, h1, h2, h3⟩ := k x List.mem_cons_self ρ h
    obtain ⟨ρ', h4, h5⟩ := for_inv I xs ρ2 h3 fun y hy => k y (List.mem_cons_of_mem _ hy)
    refine ⟨ρ', ?_, h5⟩
    show (tg x ρ).bind _ = _
    rw [h1]
    show (match b ρ1 with | some (.nx ρ2) => _ | some (.ct ρ2) => _ | some (.bk ρ2) => _ | some (.rt d ρ2) => _ | none => _) = _
    rcases h2 with h2 | h2
    · rw [h2]; exact h4
    · rw [h2]; exact h4
theorem fCaB_of2 {F : BoxC → List D → Option (D × BoxC)} {ga : FA} {i : Nat} {ρ ρ1 : En} {d : D} {ds : List D} {p p0 : Bool} {c c0 c' : BoxC} (hi : ρ[i]? = some (Sl.o (.box p0 c0))) (ha : ga ρ = some (ds, ρ1)) (hi1 : ρ1[i]? = some (Sl.o (.box p c))) (e : F c ds = some (d, c')) : fCaB F i ga ρ = some (d, ρ1.set i (Sl.o (.box p c'))) := by
  unfold fCaB
  rw [hi]
  show (ga ρ).bind _ = _
  rw [ha]
  show (match ρ1[i]? with | some (Sl.o (.box p c)) => Option.map (fun r : D × BoxC => (r.1, ρ1.set i (Sl.o (.box p r.2)))) (F c ds) | _ => none) = _
  rw [hi1]
  show Option.map _ (F c ds) = _
  rw [e]; rfl
end K60
set_option autoImplicit false
namespace K60
open PySem PySem.Spec PyProof.Rows L2 AR VS VS.Rw
/-! the law -/
section
variable {sg : List Nat} {ps : List Pr}
def EL (sc : D) (k : Nat) (c : BoxC) (sg : RwL) (ps : List Pr) (v7 v8 v9 v10 v11 v12 : Sl) : En := [.s sc, .s (.int (k : Nat)), .o (.box false c), .s (tD sg), .s (psD ps), .o (.lst (ps.map prD ++ [.non])), .s (rul sg ps), v7, v8, v9, v10, v11, v12]
def i1 : FS := sSet 8 (fCaB (fnB 2 4 b_w_row) 2 (aC (fN 3) (aC (fC (.int 9)) aN)))
def i2 : FS := sAs (fAp (fnD 2 4 b_w_road) (aC (fN 4) (aC (fN 8) aN))) (gTu 2 (gCo (gN 9) (gCo (gN 10) gNi)))
def i3 : FS := (sIf (cOr (tF blD (fB neO (fAp (methD "Rules" "moves" (fnD 2 7 b_Rules_moves)) (aC (fN 6) (aC (fN 8) aN))) (fU tupO (fAp (fnD 2 7 b_w_moves) (aC (fN 4) (aC (fN 8) aN)))))) (tF blD (fB neO (fAp (kwM "Rules" "moves" 1 [0, 1] (fnD 2 7 b_Rules_moves)) (aC (fN 6) (aC (fN 8) aN))) (fAp (methD "Rules" "moves" (fnD 2 7 b_Rules_moves)) (aC (fN 6) (aC (fN 8) aN)))))) (sRt (fC (.bl false))) sNx)
def m1 : FS := (sSeq (sSet 12 (fAp (fnD 3 5 b_w_after) (aC (fN 4) (aC (fN 8) (aC (fN 11) aN)))))
      (sIf (cOr (tF blD (fB neO (fAp (methD "Rules" "after" (fnD 3 7 b_Rules_after)) (aC (fN 6) (aC (fN 8) (aC (fN 11) aN)))) (fN 12))) (tF blD (fB eqO (fAp (kwM "Rules" "after" 2 [0, 2, 1] (fnD 3 7 b_Rules_after)) (aC (fN 6) (aC (fN 11) (aC (fN 8) aN)))) (fN 8)))) (sRt (fC (.bl false))) sNx))
def i4 : FS := sFor (iS (fAp (methD "Rules" "moves" (fnD 2 7 b_Rules_moves)) (aC (fN 6) (aC (fN 8) aN)))) (gN 11) m1
def i5 : FS := (sIf (cOr (tF blD (fB neO (fAp (methD "Rules" "road" (fnD 2 4 b_Rules_road)) (aC (fN 6) (aC (fN 8) aN))) (fU tupO (fN 9)))) (cOr (tF blD (fB neO (fAp (methD "Rules" "reduced" (fnD 2 3 b_Rules_reduced)) (aC (fN 6) (aC (fN 8) aN))) (fN 10))) (tF blD (fB neO (fAp (kwM "Rules" "reduced" 1 [0, 1] (fnD 2 3 b_Rules_reduced)) (aC (fN 6) (aC (fN 10) aN))) (fN 10))))) (sRt (fC (.bl false))) sNx)
def i6 : FS := (sIf (tF blD (fB neO (fAp (kwM "Rules" "road" 1 [0, 1] (fnD 2 4 b_Rules_road)) (aC (fN 6) (aC (fN 10) aN))) (fAp mkT aN))) (sRt (fC (.bl false))) sNx)
def inB0 : FS := sSeq i1 (sSeq i2 (sSeq i3 (sSeq i4 (sSeq i5 i6))))
theorem tfB {op : D → D → Option D} {f g : FE} {ρ : En} {x y : D} {b : Bool} (h : f ρ = some (x, ρ)) (h2 : g ρ = some (y, ρ)) (e : op x y = some (.bl b)) : tF blD (fB op f g) ρ = some (b, ρ) := tF_of (fB_of h h2 e) rfl
theorem sif1 {c : FT} {s : FS} {ρ : En} (h1 : c ρ = some (false, ρ)) : sIf c s sNx ρ = some (.nx ρ) := by rw [sIf_f h1]; rfl
theorem cor2 {c e : FT} {ρ : En} (h1 : c ρ = some (false, ρ)) (h2 : e ρ = some (false, ρ)) : cOr c e ρ = some (false, ρ) := by rw [cOr_f h1]; exact h2
theorem code9 {w : RwL} (h : w.length ≤ 9) : code w ≤ 300000 := by
  have h1 := code_lt w
  have h2 : 4 ^ w.length ≤ 4 ^ 9 := Nat.pow_le_pow_right (by omega) h
  have h3 : (4 : Nat) ^ 9 = 262144 := by decide
  omega
theorem neT (a : RwL) : neO (tD a) (tD a) = some (.bl false) := ne_same (nb_T a).1 (by have := (nb_T a).2; omega)
theorem mv_turn (R : PR sg ps) {w : RwL} (hw : w.length ≤ 1000) {m : Nat × Nat} (hm : m ∈ moves ps w) {sc : D} {k : Nat} {c : BoxC} (v7 v9 v10 v12 : Sl) : m1 (EL sc k c sg ps v7 (.s (tD w)) v9 v10 (.s (mvD m)) v12) = some (.nx (EL sc k c sg ps v7 (.s (tD w)) v9 v10 (.s (mvD m)) (.s (tD (after ps w m))))) := by
  obtain ⟨p, hp1, hp2⟩ := mv_pr R hm
  have e1 := w_after_ok (ps := ps) hp1 hw hp2
  have e2 := aft R hw hm
  have e3 := kw_after R hw hm
  have e4 : eqO (tD (after ps w m)) (tD w) = some (.bl false) := by rw [VS.Rw.eq_T, decide_eq_false (after_ne R hm)]
  unfold m1
  refine sSeq_of ((sSet_of (fAp_of (aC_of (x := psD ps) rfl (aC_of (x := tD w) rfl (aC_of (x := mvD m) rfl rfl))) e1)).trans rfl) ?_
  exact (sIf_f ((cOr_f (tF_of (fB_of (fAp_of (aC_of (x := rul sg ps) rfl (aC_of (x := tD w) rfl (aC_of (x := mvD m) rfl rfl))) e2) rfl (neT _)) rfl)).trans (tF_of (fB_of (fAp_of (aC_of (x := rul sg ps) rfl (aC_of (x := mvD m) rfl (aC_of (x := tD w) rfl rfl))) e3) rfl e4) rfl))).trans rfl
theorem inner_ok (hs : sg ∈ sgs) {n : Nat} (hp : PW sg n ps) (hn : n ≤ 10) {sc : D} {k : Nat} {c : BoxC} (hc : B3 c) (v7 v8 v9 v10 v11 v12 : Sl) : ∃ c' w8 w9 w10 w11 w12, B3 c' ∧ inB0 (EL sc k c sg ps v7 v8 v9 v10 v11 v12) = some (.nx (EL sc k c' sg ps v7 w8 w9 w10 w11 w12)) := by
  obtain ⟨s1, s2, s3⟩ := sgs_ok hs
  have R := hp.pr s3 (by omega)
  obtain ⟨w, c1, a1, a2, a3, a4⟩ := row_ok hc s1 s2 (n := 9) (by omega)
  obtain ⟨f1, f2⟩ := nf_in R _ w (Nat.le_refl _) a1
  obtain ⟨g1, g2⟩ := nf_nf (w := w) R
  have hw : w.length ≤ 1000 := by omega
  have cw := code9 a2
  have cn := code9 (w := nf ps w) (by omega)
  have e1 : i1 (EL sc k c sg ps v7 v8 v9 v10 v11 v12) = some (.nx (EL sc k c1 sg ps v7 (.s (tD w)) v9 v10 v11 v12)) := (sSet_of (fCaB_of (p := false) (c := c) (ρ1 := EL sc k c sg ps v7 v8 v9 v10 v11 v12) (ds := [tD sg, .int (9 : Nat)]) rfl (aC_of (x := tD sg) rfl (aC_of rfl rfl)) rfl a4)).trans rfl
  have e2 : i2 (EL sc k c1 sg ps v7 (.s (tD w)) v9 v10 v11 v12) = some (.nx (EL sc k c1 sg ps v7 (.s (tD w)) (.s (.lst (mvs (rd ps w)))) (.s (tD (nf ps w))) v11 v12)) := sAs_of (fAp_of (aC_of (x := psD ps) rfl (aC_of (x := tD w) rfl rfl)) (w_road_ok R cw hw)) rfl
  have hm := moves_ok (sg := sg) (ps := ps) hw R.len
  have e3 : i3 (EL sc k c1 sg ps v7 (.s (tD w)) (.s (.lst (mvs (rd ps w)))) (.s (tD (nf ps w))) v11 v12) = some (.nx (EL sc k c1 sg ps v7 (.s (tD w)) (.s (.lst (mvs (rd ps w)))) (.s (tD (nf ps w))) v11 v12)) := by
    unfold i3
    refine sif1 (cor2 (tfB (fAp_of (aC_of (x := rul sg ps) rfl (aC_of (x := tD w) rfl rfl)) hm) (fU_of (x := .lst ((moves ps w).map mvD)) (fAp_of (aC_of (x := psD ps) rfl (aC_of (x := tD w) rfl rfl)) (w_moves_ok hw R.len)) rfl) (ne_mvs _)) (tfB (fAp_of (aC_of (x := rul sg ps) rfl (aC_of (x := tD w) rfl rfl)) (kw_moves hw R.len)) (fAp_of (aC_of (x := rul sg ps) rfl (aC_of (x := tD w) rfl rfl)) hm) (ne_mvs _)))
  have e4 : ∃ w11 w12, i4 (EL sc k c1 sg ps v7 (.s (tD w)) (.s (.lst (mvs (rd ps w)))) (.s (tD (nf ps w))) v11 v12) = some (.nx (EL sc k c1 sg ps v7 (.s (tD w)) (.s (.lst (mvs (rd ps w)))) (.s (tD (nf ps w))) w11 w12)) := by
    obtain ⟨ρ', h1, w11, w12, h2⟩ := for_inv (tg := gN 11) (b := m1) (fun ρ => ∃ w11 w12, ρ = EL sc k c1 sg ps v7 (.s (tD w)) (.s (.lst (mvs (rd ps w)))) (.s (tD (nf ps w))) w11 w12) ((moves ps w).map mvD) (EL sc k c1 sg ps v7 (.s (tD w)) (.s (.lst (mvs (rd ps w)))) (.s (tD (nf ps w))) v11 v12) ⟨v11, v12, rfl⟩ (fun x hx ρ hρ => by
      obtain ⟨w11, w12, rfl⟩ := hρ
      obtain ⟨m, hmm, rfl⟩ := List.mem_map.mp hx
      exact ⟨EL sc k c1 sg ps v7 (.s (tD w)) (.s (.lst (mvs (rd ps w)))) (.s (tD (nf ps w))) (.s (mvD m)) w12, _, rfl, .inl (mv_turn R hw hmm v7 _ _ w12), _, _, rfl⟩)
    subst h2
    refine ⟨w11, w12, ?_⟩
    have hi : iS (fAp (methD "Rules" "moves" (fnD 2 7 b_Rules_moves)) (aC (fN 6) (aC (fN 8) aN))) (EL sc k c1 sg ps v7 (.s (tD w)) (.s (.lst (mvs (rd ps w)))) (.s (tD (nf ps w))) v11 v12) = some ((moves ps w).map mvD, EL sc k c1 sg ps v7 (.s (tD w)) (.s (.lst (mvs (rd ps w)))) (.s (tD (nf ps w))) v11 v12) := iS_of (fAp_of (aC_of (x := rul sg ps) rfl (aC_of (x := tD w) rfl rfl)) hm) rfl
    unfold i4 sFor
    rw [hi]
    exact h1
  obtain ⟨w11, w12, e4⟩ := e4
  have hr := road_ok (sg := sg) R cw hw
  have hrd : neO (.tup (mvs (rd ps w))) (.tup (mvs (rd ps w))) = some (.bl false) := by rw [mvs_map]; exact ne_mvs _
  have hre := reduced_ok (sg := sg) R cw hw
  have hrk := kw_reduced (sg := sg) (w := nf ps w) R cn (by omega)
  rw [g1] at hrk
  have e5 : i5 (EL sc k c1 sg ps v7 (.s (tD w)) (.s (.lst (mvs (rd ps w)))) (.s (tD (nf ps w))) w11 w12) = some (.nx (EL sc k c1 sg ps v7 (.s (tD w)) (.s (.lst (mvs (rd ps w)))) (.s (tD (nf ps w))) w11 w12)) := by
    unfold i5
    refine sif1 (cor2 (tfB (fAp_of (aC_of (x := rul sg ps) rfl (aC_of (x := tD w) rfl rfl)) hr) (fU_of (x := .lst (mvs (rd ps w))) rfl rfl) hrd) (cor2 (tfB (fAp_of (aC_of (x := rul sg ps) rfl (aC_of (x := tD w) rfl rfl)) hre) rfl (neT _)) (tfB (fAp_of (aC_of (x := rul sg ps) rfl (aC_of (x := tD (nf ps w)) rfl rfl)) hrk) rfl (neT _))))
  have hk := kw_road (sg := sg) (w := nf ps w) R cn (by omega)
  rw [g2] at hk
  have e6 : i6 (EL sc k c1 sg ps v7 (.s (tD w)) (.s (.lst (mvs (rd ps w)))) (.s (tD (nf ps w))) w11 w12) = some (.nx (EL sc k c1 sg ps v7 (.s (tD w)) (.s (.lst (mvs (rd ps w)))) (.s (tD (nf ps w))) w11 w12)) := by
    unfold i6
    refine sif1 (tfB (fAp_of (aC_of (x := rul sg ps) rfl (aC_of (x := tD (nf ps w)) rfl rfl)) hk) (y := .tup []) rfl (ne_mvs []))
  exact ⟨c1, _, _, _, _, _, a3, sSeq_of e1 (sSeq_of e2 (sSeq_of e3 (sSeq_of e4 (sSeq_of e5 e6))))⟩
def o6 : FS := sSet 6 (fIf (tF blD (fB eqO (fCaB (fnB 1 4 b_w_take) 2 (aC (fC (.int 2)) aN)) (fC (.int 0)))) (fMkB (iniD "Rules" 2 3 b_RulesD_initD) (fN 3) 5) (fAp (kwI 2 [1, 0] (iniD "Rules" 2 3 b_RulesD_initD)) (aC (fU tupLO (pN 5)) (aC (fN 3) aN))))
def o8 : FS := (sIf (cOr (tF blD (fB neO (fAp mkT (aC (fU (attrD ["Rules"] "signs") (pN 6)) (aC (fU (attrD ["Rules"] "pairs") (pN 6)) aN))) (fAp mkT (aC (fN 3) (aC (fU tupO (fN 4)) aN))))) (cOr (tF blD (fB (neM "Rules" (fnD 2 2 b_RulesD_eqD)) (fN 6) (fAp (iniD "Rules" 2 3 b_RulesD_initD) (aC (fN 3) (aC (fN 4) aN))))) (tF blD (fB (eqM "Rules" (fnD 2 2 b_RulesD_eqD)) (fN 6) (fN 4))))) (sRt (fC (.bl false))) sNx)
def o9 : FS := (sIf (cOr (cAnd (tF blD (fB gtO (fU lenD (pN 4)) (fC (.int 1)))) (tF blD (fB (eqM "Rules" (fnD 2 2 b_RulesD_eqD)) (fN 6) (fAp (iniD "Rules" 2 3 b_RulesD_initD) (aC (fN 3) (aC (fRev (fN 4) (fB subO (fC (.int 0)) (fC (.int 1)))) aN)))))) (cOr (tF blD (fB (neM "Rules" (fnD 2 2 b_RulesD_eqD)) (fN 6) (fN 6))) (tF blD (fB (eqM "Rules" (fnD 2 2 b_RulesD_eqD)) (fN 6) (fAp (iniD "Rules" 2 3 b_RulesD_initD) (aC (fC (.str "q")) (aC (fAp mkL aN) aN))))))) (sRt (fC (.bl false))) sNx)
def oA : FS := (sIf (cNot (tF blD (fCaB (fnB 0 5 b_w_refused_right) 2 aN))) (sRt (fC (.bl false))) sNx)
def oT : FS := sSeq o8 (sSeq o9 (sSeq (sFor (iR1 (aC (fC (.int 8)) aN)) (gN 7) inB0) oA))
def outB : FS := (sSeq (sSetO 2 (fAp (fNB (fnNB 2 4 b_w_box)) (aC (fN 0) (aC (fN 1) aN))))
      (sSeq (sSet 3 (fCaB (fnB 0 1 b_w_signs) 2 aN))
      (sSeq (sSet 4 (fCaB (fnB 2 10 b_w_pairs) 2 (aC (fN 3) (aC (fCaB (fnB 1 4 b_w_take) 2 (aC (fC (.int 5)) aN)) aN))))
      (sSeq (sSetO 5 (fU lstO (fN 4)))
      (sSeq o6
      (sSeq (sEx (fMuL appO 5 (aC (fC .non) aN))) oT))))))
theorem oT_ok (hs : sg ∈ sgs) {n : Nat} (hp : PW sg n ps) (hn : n ≤ 10) {sc : D} {k : Nat} {c : BoxC} (hc : B3 c) (v7 v8 v9 v10 v11 v12 : Sl) : ∃ c' w7 w8 w9 w10 w11 w12, B3 c' ∧ oT (EL sc k c sg ps v7 v8 v9 v10 v11 v12) = some (.nx (EL sc k c' sg ps w7 w8 w9 w10 w11 w12)) := by
  have hr := rules_ok hs hp hn
  have hrv := rules_ok hs hp.rev hn
  have e8 : o8 (EL sc k c sg ps v7 v8 v9 v10 v11 v12) = some (.nx (EL sc k c sg ps v7 v8 v9 v10 v11 v12)) := by
    unfold o8
    refine sif1 (cor2 (tfB (x := .tup [tD sg, psT ps]) (y := .tup [tD sg, psT ps]) rfl rfl (ne_rt sg ps)) (cor2 (tfB (x := rul sg ps) rfl (fAp_of (aC_of (x := tD sg) rfl (aC_of (x := psD ps) rfl rfl)) hr) (neM_no sg ps)) (tfB (x := rul sg ps) (y := psD ps) rfl rfl (eqL_no sg ps _))))
  have e9 : o9 (EL sc k c sg ps v7 v8 v9 v10 v11 v12) = some (.nx (EL sc k c sg ps v7 v8 v9 v10 v11 v12)) := by
    have hgt : tF blD (fB gtO (fU lenD (pN 4)) (fC (.int 1))) (EL sc k c sg ps v7 v8 v9 v10 v11 v12) = some (decide (1 < ps.length), EL sc k c sg ps v7 v8 v9 v10 v11 v12) := by
      refine tF_of (fB_of (x := .int ((ps.map prD).length : Nat)) rfl rfl (gtI _ _)) ?_
      rw [List.length_map]
      show some (decide ((1 : Int) < (ps.length : Int))) = _
      congr 1
      rw [decide_eq_decide]
      omega
    have h1 : cAnd (tF blD (fB gtO (fU lenD (pN 4)) (fC (.int 1)))) (tF blD (fB (eqM "Rules" (fnD 2 2 b_RulesD_eqD)) (fN 6) (fAp (iniD "Rules" 2 3 b_RulesD_initD) (aC (fN 3) (aC (fRev (fN 4) (fB subO (fC (.int 0)) (fC (.int 1)))) aN))))) (EL sc k c sg ps v7 v8 v9 v10 v11 v12) = some (false, EL sc k c sg ps v7 v8 v9 v10 v11 v12) := by
      by_cases hl : 1 < ps.length
      · rw [decide_eq_true hl] at hgt
        rw [cAnd_t hgt]
        exact tF_of (fB_of (x := rul sg ps) rfl (fAp_of (aC_of (x := tD sg) rfl (aC_of (fRev_of (x := psD ps) (y := .int (-1)) rfl rfl (revD ps)) rfl)) hrv) (eqM_ok sg sg ps ps.reverse (rev_ne hp hl))) rfl
      · rw [decide_eq_false hl] at hgt
        exact cAnd_f hgt
    unfold o9
    refine sif1 (cor2 h1 (cor2 (tfB (x := rul sg ps) (y := rul sg ps) rfl rfl (neM_no sg ps)) (tfB (x := rul sg ps) rfl (fAp_of (aC_of (x := tD [113]) rfl (aC_of (x := .lst []) rfl rfl)) rules_q) (eqM_ok sg [113] ps [] (q_ne hs)))))
  obtain ⟨ρ', g1, c4, g2, w7, w8, w9, w10, w11, w12, g3⟩ := for_inv (tg := gN 7) (b := inB0) (fun ρ => ∃ c4, B3 c4 ∧ ∃ w7 w8 w9 w10 w11 w12, ρ = EL sc k c4 sg ps w7 w8 w9 w10 w11 w12) (rng 0 8) (EL sc k c sg ps v7 v8 v9 v10 v11 v12) ⟨c, hc, v7, v8, v9, v10, v11, v12, rfl⟩ (fun x hx ρ hρ => by
    obtain ⟨c4, h1, u7, u8, u9, u10, u11, u12, rfl⟩ := hρ
    obtain ⟨c5, y8, y9, y10, y11, y12, h2, h3⟩ := inner_ok hs hp hn (sc := sc) (k := k) h1 (.s x) u8 u9 u10 u11 u12
    exact ⟨EL sc k c4 sg ps (.s x) u8 u9 u10 u11 u12, EL sc k c5 sg ps (.s x) y8 y9 y10 y11 y12, rfl, .inl h3, c5, h2, .s x, y8, y9, y10, y11, y12, rfl⟩)
  subst g3
  obtain ⟨c5, h1, h2⟩ := refused_ok g2
  refine ⟨c5, w7, w8, w9, w10, w11, w12, h1, sSeq_of e8 (sSeq_of e9 (sSeq_of (ρ1 := EL sc k c4 sg ps w7 w8 w9 w10 w11 w12) ?_ ?_))⟩
  · unfold sFor
    rw [iR1_nat (n := 8) (ρ := EL sc k c sg ps v7 v8 v9 v10 v11 v12) (ρ1 := EL sc k c sg ps v7 v8 v9 v10 v11 v12) (aC_of rfl rfl) (by omega)]
    exact g1
  · unfold oA
    exact (sIf_f (cNot_of (tF_of (b := true) (fCaB_of (p := false) (c := c4) (ρ := EL sc k c4 sg ps w7 w8 w9 w10 w11 w12) (ρ1 := EL sc k c4 sg ps w7 w8 w9 w10 w11 w12) (ds := []) rfl rfl rfl h2) rfl))).trans rfl
end
theorem outer_ok (ns : List Int) (k : Nat) (v2 v3 v4 v5 v6 v7 v8 v9 v10 v11 v12 : Sl) : ∃ w2 w3 w4 w5 w6 w7 w8 w9 w10 w11 w12 : Sl, outB [.s (.lst (ns.map D.int)), .s (.int (k : Nat)), v2, v3, v4, v5, v6, v7, v8, v9, v10, v11, v12] = some (.nx [.s (.lst (ns.map D.int)), .s (.int (k : Nat)), w2, w3, w4, w5, w6, w7, w8, w9, w10, w11, w12]) := by
  obtain ⟨c0, h0, e0⟩ := box_ok ns k
  obtain ⟨sg, c1, hs, h1, e1⟩ := signs_ok h0
  obtain ⟨s1, s2, s3⟩ := sgs_ok hs
  obtain ⟨t, c2, t1, h2, e2⟩ := take_ok h1 (n := 5) (by omega) (by omega)
  obtain ⟨ps, c3, hp, h3, e3⟩ := pairs_ok (sg := sg) h2 s1 s2 (n := t) (by omega)
  obtain ⟨b, c4, b1, h4, e4⟩ := take_ok h3 (n := 2) (by omega) (by omega)
  have r1 := rules_ok hs hp (by omega)
  have r2 := rules_okT hs hp (by omega)
  have hb := big6
  have hlen := hp.len
  let E (a2 a3 a4 a5 a6 : Sl) : En := [.s (.lst (ns.map D.int)), .s (.int (k : Nat)), a2, a3, a4, a5, a6, v7, v8, v9, v10, v11, v12]
  have f0 : sSetO 2 (fAp (fNB (fnNB 2 4 b_w_box)) (aC (fN 0) (aC (fN 1) aN))) (E v2 v3 v4 v5 v6) = some (.nx (E (.o (.box false c0)) v3 v4 v5 v6)) := (sSetO_of (fAp_of (d := .box false c0) (aC_of (x := .lst (ns.map D.int)) rfl (aC_of (x := .int (k : Nat)) rfl rfl)) (by unfold fNB; rw [e0]; rfl))).trans rfl
  have f1 : sSet 3 (fCaB (fnB 0 1 b_w_signs) 2 aN) (E (.o (.box false c0)) v3 v4 v5 v6) = some (.nx (E (.o (.box false c1)) (.s (tD sg)) v4 v5 v6)) := (sSet_of (fCaB_of (p := false) (c := c0) (ρ := E (.o (.box false c0)) v3 v4 v5 v6) (ρ1 := E (.o (.box false c0)) v3 v4 v5 v6) (ds := []) rfl rfl rfl e1)).trans rfl
  have f2a : fCaB (fnB 1 4 b_w_take) 2 (aC (fC (.int 5)) aN) (E (.o (.box false c1)) (.s (tD sg)) v4 v5 v6) = some (.int (t : Nat), E (.o (.box false c2)) (.s (tD sg)) v4 v5 v6) := fCaB_of (p := false) (c := c1) (ρ1 := E (.o (.box false c1)) (.s (tD sg)) v4 v5 v6) (ds := [.int (5 : Nat)]) rfl (aC_of rfl rfl) rfl e2
  have f2 : sSet 4 (fCaB (fnB 2 10 b_w_pairs) 2 (aC (fN 3) (aC (fCaB (fnB 1 4 b_w_take) 2 (aC (fC (.int 5)) aN)) aN))) (E (.o (.box false c1)) (.s (tD sg)) v4 v5 v6) = some (.nx (E (.o (.box false c3)) (.s (tD sg)) (.s (psD ps)) v5 v6)) :=
    (sSet_of (fCaB_of2 (p := false) (p0 := false) (c0 := c1) (c := c2) (ρ := E (.o (.box false c1)) (.s (tD sg)) v4 v5 v6) (ρ1 := E (.o (.box false c2)) (.s (tD sg)) v4 v5 v6) (ds := [tD sg, .int ((t : Nat) : Int)]) rfl (aC_of (x := tD sg) rfl (aC_of f2a rfl)) rfl e3)).trans rfl
  have f3 : sSetO 5 (fU lstO (fN 4)) (E (.o (.box false c3)) (.s (tD sg)) (.s (psD ps)) v5 v6) = some (.nx (E (.o (.box false c3)) (.s (tD sg)) (.s (psD ps)) (.o (.lst (ps.map prD))) v6)) := rfl
  have f4a : tF blD (fB eqO (fCaB (fnB 1 4 b_w_take) 2 (aC (fC (.int 2)) aN)) (fC (.int 0))) (E (.o (.box false c3)) (.s (tD sg)) (.s (psD ps)) (.o (.lst (ps.map prD))) v6) = some (decide (((b : Nat) : Int) = 0), E (.o (.box false c4)) (.s (tD sg)) (.s (psD ps)) (.o (.lst (ps.map prD))) v6) :=
    tF_of (fB_of (fCaB_of (p := false) (c := c3) (ρ1 := E (.o (.box false c3)) (.s (tD sg)) (.s (psD ps)) (.o (.lst (ps.map prD))) v6) (ds := [.int (2 : Nat)]) rfl (aC_of rfl rfl) rfl e4) rfl (eqI _ _)) rfl
  have f4 : o6 (E (.o (.box false c3)) (.s (tD sg)) (.s (psD ps)) (.o (.lst (ps.map prD))) v6) = some (.nx (E (.o (.box false c4)) (.s (tD sg)) (.s (psD ps)) (.o (.lst (ps.map prD))) (.s (rul sg ps)))) := by
    unfold o6
    by_cases hz : ((b : Nat) : Int) = 0
    · rw [decide_eq_true hz] at f4a
      exact (sSet_of (fIf_t f4a (fMkB_of (x := tD sg) (ρ1 := E (.o (.box false c4)) (.s (tD sg)) (.s (psD ps)) (.o (.lst (ps.map prD))) v6) rfl rfl r1 (noL_rul sg ps)))).trans rfl
    · rw [decide_eq_false hz] at f4a
      exact (sSet_of (fIf_f f4a (fAp_of (aC_of (x := psT ps) rfl (aC_of (x := tD sg) rfl rfl)) (kwI_ok r2)))).trans rfl
  have f5 : sEx (fMuL appO 5 (aC (fC .non) aN)) (E (.o (.box false c4)) (.s (tD sg)) (.s (psD ps)) (.o (.lst (ps.map prD))) (.s (rul sg ps))) = some (.nx (EL (.lst (ns.map D.int)) k c4 sg ps v7 v8 v9 v10 v11 v12)) :=
    (sEx_of (fMuL_of (ds0 := ps.map prD) (as := [.non]) (ds := ps.map prD) rfl rfl rfl (app_ok (by rw [List.length_map]; omega)))).trans rfl
  obtain ⟨c6, w7, w8, w9, w10, w11, w12, _, k2⟩ := oT_ok hs hp (by omega) (sc := .lst (ns.map D.int)) (k := k) h4 v7 v8 v9 v10 v11 v12
  exact ⟨_, _, _, _, _, w7, w8, w9, w10, w11, w12, sSeq_of f0 (sSeq_of f1 (sSeq_of f2 (sSeq_of f3 (sSeq_of f4 (sSeq_of f5 k2)))))⟩
theorem b_law_eq : b_law = sSeq (sFor (iR1 (aC (fB maxO (fC (.int 1)) (fB minO (fC (.int 3)) (fU lenD (pN 0)))) aN)) (gN 1) outB) (sRt (fC (.bl true))) := rfl
def E0 (ns : List Int) (v1 v2 v3 v4 v5 v6 v7 v8 v9 v10 v11 v12 : Sl) : En := [.s (.lst (ns.map D.int)), v1, v2, v3, v4, v5, v6, v7, v8, v9, v10, v11, v12]
theorem law_ok {ns : List Int} (hn : ns.length ≤ 1000) : fnD 1 13 b_law [.lst (ns.map .int)] = some (.bl true) := by
  have hmx : ∃ m : Nat, m ≤ 3 ∧ fB maxO (fC (.int 1)) (fB minO (fC (.int 3)) (fU lenD (pN 0))) (E0 ns .u .u .u .u .u .u .u .u .u .u .u .u) = some (.int (m : Nat), E0 ns .u .u .u .u .u .u .u .u .u .u .u .u) := by
    refine ⟨max 1 (min 3 ns.length), by omega, fB_of (x := .int 1) rfl (fB_of (x := .int 3) rfl (fU_of (x := .lst (ns.map .int)) rfl rfl) rfl) ?_⟩
    show some (D.int (if (if ((ns.map D.int).length : Int) < 3 then ((ns.map D.int).length : Int) else 3) > 1 then (if ((ns.map D.int).length : Int) < 3 then ((ns.map D.int).length : Int) else 3) else 1)) = some (D.int _)
    rw [List.length_map]
    congr 2
    (repeat' split) <;> omega
  obtain ⟨m, hm, hmx⟩ := hmx
  obtain ⟨ρ', e1, v1, v2, v3, v4, v5, v6, v7, v8, v9, v10, v11, v12, e2⟩ := for_inv (tg := gN 1) (b := outB) (fun ρ => ∃ v1 v2 v3 v4 v5 v6 v7 v8 v9 v10 v11 v12, ρ = E0 ns v1 v2 v3 v4 v5 v6 v7 v8 v9 v10 v11 v12) (rng 0 m) (E0 ns .u .u .u .u .u .u .u .u .u .u .u .u) ⟨.u, .u, .u, .u, .u, .u, .u, .u, .u, .u, .u, .u, rfl⟩ (fun x hx ρ hρ => by
    obtain ⟨v1, v2, v3, v4, v5, v6, v7, v8, v9, v10, v11, v12, rfl⟩ := hρ
    unfold rng at hx
    obtain ⟨k, hk, rfl⟩ := List.mem_map.mp hx
    obtain ⟨w2, w3, w4, w5, w6, w7, w8, w9, w10, w11, w12, h⟩ := outer_ok ns k v2 v3 v4 v5 v6 v7 v8 v9 v10 v11 v12
    exact ⟨_, _, rfl, .inl h, .s (.int (k : Nat)), w2, w3, w4, w5, w6, w7, w8, w9, w10, w11, w12, rfl⟩)
  subst e2
  refine fnD_rt (ρ := E0 ns v1 v2 v3 v4 v5 v6 v7 v8 v9 v10 v11 v12) rfl ?_
  rw [b_law_eq]
  refine sSeq_of (ρ1 := E0 ns v1 v2 v3 v4 v5 v6 v7 v8 v9 v10 v11 v12) ?_ rfl
  unfold sFor
  show (iR1 _ (E0 ns .u .u .u .u .u .u .u .u .u .u .u .u)).bind _ = _
  rw [iR1_nat (n := m) (aC_of hmx rfl) (by omega)]
  exact e1
end K60
namespace K60
open PySem PySem.Spec PyProof.Rows L2 AR VS
theorem factsL {w : World} {K : PySem.W.Frag} {h : Heap} {mg : Str → Option Value} (X : K.In h) (G : h.Ns mainGlobals mg) (c : SaysY faL fnL xdL exL fileL w h K) : Tx K mg := by
  have x0 : exL K = true := c.ex'
  unfold exL at x0
  obtain ⟨y0, x1⟩ := He.ba x0
  obtain ⟨y1, x2⟩ := He.ba x1
  obtain ⟨y2, x3⟩ := He.ba x2
  obtain ⟨y3, x4⟩ := He.ba x3
  obtain ⟨y4, x5⟩ := He.ba x4
  have y5 := x5
  have xf0 : ExF K "InvalidRules" "word" := ExF.of (P := RL.prog) (d := ⟨"InvalidRules", "word", "InvalidRules.__init__", defArgs s_InvalidRules_xini, defBody s_InvalidRules_xini, defScope s_InvalidRules_xini⟩) (c.xd 0).1 (c.xd 0).2
  have c0 := c
  exact {
    b_isinstance := He.free_ok X G (c.x.t.d.fact 3 (f := .free "isinstance") rfl),
    b_str := He.free_ok X G (c.x.t.d.fact 4 (f := .free "str") rfl),
    b_all := He.free_ok X G (c.x.t.d.fact 5 (f := .free "all") rfl),
    b_len := He.free_ok X G (c.x.t.d.fact 6 (f := .free "len") rfl),
    b_zip := He.free_ok X G (c.x.t.d.fact 7 (f := .free "zip") rfl),
    b_tuple := He.free_ok X G (c.x.t.d.fact 8 (f := .free "tuple") rfl),
    b_list := He.free_ok X G (c.x.t.d.fact 9 (f := .free "list") rfl),
    b_enumerate := He.free_ok X G (c.x.t.d.fact 10 (f := .free "enumerate") rfl),
    b_any := He.free_ok X G (c.x.t.d.fact 11 (f := .free "any") rfl),
    b_range := He.free_ok X G (c.x.t.d.fact 12 (f := .free "range") rfl),
    b_abs := He.free_ok X G (c.x.t.d.fact 13 (f := .free "abs") rfl),
    b_int := He.free_ok X G (c.x.t.d.fact 14 (f := .free "int") rfl),
    b_max := He.free_ok X G (c.x.t.d.fact 15 (f := .free "max") rfl),
    b_min := He.free_ok X G (c.x.t.d.fact 16 (f := .free "min") rfl),
    b_repr := He.free_ok X G (c.x.t.d.fact 17 (f := .free "repr") rfl),
    b_bool := He.free_ok X G (c.x.t.d.fact 18 (f := .free "bool") rfl),
    k_PAIR := by
      obtain ⟨t, e⟩ := He.int_ok X G (c.x.t.d.fact 20 (f := .int "PAIR" 2) rfl)
      exact ⟨_, .int 2, e, ⟨t, rfl⟩, fun H => .int _⟩,
    at_signs := fun c hc => by
      rw [List.mem_singleton.mp hc]
      exact ⟨He.cls_ok (c0.x.t.d.fact 40 (f := .cls "Rules") rfl), He.noat_ok (c0.x.t.d.fact 41 (f := .noat "Rules" "signs") rfl)⟩,
    at_pairs := fun c hc => by
      rw [List.mem_singleton.mp hc]
      exact ⟨He.cls_ok (c0.x.t.d.fact 40 (f := .cls "Rules") rfl), He.noat_ok (c0.x.t.d.fact 42 (f := .noat "Rules" "pairs") rfl)⟩,
    cl_Rules := He.cls_ok (c.x.t.d.fact 40 (f := .cls "Rules") rfl),
    d_is_row_of := by
      obtain ⟨fd, F⟩ := c.x.t.d.def_ 0 (d := dD_is_row_of) rfl
      exact ⟨_, fd, F, He.glo_ok X G (c.x.t.d.fact 21 (f := .glo "is_row_of") rfl), F.bindsN (ps := ["value", "signs"]) (fun _ _ _ _ _ _ us hl => match us, hl with | [_, _], _ => rfl)⟩,
    d_rank := by
      obtain ⟨fd, F⟩ := c.x.t.d.def_ 1 (d := dD_rank) rfl
      exact ⟨_, fd, F, He.glo_ok X G (c.x.t.d.fact 22 (f := .glo "rank") rfl), F.bindsN (ps := ["row"]) (fun _ _ _ _ _ _ us hl => match us, hl with | [_], _ => rfl)⟩,
    d_are_signs := by
      obtain ⟨fd, F⟩ := c.x.t.d.def_ 2 (d := dD_are_signs) rfl
      exact ⟨_, fd, F, He.glo_ok X G (c.x.t.d.fact 23 (f := .glo "are_signs") rfl), F.bindsN (ps := ["value"]) (fun _ _ _ _ _ _ us hl => match us, hl with | [_], _ => rfl)⟩,
    d_is_pair := by
      obtain ⟨fd, F⟩ := c.x.t.d.def_ 3 (d := dD_is_pair) rfl
      exact ⟨_, fd, F, He.glo_ok X G (c.x.t.d.fact 24 (f := .glo "is_pair") rfl), F.bindsN (ps := ["value", "signs"]) (fun _ _ _ _ _ _ us hl => match us, hl with | [_, _], _ => rfl)⟩,
    d_are_pairs := by
      obtain ⟨fd, F⟩ := c.x.t.d.def_ 4 (d := dD_are_pairs) rfl
      exact ⟨_, fd, F, He.glo_ok X G (c.x.t.d.fact 25 (f := .glo "are_pairs") rfl), F.bindsN (ps := ["value", "signs"]) (fun _ _ _ _ _ _ us hl => match us, hl with | [_, _], _ => rfl)⟩,
    i_Rules := by
      obtain ⟨fd, F⟩ := c.x.t.d.def_ 18 (d := dD_Rules_init) rfl
      exact ⟨_, fd, F, He.mkr_ok (c.x.t.d.fact 43 (f := .mkr "Rules") rfl), He.glo_ok X G (c.x.t.d.fact 39 (f := .glo "Rules") rfl), F.bindsN (ps := ["self", "signs", "pairs"]) (fun _ _ _ _ _ _ us hl => match us, hl with | [_, _, _], _ => rfl)⟩,
    m_Rules_moves := by
      obtain ⟨fd, F⟩ := c.x.t.d.def_ 19 (d := dD_Rules_moves) rfl
      exact ⟨_, fd, F, He.meth_ok (c.x.t.d.fact 44 (f := .meth "Rules" "moves") rfl), F.bindsN (ps := ["self", "row"]) (fun _ _ _ _ _ _ us hl => match us, hl with | [_, _], _ => rfl)⟩,
    m_Rules_after := by
      obtain ⟨fd, F⟩ := c.x.t.d.def_ 20 (d := dD_Rules_after) rfl
      exact ⟨_, fd, F, He.meth_ok (c.x.t.d.fact 45 (f := .meth "Rules" "after") rfl), F.bindsN (ps := ["self", "row", "move"]) (fun _ _ _ _ _ _ us hl => match us, hl with | [_, _, _], _ => rfl)⟩,
    m_Rules_least_move := by
      obtain ⟨fd, F⟩ := c.x.t.d.def_ 21 (d := dD_Rules_least_move) rfl
      exact ⟨_, fd, F, He.meth_ok (c.x.t.d.fact 46 (f := .meth "Rules" "least_move") rfl), F.bindsN (ps := ["self", "row"]) (fun _ _ _ _ _ _ us hl => match us, hl with | [_, _], _ => rfl)⟩,
    m_Rules_road := by
      obtain ⟨fd, F⟩ := c.x.t.d.def_ 22 (d := dD_Rules_road) rfl
      exact ⟨_, fd, F, He.meth_ok (c.x.t.d.fact 47 (f := .meth "Rules" "road") rfl), F.bindsN (ps := ["self", "row"]) (fun _ _ _ _ _ _ us hl => match us, hl with | [_, _], _ => rfl)⟩,
    m_Rules_reduced := by
      obtain ⟨fd, F⟩ := c.x.t.d.def_ 23 (d := dD_Rules_reduced) rfl
      exact ⟨_, fd, F, He.meth_ok (c.x.t.d.fact 48 (f := .meth "Rules" "reduced") rfl), F.bindsN (ps := ["self", "row"]) (fun _ _ _ _ _ _ us hl => match us, hl with | [_, _], _ => rfl)⟩,
    m_Rules___eq__ := by
      obtain ⟨fd, F⟩ := c.x.t.d.def_ 24 (d := dD_RulesD_eqD) rfl
      exact ⟨_, fd, F, He.meth_ok (c.x.t.d.fact 49 (f := .meth "Rules" "__eq__") rfl), F.bindsN (ps := ["self", "other"]) (fun _ _ _ _ _ _ us hl => match us, hl with | [_, _], _ => rfl)⟩,
    d_box := by
      obtain ⟨fd, F⟩ := c.x.t.d.def_ 5 (d := dD_w_box) rfl
      exact ⟨_, fd, F, He.glo_ok X G (c.x.t.d.fact 26 (f := .glo "_law_box") rfl), F.bindsN (ps := ["_law_script", "_law_k"]) (fun _ _ _ _ _ _ us hl => match us, hl with | [_, _], _ => rfl)⟩,
    d_take := by
      obtain ⟨fd, F⟩ := c.x.t.d.def_ 6 (d := dD_w_take) rfl
      exact ⟨_, fd, F, He.glo_ok X G (c.x.t.d.fact 27 (f := .glo "_law_take") rfl), F.bindsN (ps := ["_law_box_here", "_law_many"]) (fun _ _ _ _ _ _ us hl => match us, hl with | [_, _], _ => rfl)⟩,
    d_pick := by
      obtain ⟨fd, F⟩ := c.x.t.d.def_ 7 (d := dD_w_pick) rfl
      exact ⟨_, fd, F, He.glo_ok X G (c.x.t.d.fact 28 (f := .glo "_law_pick") rfl), F.bindsN (ps := ["_law_box_here", "_law_some"]) (fun _ _ _ _ _ _ us hl => match us, hl with | [_, _], _ => rfl)⟩,
    d_w_rank := by
      obtain ⟨fd, F⟩ := c.x.t.d.def_ 8 (d := dD_w_rank) rfl
      exact ⟨_, fd, F, He.glo_ok X G (c.x.t.d.fact 29 (f := .glo "_law_rank") rfl), F.bindsN (ps := ["_law_row_here"]) (fun _ _ _ _ _ _ us hl => match us, hl with | [_], _ => rfl)⟩,
    d_signs := by
      obtain ⟨fd, F⟩ := c.x.t.d.def_ 9 (d := dD_w_signs) rfl
      exact ⟨_, fd, F, He.glo_ok X G (c.x.t.d.fact 30 (f := .glo "_law_signs") rfl), F.bindsN (ps := ["_law_box_here"]) (fun _ _ _ _ _ _ us hl => match us, hl with | [_], _ => rfl)⟩,
    d_row := by
      obtain ⟨fd, F⟩ := c.x.t.d.def_ 10 (d := dD_w_row) rfl
      exact ⟨_, fd, F, He.glo_ok X G (c.x.t.d.fact 31 (f := .glo "_law_row") rfl), F.bindsN (ps := ["_law_box_here", "_law_signs_here", "_law_long"]) (fun _ _ _ _ _ _ us hl => match us, hl with | [_, _, _], _ => rfl)⟩,
    d_pairs := by
      obtain ⟨fd, F⟩ := c.x.t.d.def_ 11 (d := dD_w_pairs) rfl
      exact ⟨_, fd, F, He.glo_ok X G (c.x.t.d.fact 32 (f := .glo "_law_pairs") rfl), F.bindsN (ps := ["_law_box_here", "_law_signs_here", "_law_many"]) (fun _ _ _ _ _ _ us hl => match us, hl with | [_, _, _], _ => rfl)⟩,
    d_moves := by
      obtain ⟨fd, F⟩ := c.x.t.d.def_ 12 (d := dD_w_moves) rfl
      exact ⟨_, fd, F, He.glo_ok X G (c.x.t.d.fact 33 (f := .glo "_law_moves") rfl), F.bindsN (ps := ["_law_pairs_here", "_law_row_here"]) (fun _ _ _ _ _ _ us hl => match us, hl with | [_, _], _ => rfl)⟩,
    d_after := by
      obtain ⟨fd, F⟩ := c.x.t.d.def_ 13 (d := dD_w_after) rfl
      exact ⟨_, fd, F, He.glo_ok X G (c.x.t.d.fact 34 (f := .glo "_law_after") rfl), F.bindsN (ps := ["_law_pairs_here", "_law_row_here", "_law_move"]) (fun _ _ _ _ _ _ us hl => match us, hl with | [_, _, _], _ => rfl)⟩,
    d_road := by
      obtain ⟨fd, F⟩ := c.x.t.d.def_ 14 (d := dD_w_road) rfl
      exact ⟨_, fd, F, He.glo_ok X G (c.x.t.d.fact 35 (f := .glo "_law_road") rfl), F.bindsN (ps := ["_law_pairs_here", "_law_row_here"]) (fun _ _ _ _ _ _ us hl => match us, hl with | [_, _], _ => rfl)⟩,
    d_heard := by
      obtain ⟨fd, F⟩ := c.x.t.d.def_ 15 (d := dD_w_heard) rfl
      exact ⟨_, fd, F, He.glo_ok X G (c.x.t.d.fact 36 (f := .glo "_law_heard") rfl), F.bindsN (ps := ["_law_signs_here", "_law_pairs_here"]) (fun _ _ _ _ _ _ us hl => match us, hl with | [_, _], _ => rfl)⟩,
    d_refused_right := by
      obtain ⟨fd, F⟩ := c.x.t.d.def_ 16 (d := dD_w_refused_right) rfl
      exact ⟨_, fd, F, He.glo_ok X G (c.x.t.d.fact 37 (f := .glo "_law_refused_right") rfl), F.bindsN (ps := ["_law_box_here"]) (fun _ _ _ _ _ _ us hl => match us, hl with | [_], _ => rfl)⟩,
    g_Rules := He.glo_ok X G (c.x.t.d.fact 39 (f := .glo "Rules") rfl),
    g_InvalidRules := He.glo_ok X G (c.x.t.d.fact 0 (f := .glo "InvalidRules") rfl),
    g_RowError := He.glo_ok X G (c.x.t.d.fact 1 (f := .glo "RowError") rfl),
    g_InvalidReader := He.glo_ok X G (c.x.t.d.fact 2 (f := .glo "InvalidReader") rfl),
    w_Rules := iwB_ok (He.cls_ok (c.x.t.d.fact 40 (f := .cls "Rules") rfl)) y0,
    sl_Rules := of_decide_eq_true y1,
    ne_Rules := He.eqO_ok y2,
    mo_Rules := of_decide_eq_true y3,
    ki_InvalidRules_RowError := of_decide_eq_true y4,
    ki_InvalidRules_InvalidReader := of_decide_eq_true y5,
    ex_InvalidRules := xf0.exm,
    xf_InvalidRules := xf0.xf,
    xc_InvalidRules := xf0.xc,
    no_InvalidRules := xf0.no,
    mk_Rules_0 := by
      obtain ⟨fd, F⟩ := c.x.t.d.def_ 18 (d := dD_Rules_init) rfl
      exact ⟨_, fd, F, He.mkr_ok (c.x.t.d.fact 43 (f := .mkr "Rules") rfl), He.glo_ok X G (c.x.t.d.fact 39 (f := .glo "Rules") rfl), kbn_of (ps := ["self", "signs", "pairs"]) F (fun _ _ _ _ _ _ us ws h1 h2 => match us, ws, h1, h2 with | [_], [_, _], _, _ => rfl)⟩,
    mk_Rules_moves_0 := by
      obtain ⟨fd, F⟩ := c.x.t.d.def_ 19 (d := dD_Rules_moves) rfl
      exact ⟨_, fd, F, He.meth_ok (c.x.t.d.fact 44 (f := .meth "Rules" "moves") rfl), kbn_of (ps := ["self", "row"]) F (fun _ _ _ _ _ _ us ws h1 h2 => match us, ws, h1, h2 with | [_], [_], _, _ => rfl)⟩,
    mk_Rules_after_0 := by
      obtain ⟨fd, F⟩ := c.x.t.d.def_ 20 (d := dD_Rules_after) rfl
      exact ⟨_, fd, F, He.meth_ok (c.x.t.d.fact 45 (f := .meth "Rules" "after") rfl), kbn_of (ps := ["self", "row", "move"]) F (fun _ _ _ _ _ _ us ws h1 h2 => match us, ws, h1, h2 with | [_], [_, _], _, _ => rfl)⟩,
    mk_Rules_reduced_0 := by
      obtain ⟨fd, F⟩ := c.x.t.d.def_ 23 (d := dD_Rules_reduced) rfl
      exact ⟨_, fd, F, He.meth_ok (c.x.t.d.fact 48 (f := .meth "Rules" "reduced") rfl), kbn_of (ps := ["self", "row"]) F (fun _ _ _ _ _ _ us ws h1 h2 => match us, ws, h1, h2 with | [_], [_], _, _ => rfl)⟩,
    mk_Rules_road_0 := by
      obtain ⟨fd, F⟩ := c.x.t.d.def_ 22 (d := dD_Rules_road) rfl
      exact ⟨_, fd, F, He.meth_ok (c.x.t.d.fact 47 (f := .meth "Rules" "road") rfl), kbn_of (ps := ["self", "row"]) F (fun _ _ _ _ _ _ us ws h1 h2 => match us, ws, h1, h2 with | [_], [_], _, _ => rfl)⟩ }
theorem xmf {w : World} {K : PySem.W.Frag} {h : Heap} {mg : Str → Option Value} {base : Heap} (X : K.In h) (G : h.Ns mainGlobals mg) (c : SaysY faL fnL xdL exL fileL w h K) (hop : NoOpq base) : XMF RL.prog w K mg base := ⟨XMk.of (P := RL.prog) (d := ⟨"InvalidRules", "word", "InvalidRules.__init__", defArgs s_InvalidRules_xini, defBody s_InvalidRules_xini, defScope s_InvalidRules_xini⟩) (c.xd 0).1 (c.xd 0).2 rfl ⟨rfl, rfl, rfl, by decide +kernel, rfl, rfl, rfl, rfl, ⟨_, rfl, rfl⟩, rfl, by decide⟩ hop (He.free_ok X G (c.x.t.d.fact 19 (f := .free "super") rfl)) (He.glo_ok X G (c.x.t.d.fact 0 (f := .glo "InvalidRules") rfl)) (fun _ _ _ _ _ _ us hl => match us, hl with | [_, _], _ => rfl)⟩
end K60
open PySem PySem.W PySem.Calls PyProof.Rows
theorem PySem.Challenge.cw_allrows_k60_rules_made_and_moved_holds : PySem.Challenge.rw_allrows_k60_rules_made_and_moved.Holds := by
  w_on; o_law
  refine HandSHeadRun.head_any (r := OpenLaw.row PySem.Challenge.rw_allrows_k60_rules_made_and_moved) (q := view (OpenLaw.row PySem.Challenge.rw_allrows_k60_rules_made_and_moved).prog [25]) (H := K60.hkL) (ob := K60.obL) (M := 4000) (loose := K60.looseL) (d := HandSHeadRun.topDef (OpenLaw.row PySem.Challenge.rw_allrows_k60_rules_made_and_moved).prog 25) (kwd := []) K60.ob_eq
    (by kernel_rfl) (fun s => by kernel_rfl) K60.runL (by kernel_rfl) (by kernel_rfl) (by kernel_rfl) (by rfl) (by first | assumption | decide +kernel) (by decide +kernel) ⟨rfl, rfl, rfl, rfl, rfl, by decide +kernel⟩ ?hw ?hc
  case hw => w_witness2
  case hc =>
    refine AR.walkGX (l := PySem.Challenge.rw_allrows_k60_rules_made_and_moved) (n := 63) (k := 8) (x := "_law_script") rfl (by decide) (by kernel_rfl) ⟨rfl, by decide, by decide⟩ ?F
    intro w mg fa h Y G hmg0
    obtain ⟨K, KX, c⟩ := Y
    have hmg : mg ("law" : PySem.Str) = some (.ref fa) := by
      have e : (HandSHeadRun.topDef (OpenLaw.row PySem.Challenge.rw_allrows_k60_rules_made_and_moved).prog 25).name = ("law" : PySem.Str) := by kernel_rfl
      rw [← e]
      exact hmg0
    have T := K60.factsL KX G c
    obtain ⟨fd, F⟩ := c.x.t.d.def_ 17 (d := K60.dD_law) rfl
    have e := hmg.symm.trans (He.glo_ok KX G (c.x.t.d.fact 38 (f := .glo "law") rfl))
    cases e
    have b := L2.FunD.bindsA (ps := ["_law_script"]) F fun _ _ _ _ _ _ us hl => match us, hl with | [_], _ => rfl
    exact ⟨K, fd, VS.spF K 1 (VS.fnD 1 13 K60.b_law), KX, c.q, fun s v => b s [v] rfl, fun H a ns hl o hS => VS.law_sp o hS (Nat.le_trans hl (by decide)) (K60.law_ok (by omega)), fun base _ _ hop => K60.v_law (XF := K60.xmf KX G c hop) T F⟩
