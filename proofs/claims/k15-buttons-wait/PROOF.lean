import PyProof.Rows.All
import Wide.All
import OpenK.AllK
import Wide.FinOn
import PyProof.EqAt
import PyProof.EqKinds
import PyProof.TupleCall
import HandS.ForMost
import HandS.Walk
import HandS.IsInst
import HandS.Property
import HandS.TupAny
import KE.GoesNew
import HandS.TupMul
import HandS.ListItems
import KE.KDictPairs
import KE.KDictCopyH
import KE.SortData
import KE.KEqDict
import HandS.DictComp
import HandS.Conv
import HandS.Codes
import KE.IntTextLaws
import KE.KIntText
import HandS.Wide
import HandS.Deep
import HandS.Text
import PySem.Challenge.RW_everypress_k15_buttons_that_wait_by_hand
set_option Elab.async false
set_option linter.all false
set_option maxRecDepth 100000
set_option maxHeartbeats 4000000
section
/-! Further rules over the layer: zip and enumerate over lists and tuples in any mix. -/
namespace Ev
open PySem PySem.Spec PyProof.Rows L2

/-- a list (false), a tuple (true) that is read -/
def SqX (K : PySem.W.Frag) : Bool → Hp → Addr → List V → Prop
  | false => SqL K
  | true => SqT K
def HSeq : Bool → Heap → Addr → Array Value → Prop
  | false => fun h a its => h.IsList a its
  | true => fun h a its => h.IsTuple a its
def HIt : Bool → Heap → Addr → Addr → Nat → Prop
  | false => fun h it a i => h.IsListIter it a i
  | true => fun h it a i => h.IsTupleIter it a i
def itO : Bool → Addr → Obj
  | false => fun a => { cls := .type "list_iterator", data := .fields #[.ref a, .int 0 0] }
  | true => fun a => { cls := .type "tuple_iterator", data := .fields #[.ref a, .int 0 0] }
theorem begX (f : Bool) (a : Addr) (its : Array Value) : Begins (.ref a) (itO f a) fun h => HSeq f h a its := by
  cases f
  · exact begins_list a its
  · exact begins_tuple a its
theorem drX {prog : Program} {w : World} {A : Around} (f : Bool) (hh : A.handled = none) (it a : Addr) (hne : a ≠ it) (its : Array Value) :
    Draws prog w A it [it, a] its.size (fun i v => its[i]? = some v) (fun i h => HIt f h it a i ∧ HSeq f h a its) := by
  cases f
  · exact Draws.list hh it a hne its
  · exact Draws.tuple hh it a hne its
theorem HIt.keep {f : Bool} {h h' : Heap} {it a : Addr} {i : Nat} (x : HIt f h it a i) (k : ∀ o, h.get? it = some o → h'.get? it = some o) : HIt f h' it a i := by
  cases f
  · exact Heap.IsListIter.at x k
  · exact Heap.IsTupleIter.at x k
theorem HIt.obj {f : Bool} {h : Heap} {it a : Addr} {i : Nat} (x : HIt f h it a i) : ∃ o, h.get? it = some o ∧ ∀ v, o.data ≠ .cell v := by
  cases f
  · obtain ⟨o, e, _, d⟩ := x
    exact ⟨o, e, fun v z => by rw [d] at z; cases z⟩
  · obtain ⟨o, e, _, d⟩ := x
    exact ⟨o, e, fun v z => by rw [d] at z; cases z⟩
theorem HIt.first {f : Bool} {h : Heap} {it a : Addr} (e : h.get? it = some (itO f a)) : HIt f h it a 0 := by
  cases f
  · exact ⟨_, e, rfl, rfl⟩
  · exact ⟨_, e, rfl, rfl⟩
section
variable {X : Cx} {pins : List (Addr × Obj)} {σ : L2.St} {H : Hp} {s : Shared} {a : Addr} {xs ys : List V}
theorem sqx (I : Inv X pins σ H s) (f : Bool) (h : SqX X.K f H a xs) : ∃ its : List Value, Vals xs its ∧ HSeq f s.heap a its.toArray ∧ xs.length ≤ sizeLine ∧ a < s.heap.objs.size := by
  cases f
  · obtain ⟨its, r, p, z⟩ := I.list h
    exact ⟨its, r, p.isList, z, p.lt⟩
  · obtain ⟨its, r, p, z⟩ := I.tuple h
    exact ⟨its, r, p, z, p.lt⟩
theorem sqx_inj (I : Inv X pins σ H s) (f : Bool) (h : SqX X.K f H a xs) (h' : SqX X.K f H a ys) : xs = ys := by
  cases f
  · exact I.list_inj h h'
  · exact I.tuple_inj h h'
end

theorem one_lt {a N : Nat} (h : a < N) : ∀ b ∈ [a], b < N := fun b hb => by
  have e : b = a := by simpa using hb
  rw [e]
  exact h

/-! ### zip of two, in any mix -/
def ItX2 (K : PySem.W.Frag) (f : Bool) (a : Addr) (g : Bool) (b : Addr) : It :=
  { go := fun i H => ∃ (xs ys : List V) (x y : V), SqX K f H a xs ∧ SqX K g H b ys ∧ xs[i]? = some x ∧ ys[i]? = some y
    yld := fun i H v H' => ∃ T x y, v = .ref T ∧ H T = none ∧ H' = upd H T (.tup [x, y]) ∧ (∀ xs, SqX K f H a xs → xs[i]? = some x) ∧ ∀ ys, SqX K g H b ys → ys[i]? = some y
    stop := fun i H => ∃ xs ys : List V, SqX K f H a xs ∧ SqX K g H b ys ∧ i = min xs.length ys.length }
abbrev tnX2 (f g : Bool) (a b z TI TO i1 i2 : Addr) : Nat → Heap → Prop := fun i h =>
  IsZip h z TI TO .none ∧ IsTupOf2 h TI (.ref i1) (.ref i2) ∧ (∃ x y, IsTupOf2 h TO x y) ∧ HIt f h i1 a i ∧ HIt g h i2 b i
theorem turnX2 {P : Program} {w : World} {K : PySem.W.Frag} {elts : List Expr} {kk : Nat} {tpos : Pos} (f g : Bool) {a b z TI TO i1 i2 : Addr} (S : ZipSep2 z TI TO i1 i2 [i1, a] [i2, b]) (ha : a ≠ i1) (hb : b ≠ i2) :
    Turn P w K (.Tuple elts kk tpos) (ItX2 K f a g b) [z, TI, TO, i1, i2] z (tnX2 f g a b z TI TO i1 i2) where
  mem := List.mem_cons_self ..
  obj := fun i h st c hc => by
    obtain ⟨hz, hTI, ⟨x, y, hTO⟩, h1, h2⟩ := st
    simp only [List.mem_cons, List.not_mem_nil, or_false] at hc
    rcases hc with q | q | q | q | q <;> subst q
    · exact ⟨_, hz, fun v q => nomatch q⟩
    · exact ⟨_, hTI, fun v q => nomatch q⟩
    · exact ⟨_, hTO, fun v q => nomatch q⟩
    · exact h1.obj
    · exact h2.obj
  keep := fun i h h' st k => by
    obtain ⟨hz, hTI, ⟨x, y, hTO⟩, h1, h2⟩ := st
    exact ⟨k _ (by simp) _ hz, k _ (by simp) _ hTI, ⟨x, y, k _ (by simp) _ hTO⟩, h1.keep (k _ (by simp)), h2.keep (k _ (by simp))⟩
  item := by
    intro X hP hw hK hc i pins s σ H E I hf st hg
    subst hP hw hK
    obtain ⟨hz, hTI, hTO, h1, h2⟩ := st
    obtain ⟨xs, ys, x, y, qx, qy, hx, hy⟩ := hg
    obtain ⟨its, rv, p, _, la⟩ := sqx I f qx
    obtain ⟨jts, rw', p', _, lb⟩ := sqx I g qy
    have hh : X.A.in1.handled = none := I.ok.hd hc
    have W := GoesN.zip2 (elts := elts) (x1 := kk) (pos := tpos) S (drX (prog := X.prog) (w := X.w) f hh i1 a ha its.toArray) (drX (prog := X.prog) (w := X.w) g hh i2 b hb jts.toArray)
    have l1 : xs.length = its.length := rv.length
    have l2 : ys.length = jts.length := rw'.length
    have hi1 : i < xs.length := (List.getElem?_eq_some_iff.mp hx).1
    have hi2 : i < ys.length := (List.getElem?_eq_some_iff.mp hy).1
    refine W.goes i s _ E ?_ ⟨hz, hTI, hTO, ⟨h1, p⟩, ⟨h2, p'⟩⟩ fun v h' tk yv st' k htk => ?_
    · simp only [List.size_toArray]
      omega
    obtain ⟨T, u1, u2, rfl, hT, e1, e2, hTup⟩ := yv
    obtain ⟨hz', hTI', hTO', ⟨h1', _⟩, ⟨h2', _⟩⟩ := st'
    obtain ⟨u1', g1, r1⟩ := rv.get hx
    obtain ⟨u2', g2, r2⟩ := rw'.get hy
    have z1 : u1 = u1' := by simpa [g1] using e1.symm
    have z2 : u2 = u2' := by simpa [g2] using e2.symm
    subst z1 z2
    have hn : H T = none := I.hok.fresh hT
    have two : ([x, y] : List V).length ≤ sizeLine := by rw [sizeLine_eq]; show 2 ≤ _; omega
    have new : ObjOk X.prog X.w (upd H T (.tup [x, y])) h' T (.tup [x, y]) := ⟨two, [u1, u2], .cons r1 (.cons r2 .nil), hTup⟩
    have sub : ∀ c, c ∉ [z, TI, TO, i1, i2] → c ∉ [z, TO, i1, i2] := fun c hc => by simp at hc ⊢; exact ⟨hc.1, hc.2.2⟩
    refine ⟨.ref T, _, I.turnedNew (t' := tk) (ch := [z, TI, TO, i1, i2]) (fun c o hb e => k c o (sub c hb) e) hf hT new, rfl, ⟨T, x, y, rfl, hn, rfl, fun l hl => ?_, fun l hl => ?_⟩, ⟨hz', hTI', hTO', h1', h2'⟩, fun c hc => ?_⟩
    · rw [sqx_inj I f hl qx]; exact hx
    · rw [sqx_inj I g hl qy]; exact hy
    · have lt : c < s.heap.objs.size := by
        simp only [List.mem_cons, List.not_mem_nil, or_false] at hc
        rcases hc with q | q | q | q | q <;> subst q
        · exact Heap.lt_size hz
        · exact Heap.lt_size hTI
        · obtain ⟨_, _, e⟩ := hTO; exact Heap.lt_size e
        · obtain ⟨o, e, _⟩ := h1.obj; exact Heap.lt_size e
        · obtain ⟨o, e, _⟩ := h2.obj; exact Heap.lt_size e
      rw [upd_ne (Nat.ne_of_lt (Nat.lt_of_lt_of_le lt hT))]
      exact (hf c hc).1
  done := by
    intro X hP hw hK hc i pins s σ H E I hf st hg
    subst hP hw hK
    obtain ⟨hz, hTI, hTO, h1, h2⟩ := st
    obtain ⟨xs, ys, qx, qy, hi⟩ := hg
    obtain ⟨its, rv, p, _, la⟩ := sqx I f qx
    obtain ⟨jts, rw', p', _, lb⟩ := sqx I g qy
    have hh : X.A.in1.handled = none := I.ok.hd hc
    have W := GoesN.zip2 (elts := elts) (x1 := kk) (pos := tpos) S (drX (prog := X.prog) (w := X.w) f hh i1 a ha its.toArray) (drX (prog := X.prog) (w := X.w) g hh i2 b hb jts.toArray)
    have l1 : xs.length = its.length := rv.length
    have l2 : ys.length = jts.length := rw'.length
    have sub : ∀ c, c ∉ [z, TI, TO, i1, i2] → c ∉ [z, TO, i1, i2] := fun c hc => by simp at hc ⊢; exact ⟨hc.1, hc.2.2⟩
    have ei : i = min its.toArray.size jts.toArray.size := by simp only [List.size_toArray]; omega
    subst ei
    refine W.stops s _ E ⟨hz, hTI, hTO, ⟨h1, p⟩, ⟨h2, p'⟩⟩ fun h' tk k htk => ?_
    refine I.step (ch := [z, TI, TO, i1, i2]) (fun c hc => ?_) (fun c o _ _ hc e _ => k c o (sub c hc) e) (fun c o _ _ hc e _ => ⟨o.slots, k c o (sub c hc) e⟩) (fun c o _ e n => n) (fun c o hc e => ⟨o, k c o (sub c hc) e⟩) (fun _ _ e => e) (fun _ _ _ e => e) (fun c ps e => ⟨#[], by rw [e]; simp⟩) (fun m hm => ?_) (fun c u e => ?_) I.bare
    · obtain ⟨f0, f1, f2, f3, f4, f5⟩ := hf c hc
      exact ⟨f3, f1, f4, f5⟩
    · obtain ⟨o, es, ep, ho, r⟩ := hm
      exact ⟨o, es, ep, k _ o (sub _ fun q => (hf _ q).2.1 rfl) ho, r⟩
    · refine (I.hok c u e).stay (fun d v hd q => k d v (sub d fun z' => ?_) q) (fun _ q => q) fun _ _ q => q
      have hn := (hf d z').1
      rcases hd with rfl | hd
      · rw [hn] at e; cases e
      · rw [hn] at hd; cases hd
  self := fun A i s Q E st h => wpAny_pyIter_zip st.1 h

def iZipX (K : PySem.W.Frag) (ta : TA) : TI := fun σ H R => ta σ H fun vs H1 => ∃ a b xs ys f g, vs = [.ref a, .ref b] ∧ SqX K f H1 a xs ∧ SqX K g H1 b ys ∧ R (ItX2 K f a g b) H1
theorem pi_zipX {X : Cx} {e e2 : Expr} {ta : TA} {p pos tpos : Pos} {elts : List Expr} {kk : Nat} (hg : Gl X "zip") (hm : X.mg "zip" = none) (ha : PA X [e, e2] ta)
    (hs : starEach [e, e2] X.env = (false, eval e X.env) :: starEach [e2] X.env := by rfl) (hpl : (backTo pos (starEach [e2] X.env)).any (·.1) = false := by rfl) :
    PI X (.Tuple elts kk tpos) (.Call (.Name "zip" p) [e, e2] [] pos) (iZipX X.K ta) := by
  refine ⟨fun pins s σ H R I h => ?_⟩
  refine Call_ (ld_blt I hg hm PyProof.Rows.boot_zip (PyProof.Rows.callWith_type1 (thn (ha.run pos pins s σ H _ I h) fun us s1 ⟨vs, H1, I1, r1, q1⟩ => ?_) hs hpl))
  obtain ⟨a, b, xs, ys, f, g, rfl, qx, qy, q⟩ := q1
  obtain ⟨v1, v2, rfl, ra, rb⟩ := vals2 r1
  obtain rfl : v1 = Value.ref a := ra
  obtain rfl : v2 = Value.ref b := rb
  obtain ⟨its, rv, p1, _, la⟩ := sqx I1 f qx
  obtain ⟨jts, rw', p2, _, lb⟩ := sqx I1 g qy
  refine zip_begins2 (begX f a its.toArray) (begX g b jts.toArray) p1 p2 fun h' hz hTI hTO g1 g2 hsz hk => ?_
  refine wpAny_pyIter_zip hz ?_
  have I2 : Inv X pins σ H1 { s1 with heap := h' } := I1.kept (t' := s1.toks) hk
  have S := zip_sep2 (N := s1.heap.objs.size) (fp1 := [a]) (fp2 := [b]) (one_lt la) (one_lt lb)
  refine ⟨s1.heap.objs.size + 4, [s1.heap.objs.size + 4, s1.heap.objs.size + 2, s1.heap.objs.size + 3, s1.heap.objs.size, s1.heap.objs.size + 1], _, ItX2 X.K f a g b, H1, rfl, I2, turnX2 f g S (Nat.ne_of_lt la) (Nat.ne_of_lt (Nat.lt_succ_of_lt lb)), ⟨hz, hTI, ⟨_, _, hTO⟩, .first g1, .first g2⟩, fun c hc => ?_, q⟩
  have le : s1.heap.objs.size ≤ c := by
    simp only [List.mem_cons, List.not_mem_nil, or_false] at hc
    rcases hc with z | z | z | z | z <;> subst z <;> first | exact Nat.le_refl _ | exact Nat.le_add_right _ _
  exact I1.fpOk le (I1.hok.fresh le)
theorem walk_zipX {K : PySem.W.Frag} {f g : Bool} {a b : Addr} {xs ys : List V} {n : Nat} (hn : n = min xs.length ys.length) : Walk (ItX2 K f a g b) n (fun H => SqX K f H a xs ∧ SqX K g H b ys) (YPair (fun i => xs[i]?) (fun i => ys[i]?)) := by
  subst hn
  refine ⟨fun i _ hi q => ?_, fun _ q => ⟨xs, ys, q.1, q.2, rfl⟩, fun i H v H' _ q y => ?_⟩
  · have h1 : i < xs.length := by omega
    have h2 : i < ys.length := by omega
    exact ⟨xs, ys, xs[i], ys[i], q.1, q.2, List.getElem?_eq_getElem h1, List.getElem?_eq_getElem h2⟩
  · obtain ⟨T, x, z, h1, h2, h3, h4, h5⟩ := y
    exact ⟨T, x, z, h1, h2, h3, h4 xs q.1, h5 ys q.2⟩

/-! ### enumerate of a list or a tuple -/
/-- enumerate(v), v whatever begins a walk -/
theorem meetsEn {v : Value} {ob : Obj} {Hb : Heap → Prop} (B : Begins v ob Hb) : Meets (Builtin.«enumerate.__new__» ⟨[.type "enumerate", v], []⟩) (fun _ R st => Hb st.heap ∧
    R (.ok (.ret (.ref (st.heap.push ob).objs.size))) { st with heap := (st.heap.push ob).push { cls := .type "enumerate", data := .fields #[.none, .bool false, .ref st.heap.objs.size, rawInt 0, .none, .none] } }) :=
  .of_wp fun prog w A R st hh => by
    obtain ⟨hp, gs, dr, tk, os⟩ := st
    obtain ⟨b1, hh⟩ := hh
    have isb := sub_enumerate
    have it0 : ∀ {A' : Around} {E' : Value → Shared → Prop} {Q' : Value → Shared → Prop}, Q' (.ref hp.objs.size) ⟨hp.push ob, gs, dr, tk, os⟩ → wpAny (model prog w) A' (pyIter v) Q' E' ⟨hp, gs, dr, tk, os⟩ := fun q => B.iter prog w _ _ ⟨hp, gs, dr, tk, os⟩ _ b1 q
    wp_walk using it0
    refine wpAny_stack_any fun st => wpAny_pure ?_
    split
    · rename_i cc _ _ _ _ _
      cases (cc == Value.type "enumerate") <;> (wp_walk using it0; exact ⟨_, rfl, hh⟩)
    · wp_walk using it0
      exact ⟨_, rfl, hh⟩
theorem beginsEn {prog : Program} {w : World} {A : Around} {E : Value → Shared → Prop} {s : Shared} {v : Value} {ob : Obj} {Hb : Heap → Prop} {Q : Value → Shared → Prop} (B : Begins v ob Hb) (b1 : Hb s.heap)
    (hq : ∀ h', IsEnum h' (s.heap.objs.size + 1) s.heap.objs.size 0 .none → h'.get? s.heap.objs.size = some ob → (∀ b o, s.heap.get? b = some o → h'.get? b = some o) → Q (.ref (s.heap.objs.size + 1)) { s with heap := h' }) :
    wpAny (model prog w) A (call (.type "enumerate") [v]) Q E s := by
  refine callType_new F.called_enumerate (by decide) (F.typeCall_enumerate_1 _) (F.newCall_enumerate_1 _) (fun q => F.args_object_init_2 q _) F.entry_enumerate_new (meetsEn B) ⟨b1, ?_⟩
  have sz : (s.heap.push ob).objs.size = s.heap.objs.size + 1 := Heap.size_push ..
  have en := Heap.get?_push_size (s.heap.push ob) (o := { cls := .type "enumerate", data := .fields #[.none, .bool false, .ref s.heap.objs.size, rawInt 0, .none, .none] }) rfl
  have old : ∀ b o, s.heap.get? b = some o → ((s.heap.push ob).push { cls := .type "enumerate", data := .fields #[.none, .bool false, .ref s.heap.objs.size, rawInt 0, .none, .none] }).get? b = some o := fun b o q => Heap.get?_push_of_some _ (Heap.get?_push_of_some _ q)
  rw [sz] at en
  show _ ∧ _
  rw [sz]
  exact ⟨⟨_, en, rfl⟩, hq _ en (Heap.get?_push_of_some _ (Heap.get?_push_size _ B.free)) old⟩
abbrev tnEn (f : Bool) (a e it : Addr) : Nat → Heap → Prop := fun i h => (∃ old, IsEnum h e it (0 + (i : Int)) old) ∧ HIt f h it a i
def ItEn (K : PySem.W.Frag) (f : Bool) (a : Addr) : It :=
  { go := fun i H => ∃ (xs : List V) (x : V), SqX K f H a xs ∧ xs[i]? = some x
    yld := fun i H v H' => ∃ T x, v = .ref T ∧ H T = none ∧ H' = upd H T (.tup [.int (i : Nat), x]) ∧ ∀ xs, SqX K f H a xs → xs[i]? = some x
    stop := fun i H => ∃ xs : List V, SqX K f H a xs ∧ i = xs.length }
theorem turnEn {P : Program} {w : World} {K : PySem.W.Frag} {elts : List Expr} {kk : Nat} {tpos : Pos} (f : Bool) {a e it : Addr} (hne : e ≠ it) (hea : e ≠ a) (ha : a ≠ it) :
    Turn P w K (.Tuple elts kk tpos) (ItEn K f a) [e, it] e (tnEn f a e it) where
  mem := List.mem_cons_self ..
  obj := fun i h st c hc => by
    obtain ⟨⟨old, he⟩, h1⟩ := st
    simp only [List.mem_cons, List.not_mem_nil, or_false] at hc
    rcases hc with q | q <;> subst q
    · exact ⟨_, he, fun v q => nomatch q⟩
    · exact h1.obj
  keep := fun i h h' st k => by
    obtain ⟨⟨old, he⟩, h1⟩ := st
    exact ⟨⟨old, k _ (by simp) _ he⟩, h1.keep (k _ (by simp))⟩
  item := by
    intro X hP hw hK hc i pins s σ H E I hf st hg
    subst hP hw hK
    obtain ⟨he, h1⟩ := st
    obtain ⟨xs, x, qx, hx⟩ := hg
    obtain ⟨its, rv, p, _, la⟩ := sqx I f qx
    have hh : X.A.in1.handled = none := I.ok.hd hc
    have W := GoesN.enumFrom (elts := elts) (x1 := kk) (pos := tpos) 0 (drX (prog := X.prog) (w := X.w) f hh it a ha its.toArray) e hne (by simp [hne, hea]) (by simp)
    have l1 : xs.length = its.length := rv.length
    have hi1 : i < xs.length := (List.getElem?_eq_some_iff.mp hx).1
    refine W.goes i s _ E ?_ ⟨he, ⟨h1, p⟩⟩ fun v h' tk yv st' k htk => ?_
    · simp only [List.size_toArray]
      omega
    obtain ⟨T, t, u1, rfl, hT, e1, hTup⟩ := yv
    obtain ⟨he', ⟨h1', _⟩⟩ := st'
    obtain ⟨u1', g1, r1⟩ := rv.get hx
    have z1 : u1 = u1' := by simpa [g1] using e1.symm
    subst z1
    have hn : H T = none := I.hok.fresh hT
    have two : ([.int (i : Nat), x] : List V).length ≤ sizeLine := by rw [sizeLine_eq]; show 2 ≤ _; omega
    have new : ObjOk X.prog X.w (upd H T (.tup [.int (i : Nat), x])) h' T (.tup [.int (i : Nat), x]) := ⟨two, [_, u1], .cons ⟨t, by rw [Int.zero_add]⟩ (.cons r1 .nil), hTup⟩
    refine ⟨.ref T, _, I.turnedNew (t' := tk) (ch := [e, it]) (fun c o hb q => k c o hb q) hf hT new, rfl, ⟨T, x, rfl, hn, rfl, fun l hl => ?_⟩, ⟨he', h1'⟩, fun c hc => ?_⟩
    · rw [sqx_inj I f hl qx]; exact hx
    · have lt : c < s.heap.objs.size := by
        simp only [List.mem_cons, List.not_mem_nil, or_false] at hc
        rcases hc with q | q <;> subst q
        · obtain ⟨_, he⟩ := he; exact Heap.lt_size he
        · obtain ⟨o, q, _⟩ := h1.obj; exact Heap.lt_size q
      rw [upd_ne (Nat.ne_of_lt (Nat.lt_of_lt_of_le lt hT))]
      exact (hf c hc).1
  done := by
    intro X hP hw hK hc i pins s σ H E I hf st hg
    subst hP hw hK
    obtain ⟨he, h1⟩ := st
    obtain ⟨xs, qx, hi⟩ := hg
    obtain ⟨its, rv, p, _, la⟩ := sqx I f qx
    have hh : X.A.in1.handled = none := I.ok.hd hc
    have W := GoesN.enumFrom (elts := elts) (x1 := kk) (pos := tpos) 0 (drX (prog := X.prog) (w := X.w) f hh it a ha its.toArray) e hne (by simp [hne, hea]) (by simp)
    have l1 : xs.length = its.length := rv.length
    have ei : i = its.toArray.size := by simp only [List.size_toArray]; omega
    subst ei
    refine W.stops s _ E ⟨he, ⟨h1, p⟩⟩ fun h' tk k htk => ?_
    refine I.step (ch := [e, it]) (fun c hc => ?_) (fun c o _ _ hc e _ => k c o hc e) (fun c o _ _ hc e _ => ⟨o.slots, k c o hc e⟩) (fun c o _ e n => n) (fun c o hc e => ⟨o, k c o hc e⟩) (fun _ _ e => e) (fun _ _ _ e => e) (fun c ps e => ⟨#[], by rw [e]; simp⟩) (fun m hm => ?_) (fun c u e => ?_) I.bare
    · obtain ⟨f0, f1, f2, f3, f4, f5⟩ := hf c hc
      exact ⟨f3, f1, f4, f5⟩
    · obtain ⟨o, es, ep, ho, r⟩ := hm
      exact ⟨o, es, ep, k _ o (fun q => (hf _ q).2.1 rfl) ho, r⟩
    · refine (I.hok c u e).stay (fun d v hd q => k d v (fun z' => ?_) q) (fun _ q => q) fun _ _ q => q
      have hn := (hf d z').1
      rcases hd with rfl | hd
      · rw [hn] at e; cases e
      · rw [hn] at hd; cases hd
  self := fun A i s Q E st h => let ⟨⟨_, he⟩, _⟩ := st; wpAny_pyIter_enum he h
def iEnX (K : PySem.W.Frag) (ta : TA) : TI := fun σ H R => ta σ H fun vs H1 => ∃ a xs f, vs = [.ref a] ∧ SqX K f H1 a xs ∧ R (ItEn K f a) H1
theorem pi_enumX {X : Cx} {e : Expr} {ta : TA} {p pos tpos : Pos} {elts : List Expr} {kk : Nat} (hg : Gl X "enumerate") (hm : X.mg "enumerate" = none) (ha : PA X [e] ta)
    (hs : starEach [e] X.env = [(false, eval e X.env)] := by rfl) : PI X (.Tuple elts kk tpos) (.Call (.Name "enumerate" p) [e] [] pos) (iEnX X.K ta) := by
  refine ⟨fun pins s σ H R I h => ?_⟩
  refine Call_ (ld_blt I hg hm boot_enumerate (PyProof.Rows.callWith_type1 (thn (ha.run pos pins s σ H _ I h) fun us s1 ⟨vs, H1, I1, r1, q1⟩ => ?_) hs rfl))
  obtain ⟨a, xs, f, rfl, qx, q⟩ := q1
  obtain ⟨v1, rfl, ra⟩ := vals1 r1
  obtain rfl : v1 = Value.ref a := ra
  obtain ⟨its, rv, p1, _, la⟩ := sqx I1 f qx
  refine beginsEn (begX f a its.toArray) p1 fun h' he g1 hk => ?_
  refine wpAny_pyIter_enum he ?_
  have I2 : Inv X pins σ H1 { s1 with heap := h' } := I1.kept (t' := s1.toks) hk
  refine ⟨s1.heap.objs.size + 1, [s1.heap.objs.size + 1, s1.heap.objs.size], _, ItEn X.K f a, H1, rfl, I2, turnEn f (Nat.succ_ne_self _) (Nat.ne_of_gt (Nat.lt_succ_of_lt la)) (Nat.ne_of_lt la), ⟨⟨_, he⟩, .first g1⟩, fun c hc => ?_, q⟩
  have le : s1.heap.objs.size ≤ c := by
    simp only [List.mem_cons, List.not_mem_nil, or_false] at hc
    rcases hc with z | z <;> subst z <;> first | exact Nat.le_refl _ | exact Nat.le_add_right _ _
  exact I1.fpOk le (I1.hok.fresh le)
theorem walk_enX {K : PySem.W.Frag} {f : Bool} {a : Addr} {xs : List V} : Walk (ItEn K f a) xs.length (fun H => SqX K f H a xs) (YPair (fun i => some (.int (i : Nat))) (fun i => xs[i]?)) := by
  refine ⟨fun i _ hi q => ⟨xs, xs[i], q, List.getElem?_eq_getElem hi⟩, fun _ q => ⟨xs, q, rfl⟩, fun i H v H' _ q y => ?_⟩
  obtain ⟨T, x, h1, h2, h3, h4⟩ := y
  exact ⟨T, _, x, h1, h2, h3, rfl, h4 xs q⟩
end Ev
end

section
namespace Ev
open PySem PySem.Spec PyProof.Rows L2
open PySem.W (EachIs AllAlike Sortable)
section
variable {X : Cx}
/-- a module's constant, told by an existence -/
theorem pe_gc {x : Str} {v : V} {pos : Pos} (hg : Gl X x) (hm : ∃ u, X.mg x = some u ∧ RelV v u) (hd : (x == ("__debug__" : Str)) = false := by decide) : PE X (.Name x pos) (tC v) := by
  obtain ⟨u, h, r⟩ := hm
  exact pe_glob hg h r hd

/-! ### a text some times -/
def repS (z : Str) (n : Nat) : Str := ⟨(List.replicate n z.cps.toList).flatten.toArray⟩
theorem foldA : ∀ (l : List (Array Nat)) (a : Array Nat), l.foldl (· ++ ·) a = (a.toList ++ (l.map (·.toList)).flatten).toArray
  | [], a => by simp
  | x :: l, a => by
    rw [List.foldl_cons, foldA l]
    simp
theorem op_mulS : OpR X (binaryOp .Mult) (fun x y H Q => ∃ (z : Str) (n : Nat), x = .str z ∧ y = .int (n : Int) ∧ n ≤ 1000 ∧ z.length ≤ 1000 ∧ Q (.str (repS z n)) H) := by
  intro pins s σ H x y v u Q I rx ry h
  obtain ⟨z, n, rfl, rfl, hn, hz, q⟩ := h
  obtain ⟨t, rfl⟩ := rx
  obtain ⟨t', rfl⟩ := ry
  have hm : z.length * n ≤ 1000 * 1000 := Nat.mul_le_mul hz hn
  have c0 : (decide ((n : Int) < -(2 ^ 63 : Int)) || decide ((n : Int) ≥ 2 ^ 63)) = false := by
    rw [decide_eq_false (by omega), decide_eq_false (by omega)]; rfl
  have lenZ : z.cps.toList.length = z.length := by simp [Str.length]
  have big : ¬ (sizeLine < z.length * n) := by rw [sizeLine_eq]; omega
  refine P.mul_str c0 (fun h1 _ h2 => ?_) (fun h1 _ => ?_) ?_
  · have h3 : (1000 : Int) ≤ (2 ^ 63 - 1) / (n : Int) := by
      rw [Int.le_ediv_iff_mul_le (by omega)]
      omega
    omega
  · rw [Int.toNat_natCast]
    exact decide_eq_false big
  · by_cases h1 : (n : Int) < 1
    · have e0 : n = 0 := by omega
      subst e0
      rw [if_pos (by omega)]
      exact ⟨by decide, .str _, H, I.tok _, ⟨_, rfl⟩, q⟩
    · rw [if_neg h1]
      by_cases h2 : ((n : Int) == 1 || z.length == 0) = true
      · rw [if_pos h2]
        have e : repS z n = z := by
          rw [Bool.or_eq_true] at h2
          rcases h2 with h2 | h2
          · have e1 : n = 1 := by have := eq_of_beq h2; omega
            subst e1
            show (⟨((List.replicate 1 z.cps.toList).flatten).toArray⟩ : Str) = z
            simp
          · have e1 : z.cps.toList = [] := List.eq_nil_of_length_eq_zero (by rw [lenZ]; exact eq_of_beq h2)
            show (⟨((List.replicate n z.cps.toList).flatten).toArray⟩ : Str) = z
            rw [e1]
            have e2 : z = ⟨z.cps.toList.toArray⟩ := rfl
            rw [e2, e1]
            simp
        rw [e] at q
        exact ⟨.str _, H, I, ⟨_, rfl⟩, q⟩
      · rw [if_neg h2, Int.toNat_natCast]
        have e : (⟨(List.replicate n z.cps).foldl (· ++ ·) #[]⟩ : Str) = repS z n := by
          rw [foldA]
          show (⟨_⟩ : Str) = ⟨_⟩
          simp
        rw [e]
        refine ⟨?_, .str _, H, I.tok _, ⟨_, rfl⟩, q⟩
        show (repS z n).length ≤ sizeLine
        have el : (repS z n).length = n * z.length := by
          show ((List.replicate n z.cps.toList).flatten).toArray.size = _
          simp [List.length_flatten, lenZ]
        rw [el, Nat.mul_comm]
        omega

/-! ### d != e, where their lengths tell -/
theorem op_neDK (hu : X.A.units < cLine) : OpR X (compareOp .NotEq) (fun x y H Q => ∃ a b ks ls, x = .ref a ∧ y = .ref b ∧ H a = some (.dK ks) ∧ H b = some (.dK ls) ∧ (ks.length ≠ ls.length ∧ Q (.bl true) H ∨ ks = [] ∧ ls = [] ∧ Q (.bl false) H)) := by
  intro pins s σ H x y v u Q I rx ry h
  obtain ⟨a, b, ks, ls, rfl, rfl, ea, eb, q⟩ := h
  obtain rfl : v = Value.ref a := rx
  obtain rfl : u = Value.ref b := ry
  obtain ⟨_, ya, va, ra, da⟩ := (show ObjOk X.prog X.w H s.heap a (.dK ks) from I.hok a _ ea)
  obtain ⟨_, yb, vb, rb, db⟩ := (show ObjOk X.prog X.w H s.heap b (.dK ls) from I.hok b _ eb)
  have l1 := ra.length
  have l2 := rb.length
  rcases q with ⟨hne, q⟩ | ⟨rfl, rfl, q⟩
  · have hl : ¬ va.length = vb.length := by omega
    exact PySem.W.keq_ne (knd := mixKind X.prog X.w) (r := true) ya yb da db hu (fun e => absurd e hl) (fin_bl I q (by simp [hl]))
  · have e1 : va = [] := List.eq_nil_of_length_eq_zero l1.symm
    have e2 : vb = [] := List.eq_nil_of_length_eq_zero l2.symm
    subst e1 e2
    exact PySem.W.keq_ne (knd := mixKind X.prog X.w) (r := true) ya yb da db hu (fun _ => hits_all rb ra (fun p hp => nomatch hp)) (fin_bl I q (by simp))

/-! ### a tuple, once -/
theorem tuple_mul1 (l : Addr) (its : Array Value) (n : Nat) (dd : Option Addr) (sl : Array (Option Value)) (u : Tok) : Meets (Builtin.«tuple.__mul__» ⟨[.ref l, .int 1 u], []⟩) (fun _ R st =>
    st.heap.get? l = some { cls := .type "tuple", dict := dd, data := .seq its n, slots := sl } ∧ R (.ok (.ret (Value.ref l))) st) :=
  .of_wp fun prog w A R st hh => by
    obtain ⟨hp, gs, dr, tk, os⟩ := st
    obtain ⟨hl, hh⟩ := hh
    have f1 := AutoSeq1.idx_int
    have c1 : (its.isEmpty || (1 : Int) == 1) = true := by simp
    wp_walk using wpAny_loadPart' hl
    exact ⟨_, rfl, hh⟩
theorem op_repT1 : OpR X (binaryOp .Mult) (fun x y H Q => ∃ l xs, x = .ref l ∧ y = .int 1 ∧ SqT X.K H l xs ∧ Q (.ref l) H) := by
  intro pins s σ H x y v u Q I rx ry h
  obtain ⟨l, xs, rfl, rfl, hT, q⟩ := h
  cases rx
  obtain ⟨t, rfl⟩ := ry
  obtain ⟨its, r, ⟨⟨cls, dd, data, sl⟩, ho, hc, n, hd⟩, hs⟩ := I.tuple hT
  simp only at hc hd
  subst hc hd
  exact wpAny_binaryOp_repeat_ref (T := "tuple") (U := "int") (by decide) ⟨_, ho, rfl⟩ (fun s' => typeIs_int s' 1 t) noFill_tuple_mul F.fills_int_mul F.slot_int_rmul repeat_tuple F.slot_int_index.lookup
    (call_meets F.slot_int_rmul (typeIs_int s 1 t) F.entry_int_rmul (F.args_int_rmul_2 _ _) (int_rmul_tuple 1 t l its.toArray n dd sl)
      ⟨ho, rfl, ⟨_, ho, rfl⟩, call_meets F.slot_tuple_mul ⟨_, ho, rfl⟩ F.entry_tuple_mul (F.args_tuple_mul_2 _ _) (tuple_mul1 l its.toArray n dd sl t) ⟨ho, ⟨.ref l, H, I, rfl, q⟩⟩⟩)

/-! ### x in o, the class's own __contains__ -/
structure OwnSp (K : PySem.W.Frag) (C : Addr) (m : Str) (f : Addr) : Prop where
  at_ : PySem.W.findIn K (.ref C) m = some (some (.ref f))
  ty : PySem.W.typeIn K (.ref f) = some (.type "function")
def tInOwn (C : Addr) (sp : Sp) (E : XK) (ta tb : TE) (k : Bool → Bool) : TE := fun σ H Q => ta σ H fun x H1 => tb σ H1 fun y H2 => ∃ o dx fs, y = .ref o ∧ H2 o = some (.ins C dx fs) ∧ sp [.ref o, x] H2 (fun v H3 => ∃ c, v = .bl c ∧ Q (.bl (k c)) H3) E
variable {CX : CXT} {k : Nat} {C f : Addr} {fd : FuncData} {ps : List Str} {sp : Sp} {E : XK} {a b : Expr} {ta tb : TE}
theorem contains_own {pins : List (Addr × Obj)} {σ : L2.St} {H : Hp} {s : Shared} {o dx : Addr} {fs : List (Str × V)} {x : V} {u : Value} {R : Bool → Hp → Prop} (ho : OwnSp X.K C "__contains__" f) (F : FnOk X.prog X.w X.K X.mg X.base CX k f fd ps sp) (hr : Room k X.A)
    (hb : Binds X.K fd ps []) (hx : Passes CX X E) (I : Inv X pins σ H s) (eo : H o = some (.ins C dx fs)) (rx : RelV x u) (h : sp [.ref o, x] H (fun v H3 => ∃ c, v = .bl c ∧ R c H3) E) :
    wpAny (model X.prog X.w) X.A (contains (.ref o) u) (fun c s' => ∃ H', Inv X pins σ H' s' ∧ R c H') X.xe s := by
  obtain ⟨mA, J, _⟩ := ins_get I.hok eo
  obtain ⟨od, J, _⟩ := J.look
  have L : PySem.W.Looks (model X.prog X.w) s.heap (specialOf (.ref o) "__contains__") (some (.ref f)) := J.type.andThen (PySem.W.looks_findIn I.kIn ho.at_)
  have B : PySem.W.Looks (model X.prog X.w) s.heap (bindSpecial (.ref f) (.ref o)) (.ref f, [.ref o]) := PySem.W.bind_fn I.kIn _ ho.ty
  unfold contains
  refine wpAny_holding ?_
  show wpAny _ _ (specialOf (.ref o) "__contains__" >>= _) _ _ _
  refine wpAny_bind (L.at ?_)
  show wpAny _ _ (callSpecialUnlessNone? (.ref o) "__contains__" [u] _ >>= _) _ _ _
  refine wpAny_bind ?_
  simp only [callSpecialUnlessNone?]
  refine wpAny_bind (L.at (wpAny_holding (wpAny_bind (B.at ?_))))
  show wpAny _ _ (call (.ref f) [.ref o, u] >>= _) _ _ _
  have hl := F.len _ _ _ _ h
  have r2 : Vals [V.ref o, x] [Value.ref o, u] := .cons rfl (.cons rx .nil)
  have hb' := hb s [.ref o, u] I.kIn (by simpa using hl)
  rw [List.append_nil] at hb'
  refine wpAny_bind (wpAny_call (codeAny_mono (F.run X.A X.stack s H ⟨[.ref o, u], []⟩ [.ref o, u] [.ref o, x] _ E hr I.env0 hb' r2 h) fun r s' hq => ?_))
  cases r with
  | error e => exact hx pins σ H s e s' I hq
  | ok fl =>
    cases fl with
    | ret w =>
      obtain ⟨z, H', I', rz, c, ez, qq⟩ := I.after hq
      subst ez
      cases rz
      exact wpAny_pure (wpAny_truthy_bool ⟨H', I', qq⟩)
    | next => exact False.elim hq
    | brk => exact False.elim hq
    | cont => exact False.elim hq
theorem pc_inOwn (ha : PE X a ta) (hb : PE X b tb) (ho : OwnSp X.K C "__contains__" f) (F : FnOk X.prog X.w X.K X.mg X.base CX k f fd ps sp) (hr : Room k X.A) (hbd : Binds X.K fd ps []) (hx : Passes CX X E) : PC X .In a b (tInOwn C sp E ta tb id) := by
  refine ⟨fun pins s σ H Q I h => ?_⟩
  refine bin ha hb I h fun v u s2 x y H2 I2 rx ry q => ?_
  obtain ⟨o, dx, fs, rfl, eo, hsp⟩ := q
  obtain rfl : u = Value.ref o := ry
  show wpAny _ _ (contains (.ref o) v >>= fun c => pure (Value.bool c)) _ _ _
  refine wpAny_bind (thn (contains_own ho F hr hbd hx I2 eo rx hsp) fun c s3 ⟨H3, I3, q3⟩ => wpAny_pure ⟨.bl c, H3, I3, rfl, q3⟩)
theorem pc_notinOwn (ha : PE X a ta) (hb : PE X b tb) (ho : OwnSp X.K C "__contains__" f) (F : FnOk X.prog X.w X.K X.mg X.base CX k f fd ps sp) (hr : Room k X.A) (hbd : Binds X.K fd ps []) (hx : Passes CX X E) : PC X .NotIn a b (tInOwn C sp E ta tb (!·)) := by
  refine ⟨fun pins s σ H Q I h => ?_⟩
  refine bin ha hb I h fun v u s2 x y H2 I2 rx ry q => ?_
  obtain ⟨o, dx, fs, rfl, eo, hsp⟩ := q
  obtain rfl : u = Value.ref o := ry
  show wpAny _ _ (contains (.ref o) v >>= fun c => pure (Value.bool (!c))) _ _ _
  refine wpAny_bind (thn (contains_own (R := fun c H3 => Q (.bl (!c)) H3) ho F hr hbd hx I2 eo rx hsp) fun c s3 ⟨H3, I3, q3⟩ => wpAny_pure ⟨.bl (!c), H3, I3, rfl, q3⟩)

/-! ### sorted of data -/
theorem each_of {α β : Type} {R : α → β → Prop} : ∀ {xs : List α} {ys : List β}, Paired R xs ys → EachIs (fun y x => R x y) ys xs
  | _, _, .nil => .nil
  | _, _, .cons r t => .cons r (each_of t)
theorem each_vals : ∀ {ys : List (V × PyData)} {us : List Value}, EachIs (fun (u : Value) (b : V × PyData) => RelV b.1 u) us ys → Vals (ys.map (·.1)) us
  | _, _, .nil => .nil
  | _, _, .cons r t => .cons r (each_vals t)
theorem vals_each : ∀ {ys : List (V × PyData)} {us : List Value}, Vals (ys.map (·.1)) us → EachIs (fun (u : Value) (b : V × PyData) => RelV b.1 u) us ys
  | [], _, .nil => .nil
  | _ :: _, _, .cons r t => .cons r (vals_each t)
theorem each_imp {α β : Type} {R S : α → β → Prop} : ∀ {xs : List α} {ys : List β}, EachIs R xs ys → (∀ x y, y ∈ ys → R x y → S x y) → EachIs S xs ys
  | _, _, .nil, _ => .nil
  | _, _, .cons r t, f => .cons (f _ _ List.mem_cons_self r) (each_imp t fun x y hy => f x y (List.mem_cons_of_mem _ hy))
def rSortedD (K : PySem.W.Frag) : List V → Hp → VK → Prop := fun vs H Q => ∃ (a : Addr) (bs : List (V × PyData)), vs = [.ref a] ∧ SqL K H a (bs.map (·.1)) ∧ (∀ b ∈ bs, Dp K H b.1 b.2 ∧ b.2.depth ≤ 50) ∧ AllAlike (bs.map (·.2)) ∧ Sortable (bs.map (·.2)) ∧
  ∀ p, H p = none → Q (.ref p) (upd H p (.lst ((bs.mergeSort (PySem.W.dataLe false (·.2))).map (·.1))))
theorem cr_sortedD (hu : X.A.units + 64 < cLine) : CallR X (.builtin "sorted") (rSortedD X.K) := by
  intro pins s σ H xs us Q I r h
  obtain ⟨a, bs, rfl, hq, hd, hal, hk, q⟩ := h
  obtain ⟨u, rfl, ru⟩ := vals1 r
  obtain rfl : u = Value.ref a := ru
  obtain ⟨its, rv, p, hz⟩ := I.list hq
  have e := vals_each rv
  rw [List.length_map] at hz
  refine PySem.W.sorted_data (enc := (·.2)) p.isList e (each_imp e fun x y hy rx => (hd y hy).1.reads I _ _ _ rx) hal hk hz (fun b hb => ?_) fun out ho eo => ?_
  · have := (hd b hb).2
    omega
  · obtain ⟨c, hc⟩ := sortedAll_at s.heap its out.toArray
    have rv' := each_vals eo
    have new : ObjOk X.prog X.w (upd H (s.heap.objs.size + 1) (.lst ((bs.mergeSort (PySem.W.dataLe false (·.2))).map (·.1)))) (sortedAll s.heap its out.toArray) (s.heap.objs.size + 1) (.lst ((bs.mergeSort (PySem.W.dataLe false (·.2))).map (·.1))) :=
      ⟨by rw [List.length_map, List.length_mergeSort]; exact hz, out, c, rv', hc⟩
    exact ⟨.ref (s.heap.objs.size + 1), _, I.laid (t' := s.toks) (fun _ _ => sortedAll_old) (Nat.le_succ _) new, rfl, q _ (I.hok.fresh (Nat.le_succ _))⟩

/-! ### dict(t), t a tuple of pairs -/
theorem tup_pairs {pins : List (Addr × Obj)} {σ : L2.St} {H : Hp} {s : Shared} (I : Inv X pins σ H s) : ∀ {ps : List Addr} {kvs : List (Key × V)}, Paired (fun (p : Addr) (kv : Key × V) => H p = some (.tup [kV kv.1, kv.2])) ps kvs →
    ∃ (prs : List (Value × Value)) (pk : List (Key × Value)), KV kvs pk ∧ prs.length = ps.length ∧ pk.length = ps.length ∧ ∀ (j : Nat) (k v : Value), prs[j]? = some (k, v) → (∃ b, ps[j]? = some b ∧ IsTup s.heap b #[k, v]) ∧ ∃ k', pk[j]? = some (k', v) ∧ keyIs k' k = true
  | _, _, .nil => ⟨[], [], .nil, rfl, rfl, fun j k v z => by simp at z⟩
  | p :: ps, kv :: kvs, .cons hp t => by
    obtain ⟨prs, pk, h1, h2, h3, h4⟩ := tup_pairs I t
    obtain ⟨_, its, rv, ht⟩ := (show ObjOk X.prog X.w H s.heap p (.tup [kV kv.1, kv.2]) from I.hok p _ hp)
    obtain ⟨uk, uv, rfl, rk, rv⟩ := vals2 rv
    have ki : keyIs kv.1 uk = true := by
      obtain ⟨k, v⟩ := kv
      cases k with
      | inl i => obtain ⟨t, rfl⟩ := rk; exact keyIs_int i t
      | inr z => obtain ⟨t, rfl⟩ := rk; exact keyIs_str z t
    refine ⟨(uk, uv) :: prs, (kv.1, uv) :: pk, .cons ⟨rfl, rv⟩ h1, by simp [h2], by simp [h3], fun j k v z => ?_⟩
    cases j with
    | zero =>
      simp only [List.getElem?_cons_zero, Option.some.injEq, Prod.mk.injEq] at z
      obtain ⟨rfl, rfl⟩ := z
      exact ⟨⟨p, rfl, ht⟩, kv.1, rfl, ki⟩
    | succ j => exact h4 j k v (by simpa using z)
/-- tuple(xs), the new tuple's object known: it has no dict -/
theorem cr_tupleF : CallR X (.type "tuple") (fun xs H Q => ∃ p ys, xs = [.ref p] ∧ SqL X.K H p ys ∧ ∀ (l : Addr) (o : Obj), H l = none → o.dict = none → o.cls = .type "tuple" → Q (.ref l) (upd H l (.frz o (.tup ys)))) := by
  intro pins s σ H xs us Q I r h
  obtain ⟨p, ys, rfl, hq, q⟩ := h
  obtain ⟨u, rfl, ru⟩ := vals1 r
  obtain rfl : u = Value.ref p := ru
  obtain ⟨its, rv, pl, hz⟩ := I.list hq
  have len := rv.length
  refine call_tuple_list pl.isList (fun h' kp => ?_) (by simp only [List.size_toArray] <;> omega)
  have I1 : Inv X pins σ H { s with heap := h' } := I.kept (t' := s.toks) kp
  have new : ObjOk X.prog X.w (upd H h'.objs.size (.frz { cls := .type "tuple", data := .seq its.toArray } (.tup ys))) (h'.push { cls := .type "tuple", data := .seq its.toArray }) h'.objs.size (.frz { cls := .type "tuple", data := .seq its.toArray } (.tup ys)) :=
    ⟨Heap.get?_push_size _ rfl, hz, its, rv, IsTup.new _ _⟩
  exact ⟨.ref h'.objs.size, _, I1.laid (t' := s.toks) (fun b o e => Heap.get?_push_of_some _ e) (Nat.le_refl _) new, rfl, q _ _ (I1.hok.fresh (Nat.le_refl _)) rfl rfl⟩
def rDictT (K : PySem.W.Frag) : List V → Hp → VK → Prop := fun vs H Q => ∃ (a : Addr) (o : Obj) (ps : List Addr) (kvs : List (Key × V)), vs = [.ref a] ∧ H a = some (.frz o (.tup (ps.map .ref))) ∧ o.dict = none ∧ Paired (fun (p : Addr) (kv : Key × V) => H p = some (.tup [kV kv.1, kv.2])) ps kvs ∧
  ∀ p, H p = none → Q (.ref p) (upd H p (.dK (mergeK [] kvs)))
theorem cr_dictT (hcalm : X.calm = true) : CallR X (.type "dict") (rDictT X.K) := by
  intro pins s σ H xs us Q I r h
  obtain ⟨a, o, ps, kvs, rfl, ha, hdn, hp, q⟩ := h
  obtain ⟨u, rfl, ru⟩ := vals1 r
  obtain rfl : u = Value.ref a := ru
  obtain ⟨hao, hz, its, rv, o', ho, hc, n, hd⟩ := (show ObjOk X.prog X.w H s.heap a (.frz o (.tup (ps.map .ref))) from I.hok a _ ha)
  rw [hao] at ho
  obtain rfl : o = o' := Option.some.inj ho
  have ei := refs_at rv
  subst ei
  obtain ⟨prs, pk, kv, l1, l2, hpr⟩ := tup_pairs I hp
  rw [List.length_map] at hz
  have pit : PySem.PairItems s.heap (ps.map Value.ref).toArray (fun j => ps.getD j 0) prs := by
    refine ⟨by simp [l1], fun j k v z => ?_⟩
    obtain ⟨⟨b, hb, ht⟩, _⟩ := hpr j k v z
    have e : ps.getD j 0 = b := by rw [List.getD_eq_getElem?_getD, hb]; rfl
    dsimp only
    rw [e]
    exact ⟨by simp [hb], .inl ht⟩
  have key := PySem.call_dict_pairs (A := X.A) (s := s) (E := X.xe) (Q := EP X pins σ Q) (knd := mixKind X.prog X.w) (kvs := pk) (PySem.PairArg.tuple (prog := X.prog) (w := X.w) a (ps.map Value.ref).toArray (fun j => ps.getD j 0) prs) (I.ok.hd hcalm) ⟨⟨o, n, hao, hc, hdn, hd⟩, pit⟩
    ⟨by omega, fun i key v z => (hpr i key v z).2⟩ (by omega) fun h' tk hd' k => ?_
  · exact key
  · have hm : (s.heap.objs.size == sysModules) = false := beq_eq_false_iff_ne.mpr (Nat.ne_of_gt I.big)
    have hlen : (mergeK [] kvs).length ≤ sizeLine := by
      refine Nat.le_trans (length_mergeK kvs []) ?_
      have := kv.length
      rw [List.length_nil]
      omega
    have new : ObjOk X.prog X.w (upd H s.heap.objs.size (.dK (mergeK [] kvs))) h' s.heap.objs.size (.dK (mergeK [] kvs)) := ⟨hlen, hm, merged [] pk, KV.merge kv .nil, hd'⟩
    exact ⟨.ref s.heap.objs.size, _, I.laid (t' := tk) (fun b o e => k b o (by simp) e) (Nat.le_refl _) new, rfl, q _ (I.hok.fresh (Nat.le_refl _))⟩

/-! ### list(d.values()) -/
def tListVals (te : TE) : TE := fun σ H Q => te σ H fun x H1 => ∃ (d : Addr) (kvs : List (Key × V)), x = .ref d ∧ Rd H1 d (.dK kvs) ∧ ∀ p, H1 p = none → Q (.ref p) (upd H1 p (.lst (kvs.map (·.2))))
theorem pe_listVals {e : Expr} {te : TE} {p apos cpos pos : Pos} (hc : X.calm = true) (he : PE X e te) (hg : Gl X "list") (hm : X.mg "list" = none) (hv : bootBuiltins "list" = some (.type "list"))
    (hbase : attributeBase e "values" X.env (eval e X.env) = eval e X.env := by rfl) (hline : (apos.endLine == cpos.line) = true := by rfl)
    (hs : starEach [.Call (.Attribute e "values" apos) [] [] cpos] X.env = (false, eval (.Call (.Attribute e "values" apos) [] [] cpos) X.env) :: starEach [] X.env := by rfl) :
    PE X (.Call (.Name "list" p) [.Call (.Attribute e "values" apos) [] [] cpos] [] pos) (tListVals te) := by
  refine ⟨fun pins s σ H Q I hq => ?_⟩
  refine wpAny_Call_Name_kw (ld_blt I hg hm hv (PyProof.Rows.callWith_type1 ?_ hs rfl))
  rw [hs]
  show wpAny _ _ (spliced ((false, eval (.Call (.Attribute e "values" apos) [] [] cpos) X.env) :: backTo pos (starEach [] X.env))) _ _ s
  refine Calls.spliced_cons (wpAny_Call_method (T := "dict") (id := "dict.values") hbase rfl hline F.plainAttrs_dict F.slot_dict_values F.type_dict_values (thn (he.run pins s σ H _ I hq) fun u s1 ⟨x, H1, I1, rx, d, kvs, ex, hd, q⟩ => ?_))
  subst ex
  obtain rfl : u = Value.ref d := rx
  obtain ⟨hz, hs0, vs, kv, hdo⟩ := (show ObjOk X.prog X.w H1 s1.heap d (.dK kvs) from hd.ok I1.hok)
  obtain ⟨ep, hat⟩ := hdo.dictAt
  have lk : kvs.length = vs.length := Paired.length kv
  have I2 : Inv X pins σ H1 { s1 with heap := s1.heap.push { cls := .type "dict_values", data := .fields #[.ref d] } } := I1.kept (t' := s1.toks) fun b ob q => Heap.get?_push_of_some _ q
  refine ⟨hdo.typeIs, hdo.mapOf.noDict, ?_⟩
  show wpAny _ _ (callWith cpos (.builtin "dict.values") [.ref d] [] []) _ X.xe s1
  refine method_meetsIn F.slot_dict_values F.entry_dict_values rfl (PySem.evalArgs_none ⟨rfl, hdo.typeIs, F.args_dict_values_1 _, _, meets_dict_values (mixKind X.prog X.w) d hs0, ⟨vs, hdo⟩, Calls.spliced_nil ?_⟩)
  refine PySem.W.kdl_call (PySem.W.kdl_values (knd := mixKind X.prog X.w) (kvs := vs) (ep := ep)) (I1.ok.hd hc) ⟨⟨_, Heap.get?_push_size _ rfl, rfl, rfl⟩, hat.push _⟩ (by omega) fun h' tk acc c hk hS hacc => ?_
  have el : acc.toList.length = acc.size := by simp
  have vals : Vals (kvs.map (·.2)) acc.toList := by
    refine vals_of_at (by rw [List.length_map, el, hacc.1, lk]) fun j x w h1 h2 => ?_
    obtain ⟨k, hk⟩ := hacc.2 j w (by rw [← Array.getElem?_toList]; exact h2)
    rw [List.getElem?_map] at h1
    cases h3 : kvs[j]? with
    | none => rw [h3] at h1; cases h1
    | some kx =>
      rw [h3] at h1
      cases h1
      obtain ⟨y, hy, _, r⟩ := paired_get kv h3
      rw [hk] at hy
      cases hy
      exact r
  have new : ObjOk X.prog X.w (upd H1 (s1.heap.push { cls := .type "dict_values", data := .fields #[.ref d] }).objs.size (.lst (kvs.map (·.2)))) h' (s1.heap.push { cls := .type "dict_values", data := .fields #[.ref d] }).objs.size (.lst (kvs.map (·.2))) :=
    ⟨by rw [List.length_map]; exact hz, acc.toList, c, vals, by rw [Array.toArray_toList]; exact hS⟩
  exact ⟨.ref _, _, I2.laid (t' := tk) hk (Nat.le_refl _) new, rfl, q _ (I2.hok.fresh (Nat.le_refl _))⟩
end
end Ev
end

section
namespace Ev
open PySem PySem.Spec PyProof.Rows L2
/-! ### heaps -/
section
variable {H H' H1 H2 : Hp} {a b p : Addr} {o u ob oa : HO}
theorem upd_old (h : H a = some o) (hp : H p = none) : upd H p u a = some o := by
  rw [upd_ne (ne_of_none h hp)]; exact h
theorem upd_dif (hb : H b = some ob) (ha : H a = some oa) (d : ob ≠ oa) : upd H a u b = some ob := by
  rw [upd_ne (ne_of hb ha d)]; exact hb
theorem upd_neq (h : H b = some o) (ne : b ≠ a) : upd H a u b = some o := by
  rw [upd_ne ne]; exact h
theorem same_upd (hp : H p = none) : Same H (upd H p u) := fun b o e => upd_old e hp
theorem _root_.L2.Same.new (s : Same H H1) (hp : H1 p = none) : Same H (upd H1 p u) := s.trans (same_upd hp)
theorem _root_.L2.Same.sqx {K : PySem.W.Frag} {f : Bool} {xs : List V} (s : Same H H') (h : SqX K f H a xs) : SqX K f H' a xs := by
  cases f
  · exact s.seq h
  · rcases h with (h | ⟨o, h⟩) | h
    · exact .inl (.inl (s _ _ h))
    · exact .inl (.inr ⟨o, s _ _ h⟩)
    · exact .inr h
theorem _root_.L2.Same.sqt {K : PySem.W.Frag} {xs : List V} (s : Same H H') (h : SqT K H a xs) : SqT K H' a xs := s.sqx (f := true) h
mutual
theorem _root_.L2.Same.dp {K : PySem.W.Frag} (s : Same H H') : ∀ {v : V} {d : PyData}, Dp K H v d → Dp K H' v d
  | _, _, .non => .non
  | _, _, .bl b => .bl b
  | _, _, .int i => .int i
  | _, _, .str x => .str x
  | _, _, .lst h t => .lst (s.seq h) (L2.Same.dpAll s t)
  | _, _, .tup h t => .tup (s.sqt h) (L2.Same.dpAll s t)
theorem _root_.L2.Same.dpAll {K : PySem.W.Frag} (s : Same H H') : ∀ {vs : List V} {ds : List PyData}, DpAll K H vs ds → DpAll K H' vs ds
  | _, _, .nil => .nil
  | _, _, .cons h t => .cons (L2.Same.dp s h) (L2.Same.dpAll s t)
end
/-- all that was tracked is as it was, but at S -/
def Keep (S : List Addr) (H H' : Hp) : Prop := ∀ b o, H b = some o → b ∉ S → H' b = some o
theorem Keep.refl (S : List Addr) (H : Hp) : Keep S H H := fun _ _ h _ => h
theorem Keep.trans {S : List Addr} (a : Keep S H H1) (b : Keep S H1 H2) : Keep S H H2 := fun c o h n => b c o (a c o h n) n
theorem Keep.of (S : List Addr) (s : Same H H') : Keep S H H' := fun b o h _ => s b o h
theorem Keep.same {S : List Addr} (k : Keep S H H1) (s : Same H1 H2) : Keep S H H2 := fun b o h n => s b o (k b o h n)
theorem Keep.new {S : List Addr} (k : Keep S H H1) (hp : H1 p = none) : Keep S H (upd H1 p u) := fun b o h n => upd_old (k b o h n) hp
theorem Keep.put {S : List Addr} (k : Keep S H H1) (ha : a ∈ S) : Keep S H (upd H1 a u) := fun b o h n => by
  rw [upd_ne (fun e => n (by rw [e]; exact ha))]
  exact k b o h n
theorem Keep.sub {S T : List Addr} (k : Keep S H H1) (h : ∀ x ∈ S, x ∈ T) : Keep T H H1 := fun b o e n => k b o e fun z => n (h b z)
/-- a place that is new behind H1 was new ahead -/
theorem _root_.L2.Same.fresh (s : Same H H') (h : H' p = none) : H p = none := s.free h
end
theorem _root_.L2.Dp.tup_of {K : PySem.W.Frag} {H : Hp} {v : V} {ds : List PyData} (h : Dp K H v (.tuple ds)) : ∃ a xs, v = .ref a ∧ SqT K H a xs ∧ DpAll K H xs ds := by
  cases h with
  | tup h t => exact ⟨_, _, rfl, h, t⟩
theorem _root_.L2.DpAll.len {K : PySem.W.Frag} {H : Hp} : ∀ {vs : List V} {ds : List PyData}, DpAll K H vs ds → vs.length = ds.length
  | _, _, .nil => rfl
  | _, _, .cons _ t => congrArg (· + 1) (L2.DpAll.len t)
theorem _root_.L2.DpAll.get {K : PySem.W.Frag} {H : Hp} : ∀ {vs : List V} {ds : List PyData} {i : Nat} {v : V}, DpAll K H vs ds → vs[i]? = some v → ∃ d, ds[i]? = some d ∧ Dp K H v d
  | _, _, 0, _, .cons h _, e => by cases e; exact ⟨_, rfl, h⟩
  | _, _, i + 1, _, .cons _ t, e => L2.DpAll.get (i := i) t e
theorem _root_.L2.DpAll.snoc {K : PySem.W.Frag} {H : Hp} {v : V} {d : PyData} : ∀ {vs : List V} {ds : List PyData}, DpAll K H vs ds → Dp K H v d → DpAll K H (vs ++ [v]) (ds ++ [d])
  | _, _, .nil, h => .cons h .nil
  | _, _, .cons h t, h' => .cons h (L2.DpAll.snoc t h')
theorem _root_.L2.DpAll.ints {K : PySem.W.Frag} {H : Hp} : ∀ (ns : List Int), DpAll K H (ns.map V.int) (ns.map PyData.int)
  | [] => .nil
  | n :: r => .cons (.int n) (L2.DpAll.ints r)
theorem _root_.L2.DpAll.strs {K : PySem.W.Frag} {H : Hp} : ∀ (ns : List Str), DpAll K H (ns.map V.str) (ns.map PyData.str)
  | [] => .nil
  | n :: r => .cons (.str n) (L2.DpAll.strs r)
/-- the built-in class of a value that is data -/
def tyD : PyData → String
  | .none => "NoneType"
  | .bool _ => "bool"
  | .int _ => "int"
  | .str _ => "str"
  | .list _ => "list"
  | .tuple _ => "tuple"
  | .dict _ => "dict"
theorem tyx_dp {K : PySem.W.Frag} {H : Hp} {v : V} {d : PyData} (h : Dp K H v d) : TyX K H v (.type (tyD d)) := by
  cases h with
  | non => exact .base .non
  | bl b => exact .base (.bl b)
  | int i => exact .base (.int i)
  | str x => exact .base (.str x)
  | lst h t =>
    rcases h with (h | ⟨o, h⟩) | ⟨o, its, n, e, c, _⟩
    · exact .base (.lst h)
    · exact .base (.frz h)
    · exact .kList e c
  | tup h t =>
    rcases h with (h | ⟨o, h⟩) | ⟨o, its, n, e, c, _⟩
    · exact .base (.tup h)
    · exact .fTuple h
    · exact .kTuple e c
theorem kit_d {K : PySem.W.Frag} (d : PyData) : PySem.W.kitOne K (.type (tyD d)) (.type "int") = some (match d with | .int _ => true | .bool _ => true | _ => false) := by
  cases d with
  | none => exact kit_ty (show kitB "NoneType" "int" = some false by decide +kernel)
  | bool b => exact kit_ty (show kitB "bool" "int" = some true by decide +kernel)
  | int i => exact kit_ty (show kitB "int" "int" = some true by decide +kernel)
  | str x => exact kit_ty (show kitB "str" "int" = some false by decide +kernel)
  | list xs => exact kit_ty (show kitB "list" "int" = some false by decide +kernel)
  | tuple xs => exact kit_ty (show kitB "tuple" "int" = some false by decide +kernel)
  | dict xs => exact kit_ty (show kitB "dict" "int" = some false by decide +kernel)
theorem kit_b {K : PySem.W.Frag} (d : PyData) : PySem.W.kitOne K (.type (tyD d)) (.type "bool") = some (match d with | .bool _ => true | _ => false) := by
  cases d with
  | none => exact kit_ty (show kitB "NoneType" "bool" = some false by decide +kernel)
  | bool b => exact kit_ty (show kitB "bool" "bool" = some true by decide +kernel)
  | int i => exact kit_ty (show kitB "int" "bool" = some false by decide +kernel)
  | str x => exact kit_ty (show kitB "str" "bool" = some false by decide +kernel)
  | list xs => exact kit_ty (show kitB "list" "bool" = some false by decide +kernel)
  | tuple xs => exact kit_ty (show kitB "tuple" "bool" = some false by decide +kernel)
  | dict xs => exact kit_ty (show kitB "dict" "bool" = some false by decide +kernel)
theorem kit_s {K : PySem.W.Frag} (d : PyData) : PySem.W.kitOne K (.type (tyD d)) (.type "str") = some (match d with | .str _ => true | _ => false) := by
  cases d with
  | none => exact kit_ty (show kitB "NoneType" "str" = some false by decide +kernel)
  | bool b => exact kit_ty (show kitB "bool" "str" = some false by decide +kernel)
  | int i => exact kit_ty (show kitB "int" "str" = some false by decide +kernel)
  | str x => exact kit_ty (show kitB "str" "str" = some true by decide +kernel)
  | list xs => exact kit_ty (show kitB "list" "str" = some false by decide +kernel)
  | tuple xs => exact kit_ty (show kitB "tuple" "str" = some false by decide +kernel)
  | dict xs => exact kit_ty (show kitB "dict" "str" = some false by decide +kernel)
theorem kit_t {K : PySem.W.Frag} (d : PyData) : PySem.W.kitOne K (.type (tyD d)) (.type "tuple") = some (match d with | .tuple _ => true | _ => false) := by
  cases d with
  | none => exact kit_ty (show kitB "NoneType" "tuple" = some false by decide +kernel)
  | bool b => exact kit_ty (show kitB "bool" "tuple" = some false by decide +kernel)
  | int i => exact kit_ty (show kitB "int" "tuple" = some false by decide +kernel)
  | str x => exact kit_ty (show kitB "str" "tuple" = some false by decide +kernel)
  | list xs => exact kit_ty (show kitB "list" "tuple" = some false by decide +kernel)
  | tuple xs => exact kit_ty (show kitB "tuple" "tuple" = some true by decide +kernel)
  | dict xs => exact kit_ty (show kitB "dict" "tuple" = some false by decide +kernel)
theorem one_k : (1 : Nat) ≤ sizeLine := by rw [sizeLine_eq]; omega
theorem le_line {n : Nat} (h : n ≤ 100000) : n ≤ sizeLine := by rw [sizeLine_eq]; omega
theorem lt_line {n : Nat} (h : n ≤ 100000) : n < sizeLine := by rw [sizeLine_eq]; omega

/-! ### attributes of own classes, by records -/
section
variable {α : Type}
/-- an attribute of a class whose instances are told by records -/
structure FldR (K : PySem.W.Frag) (C : Addr) (fs : α → List (Str × V)) (f : Str) (get : α → V) (put : α → V → α) : Prop where
  cl : Cls K C
  na : NoAttr K C f
  lk : ∀ o, (fs o).lookup f = some (get o)
  pu : ∀ o v, putF f v (fs o) = fs (put o v)
  sz : ∀ o, (fs o).length < 1000
/-- an instance of the class at C stands at a -/
def AtO (C : Addr) (fs : α → List (Str × V)) (H : Hp) (a : Addr) (o : α) : Prop := ∃ dx, H a = some (.ins C dx (fs o))
variable {C a b : Addr} {fs : α → List (Str × V)} {o : α} {H H' : Hp} {S : List Addr}
theorem AtO.same (h : AtO C fs H a o) (s : Same H H') : AtO C fs H' a o := let ⟨dx, e⟩ := h; ⟨dx, s _ _ e⟩
theorem AtO.keep (h : AtO C fs H a o) (s : Keep S H H') (n : a ∉ S) : AtO C fs H' a o := let ⟨dx, e⟩ := h; ⟨dx, s _ _ e n⟩
theorem AtO.some (h : AtO C fs H a o) : ∃ u, H a = some u := let ⟨_, e⟩ := h; ⟨_, e⟩
theorem AtO.ne (h : AtO C fs H a o) (hb : H b = none) : a ≠ b := let ⟨_, e⟩ := h; ne_of_none e hb
theorem AtO.eq (h : AtO C fs H a o) (e : H' a = H a) : AtO C fs H' a o := let ⟨dx, q⟩ := h; ⟨dx, e.trans q⟩
variable {X : Cx} {f : Str} {get : α → V} {put : α → V → α} {e oe value : Expr} {ta tv : TE} {pos pos' : Pos}
def tGet (C : Addr) (fs : α → List (Str × V)) (get : α → V) (ta : TE) : TE := fun σ H Q => ta σ H fun x H1 => ∃ a o, x = .ref a ∧ AtO C fs H1 a o ∧ Q (get o) H1
theorem pe_get (R : FldR X.K C fs f get put) (he : PE X e ta) (hb : attributeBase e f X.env (eval e X.env) = eval e X.env := by rfl) : PE X (.Attribute e f pos) (tGet C fs get ta) := by
  refine ⟨fun pins s σ H Q I h => attr_of hb (thn (he.run pins s σ H _ I h) fun u s1 ⟨x, H1, I1, rx, a, o, ex, ⟨dx, ea⟩, q⟩ => ?_)⟩
  subst ex
  obtain rfl : u = Value.ref a := rx
  exact getattr_ok I1 ea R.cl R.na (R.lk o) fun u' s2 I2 ru => ⟨get o, H1, I2, ru, q⟩
/-- all but the object at a is as it was -/
structure But (a : Addr) (H H' : Hp) : Prop where
  off : ∀ b, b ≠ a → H' b = H b
theorem But.keep (h : But a H H') (ha : a ∈ S) : Keep S H H' := fun b o e n => (h.off b fun q => n (by rw [q]; exact ha)).trans e
theorem But.free (h : But a H H') {p : Addr} (e : H' p = none) (hn : ∃ u, H' a = .some u) : H p = none := by
  obtain ⟨u, hu⟩ := hn
  have ne : p ≠ a := fun q => by rw [q, hu] at e; cases e
  rw [← h.off p ne]
  exact e
def sPut (C : Addr) (fs : α → List (Str × V)) (put : α → V → α) (ta tv : TE) : TS := fun D σ H => tv σ H fun y H1 => ta σ H1 fun x H2 => ∃ a o, x = .ref a ∧ AtO C fs H2 a o ∧ ∀ H3, AtO C fs H3 a (put o y) → But a H2 H3 → D.nx σ H3
theorem ps_put (R : FldR X.K C fs f get put) (ha : PE X oe ta) (hv : PE X value tv) (hs : swapsWith value (some (.Attribute oe f pos')) pos.line X.env = pure false := by rfl) : PS X (.Assign [.Attribute oe f pos'] value pos) (sPut C fs put ta tv) := by
  refine ⟨fun pins s σ H D I h => plainObj_wpAny_Assign_Attribute (thn (hv.run pins s σ H _ I h) fun u s1 ⟨y, H1, I1, ry, q⟩ => thn (ha.run pins s1 σ H1 _ I1 q) fun ov s2 ⟨x, H2, I2, rx, a, o, ex, ⟨dx, ea⟩, q2⟩ => ?_) hs⟩
  subst ex
  obtain rfl : ov = Value.ref a := rx
  refine setattr_ok I2 ea R.cl R.na (R.sz o) ry fun s3 I3 => ⟨σ, _, I3, q2 _ ⟨dx, ?_⟩ ⟨fun b hb => upd_ne hb⟩⟩
  rw [upd_same, R.pu]
def sAugF (C : Addr) (fs : α → List (Str × V)) (get : α → V) (put : α → V → α) (rd : V → V → Hp → VK → Prop) (ta tv : TE) : TS := fun D σ H => ta σ H fun x H1 => ∃ a o, x = .ref a ∧ AtO C fs H1 a o ∧
  tv σ H1 fun y H2 => rd (get o) y H2 fun z H3 => ∃ o', AtO C fs H3 a o' ∧ ∀ H4, AtO C fs H4 a (put o' z) → But a H3 H4 → D.nx σ H4
theorem ps_augF {op : Operator} {rd : V → V → Hp → VK → Prop} (R : FldR X.K C fs f get put) (ha : PE X oe ta) (hv : PE X value tv) (hop : InOp X op rd) : PS X (.AugAssign (.Attribute oe f pos') op value pos) (sAugF C fs get put rd ta tv) := by
  refine ⟨fun pins s σ H D I h => wpAny_AugAssign_AttributeAny (thn (ha.run pins s σ H _ I h) fun ov s1 ⟨x, H1, I1, rx, a, o, ex, ⟨dx, ea⟩, q⟩ => ?_)⟩
  subst ex
  obtain rfl : ov = Value.ref a := rx
  refine getattr_ok I1 ea R.cl R.na (R.lk o) fun u s2 I2 ru => thn (hv.run pins s2 σ H1 _ I2 q) fun w3 s3 ⟨y, H2, I3, ry, q3⟩ => thn (hop pins s3 σ H2 (get o) y u w3 _ I3 ru ry q3) fun w4 s4 ⟨z, H3, I4, rz, o', ⟨dx', ea'⟩, q4⟩ => ?_
  refine setattr_ok I4 ea' R.cl R.na (R.sz o') rz fun s5 I5 => ⟨σ, _, I5, q4 _ ⟨dx', ?_⟩ ⟨fun b hb => upd_ne hb⟩⟩
  rw [upd_same, R.pu]
end

/-! ### methods, properties, new instances, by records -/
def tMono (t : TE) : TE := fun σ H Q => ∃ R : VK, t σ H R ∧ ∀ x H1, R x H1 → Q x H1
theorem pe_mono {X : Cx} {e : Expr} {t : TE} (he : PE X e t) : PE X e (tMono t) :=
  ⟨fun pins s σ H Q I ⟨R, h, k⟩ => thn (he.run pins s σ H R I h) fun u s1 ⟨v, H1, I1, r1, q⟩ => ⟨v, H1, I1, r1, k v H1 q⟩⟩
section
variable {α : Type} {X : Cx} {CX : CXT} {k : Nat} {C f p g : Addr} {fs : α → List (Str × V)} {fd : FuncData} {ps : List Str} {sp : Sp} {dvs : List V} {ds : List Value} {E : XK} {o e : Expr} {es : List Expr} {m : Str} {apos pos : Pos} {ta : TE} {t : TA}
def tMethO (C : Addr) (fs : α → List (Str × V)) (sp : Sp) (dvs : List V) (E : XK) (ta : TE) (t : TA) : TE := fun σ H Q => ta σ H fun x H1 => ∃ a o, x = .ref a ∧ AtO C fs H1 a o ∧ t σ H1 fun vs H2 => sp (.ref a :: (vs ++ dvs)) H2 Q E
theorem pe_methO (hl : ∀ o, (fs o).lookup m = none) (h : PE X e (tMeth C m sp dvs E (tMono ta) t)) : PE X e (tMethO C fs sp dvs E ta t) :=
  ⟨fun pins s σ H Q I q => h.run pins s σ H Q I ⟨_, q, fun x H1 ⟨a, o, ex, ⟨dx, ea⟩, q⟩ => ⟨a, dx, fs o, ex, ea, hl o, by rw [ex]; exact q⟩⟩⟩
def tPropO (C : Addr) (fs : α → List (Str × V)) (sp : Sp) (E : XK) (ta : TE) : TE := fun σ H Q => ta σ H fun x H1 => ∃ a o, x = .ref a ∧ AtO C fs H1 a o ∧ sp [.ref a] H1 Q E
theorem pe_propO (he : PE X e ta) (c : Cls X.K C) (hp : PropOf X.K C m p g) (F : FnOk X.prog X.w X.K X.mg X.base CX k g fd ps sp) (hr : Room (k + 1) X.A) (hb : Binds X.K fd ps []) (hx : Passes CX X.nox E)
    (hab : attributeBase e m X.env (eval e X.env) = eval e X.env := by rfl) : PE X (.Attribute e m pos) (tPropO C fs sp E ta) :=
  ⟨fun pins s σ H Q I h => (pe_prop (pe_mono he) c hp F hr hb .nil hx hab).run pins s σ H Q I ⟨_, h, fun x H1 ⟨a, o, ex, ⟨dx, ea⟩, q⟩ => ⟨a, dx, fs o, ex, ea, q⟩⟩⟩
end
/-- behind the making of an instance at x: all that stood stands -/
theorem make_same {H1 H' : Hp} {C x dx : Addr} (nx : H1 x = none) (ndx : H1 dx = none) (k : But x (upd (upd H1 dx (.own x)) x (.ins C dx [])) H') : Same H1 H' := fun b o e => by
  have n1 : b ≠ x := ne_of_none e nx
  have n2 : b ≠ dx := ne_of_none e ndx
  rw [k.off b n1, upd_ne n1, upd_ne n2]
  exact e
end Ev
end

section
namespace Ev
open PySem PySem.Spec PyProof.Rows L2
theorem ifT {c : Bool} {A B : Prop} (hc : c = true) (h : A) : if c = true then A else B := by
  rw [if_pos hc]; exact h
theorem ifF {c : Bool} {A B : Prop} (hc : c = false) (h : B) : if c = true then A else B := by
  rw [hc, if_neg Bool.false_ne_true]; exact h
theorem dT {p : Prop} [Decidable p] (h : p) : decide p = true := decide_eq_true h
theorem dF {p : Prop} [Decidable p] (h : ¬ p) : decide p = false := decide_eq_false h
theorem nT {p : Prop} [Decidable p] (h : p) : (!decide p) = false := by rw [decide_eq_true h]; rfl
theorem nF {p : Prop} [Decidable p] (h : ¬ p) : (!decide p) = true := by rw [decide_eq_false h]; rfl
/-! ### comprehensions whose turns only add to the heap -/
section
variable {J : It} {n : Nat} {G : Hp → Prop} {Y : Nat → Hp → V → Hp → Prop}
/-- what a turn's result says stands when the heap grows, and when a list elsewhere is written -/
structure Stays (R : Nat → V → Hp → Prop) : Prop where
  same : ∀ i y H H', Same H H' → R i y H → R i y H'
  lst : ∀ i y H (D : Addr) acc acc', H D = some (.lst acc) → R i y H → R i y (upd H D (.lst acc'))
theorem lc_same (w : Walk J n G Y) {g : TG} {tt : TT} {te : TE} {vs : List Nat} {σ : L2.St} {H1 : Hp} {D : Addr} {Qd : Hp → Prop} (R : Nat → V → Hp → Prop) (st : Stays R) (hn : n < sizeLine) (hD : H1 D = none) (hG : ∀ H, Same H1 H → G H)
    (hs : ∀ i x H H' (Z : VK) (F : Hp → Prop), i < n → Same H1 H → Y i H x H' → (∀ y H4, Same H H4 → R i y H4 → Z y H4) → g x (wipe σ vs) H' fun σ2 H2 => wipe σ2 vs = wipe σ vs ∧ tt σ2 H2 fun b H3 => if b = true then te σ2 H3 Z else F H3)
    (hd : ∀ H ys, Same H1 H → H D = some (.lst ys) → ys.length = n → (∀ (i : Nat) (y : V), ys[i]? = some y → R i y H) → Qd H) :
    ∃ W : Nat → Nat → Hp → Prop, (∃ m, W 0 m (upd H1 D (.lst []))) ∧ ∀ i m H, W i m H →
      (J.stop i H ∧ Qd H) ∨ (J.go i H ∧ ∃ Nx : Hp → Prop, (∀ H', Nx H' → ∃ m', m' < m ∧ W (i + 1) m' H') ∧ ∀ x H', J.yld i H x H' → g x (wipe σ vs) H' fun σ2 H2 => wipe σ2 vs = wipe σ vs ∧ tt σ2 H2 fun b H3 =>
        if b = true then te σ2 H3 fun y H4 => ∃ acc, H4 D = some (.lst acc) ∧ acc.length < sizeLine ∧ Nx (upd H4 D (.lst (acc ++ [y]))) else Nx H3) := by
  refine lc_it w (fun i H => Same H1 H ∧ ∃ ys, H D = some (.lst ys) ∧ ys.length = i ∧ ∀ (j : Nat) (y : V), ys[j]? = some y → R j y H) ⟨same_upd hD, [], upd_same, rfl, fun j y e => by simp at e⟩ (fun i H _ p => hG H p.1) ?_ (fun H p => let ⟨s, ys, e, l, r⟩ := p; hd H ys s e l r)
  rintro i x H H' hi ⟨s, ys, e, l, r⟩ y
  refine hs i x H H' _ _ hi s y fun v H4 s4 rv => ?_
  have e4 := s4 _ _ e
  refine ⟨ys, e4, by omega, fun b o h => ?_, ys ++ [v], upd_same, by simp [l], fun j z hz => ?_⟩
  · have ne : b ≠ D := ne_of_none h hD
    rw [upd_ne ne]
    exact s4 _ _ (s _ _ h)
  · refine st.lst j z H4 D ys _ e4 ?_
    by_cases hj : j < ys.length
    · rw [List.getElem?_append_left hj] at hz
      exact st.same j z H H4 s4 (r j z hz)
    · rw [List.getElem?_append_right (by omega)] at hz
      have e0 : j - ys.length = 0 := by
        cases h0 : j - ys.length with
        | zero => rfl
        | succ k => rw [h0] at hz; simp at hz
      rw [e0] at hz
      cases hz
      have ej : j = i := by omega
      rw [ej]
      exact rv
end

theorem stays_true : Stays (fun _ _ _ => True) := ⟨fun _ _ _ _ _ _ => trivial, fun _ _ _ _ _ _ _ _ => trivial⟩
/-- results that don't look at the heap -/
theorem stays_val (f : Nat → V → Prop) : Stays (fun i y _ => f i y) := ⟨fun _ _ _ _ _ h => h, fun _ _ _ _ _ _ _ h => h⟩
mutual
/-- data without lists: written lists elsewhere don't touch it -/
def noL : PyData → Bool
  | .list _ => false
  | .tuple ds => noLs ds
  | .dict _ => false
  | _ => true
def noLs : List PyData → Bool
  | [] => true
  | d :: ds => noL d && noLs ds
end
section
variable {K : PySem.W.Frag} {H : Hp} {D : Addr} {acc acc' : List V}
theorem sqt_lst {a : Addr} {xs : List V} (h : SqT K H a xs) (e : H D = some (.lst acc)) : SqT K (upd H D (.lst acc')) a xs := by
  rcases h with (h | ⟨o, h⟩) | h
  · exact .inl (.inl (upd_dif h e (fun z => nomatch z)))
  · exact .inl (.inr ⟨o, upd_dif h e (fun z => nomatch z)⟩)
  · exact .inr h
mutual
theorem dp_lst (e : H D = some (.lst acc)) : ∀ {v : V} {d : PyData}, Dp K H v d → noL d = true → Dp K (upd H D (.lst acc')) v d
  | _, _, .non, _ => .non
  | _, _, .bl b, _ => .bl b
  | _, _, .int i, _ => .int i
  | _, _, .str x, _ => .str x
  | _, _, .lst h t, q => by cases q
  | _, _, .tup h t, q => .tup (sqt_lst h e) (dpAll_lst e t q)
theorem dpAll_lst (e : H D = some (.lst acc)) : ∀ {vs : List V} {ds : List PyData}, DpAll K H vs ds → noLs ds = true → DpAll K (upd H D (.lst acc')) vs ds
  | _, _, .nil, _ => .nil
  | _, _, .cons h t, q => by
    have q' : (noL _ && noLs _) = true := q
    rw [Bool.and_eq_true] at q'
    exact .cons (dp_lst e h q'.1) (dpAll_lst e t q'.2)
end
theorem stays_dp (f : Nat → PyData) (hf : ∀ i, noL (f i) = true) : Stays (fun i y H => Dp K H y (f i)) :=
  ⟨fun _ _ _ _ s h => s.dp h, fun i _ _ _ _ _ e h => dp_lst e h (hf i)⟩
end
/-- the items one by one -/
theorem dpAll_of {K : PySem.W.Frag} {H : Hp} : ∀ {ys : List V} {ds : List PyData}, ys.length = ds.length → (∀ (i : Nat) y d, ys[i]? = some y → ds[i]? = some d → Dp K H y d) → DpAll K H ys ds
  | [], [], _, _ => .nil
  | [], _ :: _, h, _ => by cases h
  | _ :: _, [], h, _ => by cases h
  | y :: ys, d :: ds, h, f => .cons (f 0 y d rfl rfl) (dpAll_of (Nat.succ.inj h) fun i y' d' e1 e2 => f (i + 1) y' d' e1 e2)
/-- all over a list, by places -/
theorem all_range {α : Type} [Inhabited α] (l : List α) (f : α → Bool) : l.all f = (((List.range l.length).map fun i => f (l.getD i default)).all id) := by
  induction l with
  | nil => rfl
  | cons a l ih =>
    rw [List.all_cons, ih, List.length_cons, List.range_succ_eq_map, List.map_cons, List.all_cons, List.map_map]
    rfl
theorem bools_of {f : Nat → Bool} : ∀ {ys : List V} {n : Nat}, ys.length = n → (∀ (i : Nat) (y : V), ys[i]? = some y → y = V.bl (f i)) → ys = ((List.range n).map f).map V.bl := fun {ys n} h r => by
  refine List.ext_getElem? fun i => ?_
  by_cases hi : i < n
  · have h1 : i < ys.length := by omega
    rw [List.getElem?_eq_getElem h1, r i ys[i] (List.getElem?_eq_getElem h1)]
    simp [hi]
  · rw [List.getElem?_eq_none (by omega), List.getElem?_eq_none (by simp; omega)]
/-! ### while, by an index of your own -/
def tMonoT (t : TT) : TT := fun σ H Q => ∃ R : Bool → Hp → Prop, t σ H R ∧ ∀ b H1, R b H1 → Q b H1
theorem pt_mono {X : Cx} {e : Expr} {t : TT} (h : PT X e t) : PT X e (tMonoT t) :=
  ⟨fun pins s σ H Q I ⟨R, q, k⟩ => thn (h.run pins s σ H R I q) fun d s1 ⟨H1, I1, q1⟩ => ⟨H1, I1, k d H1 q1⟩⟩
theorem while_ix {c : TT} {tb : TS} {D : Ends} {σ : L2.St} {H : Hp} (W : Nat → L2.St → Hp → Prop) (m : Nat) (h0 : W m σ H)
    (hs : ∀ m σ H, W m σ H → c σ H fun b H1 => if b = true then tb { D with nx := fun σ' H' => ∃ m', m' < m ∧ W m' σ' H', ct := fun σ' H' => ∃ m', m' < m ∧ W m' σ' H', bk := D.nx } σ H1 else D.nx σ H1) :
    tWhile (tMonoT c) tb D σ H := by
  refine ⟨W, ⟨m, h0⟩, fun m σ H w => ⟨_, hs m σ H w, fun b H1 q => ?_⟩⟩
  cases b
  · exact q
  · exact ⟨_, fun _ _ h => h, q⟩
end Ev
end

section
namespace Ev
open PySem PyProof.Rows L2
/-! ### boards as plain data, and which lines tell them -/
structure LoopM where
  name : Str
  length : Nat
  span : Nat
  then_ : Str
  places : List (List Str)
structure TrackM where
  name : Str
  loops : List LoopM
structure ButtonM where
  name : Str
  quantum : Nat
  deeds : List (Str × Str × Str)
structure BoardM where
  tracks : List TrackM
  buttons : List ButtonM
  bar : Nat
abbrev lettersL : List Nat := (("abcdefghijklmnopqrstuvwxyz" : Str)).cps.toList
abbrev figuresL : List Nat := (("0123456789" : Str)).cps.toList
def nameOk (s : Str) : Bool := decide (1 ≤ s.length) && decide (s.length ≤ 8) && s.cps.toList.all fun c => decide (c ∈ lettersL)
/-- each less than the next one -/
def ascB {α : Type} (lt : α → α → Bool) (l : List α) : Bool := (l.zip (l.drop 1)).all fun p => lt p.1 p.2
def ltI (a b : Int) : Bool := decide (a < b)
def ltS (a b : Str) : Bool := decide (a.cps.toList < b.cps.toList)
/-- the integer of a word of figures -/
def figW (s : Str) : Bool := decide (1 ≤ s.length) && decide (s.length ≤ 9) && s.cps.toList.all fun c => decide (c ∈ figuresL)
def numIn (s : Str) : Int := if figW s = true ∧ (s.cps.toList = [48] ∨ s.cps.toList.head? ≠ some 48) then ((PySem.NumText.digitsVal s.cps.toList : Nat) : Int) else -1
/-- the texts of data are short -/
def shortS (x : Str) : Prop := x.length ≤ 100000
def blanks (n : Nat) : Str := ⟨(List.replicate n 32).toArray⟩
def sB : Str := " "
/-- the words of a line that stands n blanks deep -/
def wordsIn (l : Str) (n : Nat) : Option (List Str) :=
  if cutS l none (some (n : Int)) = blanks n ∧ ("" : Str) ∉ Txt.split (cutS l (some (n : Int)) none) sB then some (Txt.split (cutS l (some (n : Int)) none) sB) else none
def rowW (rest : List Str) (n : Nat) : Option (List Str) := match rest with
  | [] => none
  | l :: _ => wordsIn l n
def headW (rest : List Str) (n : Nat) (h : Str) : Option (List Str) := match rowW rest n with
  | some (w :: r) => if w = h then some (w :: r) else none
  | _ => none
/-- the words of a loop that can stand -/
inductive LoopW : List Str → LoopM → Prop
  | lasts {w nm ln : Str} {n : Nat} : nameOk nm = true → numIn ln = (n : Int) → 1 ≤ n → n ≤ 6 → LoopW [w, nm, ln, "lasts"] ⟨nm, n, 0, "", List.replicate n []⟩
  | ends {w nm ln rd : Str} {n r : Nat} : nameOk nm = true → numIn ln = (n : Int) → 1 ≤ n → n ≤ 6 → numIn rd = (r : Int) → 1 ≤ r → r ≤ 3 → LoopW [w, nm, ln, "ends", rd] ⟨nm, n, r * n, "", List.replicate n []⟩
  | goes {w nm ln th rd : Str} {n r : Nat} : nameOk nm = true → numIn ln = (n : Int) → 1 ≤ n → n ≤ 6 → nameOk th = true → numIn rd = (r : Int) → 1 ≤ r → r ≤ 3 → LoopW [w, nm, ln, "goes", th, rd] ⟨nm, n, r * n, th, List.replicate n []⟩
inductive PlacesR (len : Nat) : Int → List (List Str) → List Str → List (List Str) → List Str → Prop
  | stop {last pl rest} : rowW rest 4 = none → PlacesR len last pl rest pl rest
  | step {last : Int} {pl l r pl' rest'} {w : Str} {ss : List Str} {n : Nat} : wordsIn l 4 = some (w :: ss) → numIn w = (n : Int) → last < (n : Int) → n < len → 1 ≤ ss.length → ss.length ≤ 3 → (∀ s ∈ ss, nameOk s = true) → ascB ltS ss = true →
      PlacesR len (n : Int) (pl.set n ss) r pl' rest' → PlacesR len last pl (l :: r) pl' rest'
inductive LoopsR : List LoopM → List Str → List LoopM → List Str → Prop
  | stop {ls rest} : headW rest 2 "loop" = none → LoopsR ls rest ls rest
  | step {ls l r ws L pl rest1 ls' rest'} : headW (l :: r) 2 "loop" = some ws → LoopW ws L → L.name ∉ ls.map (·.name) → ls.length < 3 → PlacesR L.length (-1) L.places r pl rest1 →
      LoopsR (ls ++ [{ L with places := pl }]) rest1 ls' rest' → LoopsR ls (l :: r) ls' rest'
inductive TracksR : List TrackM → List Str → List TrackM → List Str → Prop
  | stop {ts rest} : headW rest 0 "track" = none → TracksR ts rest ts rest
  | step {ts l r loops rest1 ts' rest'} {w nm : Str} : headW (l :: r) 0 "track" = some [w, nm] → nameOk nm = true → nm ∉ ts.map (·.name) → ts.length < 4 → LoopsR [] r loops rest1 → loops ≠ [] →
      TracksR (ts ++ [⟨nm, loops⟩]) rest1 ts' rest' → TracksR ts (l :: r) ts' rest'
/-- what stands behind a word in a list of words -/
def behind (left : List Str) (t : Str) : List Str := left.drop (left.idxOf t + 1)
inductive DeedW (ts : List TrackM) : List Str → Str × Str × Str → Prop
  | stops {t : Str} : DeedW ts [t, "stops"] (t, "stops", "")
  | begins {t w lp : Str} {tm : TrackM} : w = "plays" ∨ w = "keeps" → tm ∈ ts → tm.name = t → lp ∈ tm.loops.map (·.name) → DeedW ts [t, w, lp] (t, w, lp)
inductive DeedsR (ts : List TrackM) : List Str → List (Str × Str × Str) → List Str → List (Str × Str × Str) → List Str → Prop
  | stop {left ds rest} : rowW rest 2 = none → DeedsR ts left ds rest ds rest
  | step {left ds l r row d ds' rest'} : wordsIn l 2 = some row → DeedW ts row d → d.1 ∈ left → DeedsR ts (behind left d.1) (ds ++ [d]) r ds' rest' → DeedsR ts left ds (l :: r) ds' rest'
inductive ButtonsR (ts : List TrackM) : List ButtonM → Nat → List Str → List ButtonM → Nat → List Str → Prop
  | stop {bs bar rest} : headW rest 0 "button" = none → ButtonsR ts bs bar rest bs bar rest
  | step {bs bar l r ds rest1 bs' bar' rest'} {w nm qw : Str} {q : Nat} : headW (l :: r) 0 "button" = some [w, nm, "every", qw] → nameOk nm = true → numIn qw = (q : Int) → 1 ≤ q → q ≤ 12 → nm ∉ bs.map (·.name) → bs.length < 5 →
      Nat.lcm bar q ≤ 12 → DeedsR ts (ts.map (·.name)) [] r ds rest1 → ButtonsR ts (bs ++ [⟨nm, q, ds⟩]) (Nat.lcm bar q) rest1 bs' bar' rest' → ButtonsR ts bs bar (l :: r) bs' bar' rest'
structure BoardR (lines : List Str) (B : BoardM) : Prop where
  tr : ∃ rest, headW lines 0 "track" ≠ none ∧ TracksR [] lines B.tracks rest ∧ headW rest 0 "button" ≠ none ∧ ButtonsR B.tracks [] 1 rest B.buttons B.bar []
  th : ∀ t ∈ B.tracks, ∀ L ∈ t.loops, L.then_ ≠ "" → L.then_ ∈ t.loops.map (·.name)
end Ev
end

section
namespace Ev
open PySem PySem.Spec PyProof.Rows L2
/-! ### dicts from names to objects -/
section
variable {α : Type}
def kvN (nm : α → Str) (xs : List α) (as : List Addr) : List (Key × V) := (xs.zip as).map fun p => (Sum.inr (nm p.1), V.ref p.2)
theorem kvN_snoc {nm : α → Str} {xs : List α} {as : List Addr} (h : as.length = xs.length) (x : α) (a : Addr) : kvN nm (xs ++ [x]) (as ++ [a]) = kvN nm xs as ++ [(Sum.inr (nm x), V.ref a)] := by
  unfold kvN
  rw [List.zip_append h.symm, List.map_append]
  rfl
theorem kvN_len {nm : α → Str} {xs : List α} {as : List Addr} (h : as.length = xs.length) : (kvN nm xs as).length = xs.length := by
  simp [kvN, h]
theorem valV_no {nm : α → Str} {n : Str} : ∀ {xs : List α} {as : List Addr}, n ∉ xs.map nm → valV (kvN nm xs as) (Sum.inr n) = none
  | [], _, _ => rfl
  | _ :: _, [], _ => rfl
  | x :: xs, a :: as, h => by
    have h1 : nm x ≠ n := fun e => h (by simp [e])
    have h2 : n ∉ xs.map nm := fun e => h (by simp [e])
    exact (valV_neg (p := (Sum.inr (nm x), V.ref a)) (fun e => h1 (Sum.inr.inj e))).trans (valV_no h2)
theorem valV_at {nm : α → Str} : ∀ {xs : List α} {as : List Addr} {i : Nat} {x : α} {a : Addr}, (xs.map nm).Nodup → xs[i]? = some x → as[i]? = some a → valV (kvN nm xs as) (Sum.inr (nm x)) = some (.ref a)
  | x :: xs, a :: as, 0, _, _, _, e1, e2 => by
    cases e1
    cases e2
    exact valV_pos (p := (Sum.inr (nm x), V.ref a)) rfl
  | y :: xs, b :: as, i + 1, x, a, nd, e1, e2 => by
    have hx : x ∈ xs := List.mem_of_getElem? (by simpa using e1)
    have ne : nm y ≠ nm x := fun e => (List.nodup_cons.mp nd).1 (by rw [e]; exact List.mem_map_of_mem hx)
    refine (valV_neg (p := (Sum.inr (nm y), V.ref b)) (fun e => ne (Sum.inr.inj e))).trans ?_
    exact valV_at (i := i) (List.nodup_cons.mp nd).2 (by simpa using e1) (by simpa using e2)
theorem putK_new {kvs : List (Key × V)} {k : Key} {v : V} (h : valV kvs k = none) : putK kvs k v = kvs ++ [(k, v)] := by
  unfold putK
  rw [valV_any, h]
  rfl
/-- the places of a name -/
theorem at_name {nm : α → Str} {n : Str} {xs : List α} {as : List Addr} (hl : as.length = xs.length) (h : n ∈ xs.map nm) : ∃ (i : Nat) (x : α) (a : Addr), xs[i]? = some x ∧ as[i]? = some a ∧ nm x = n := by
  obtain ⟨x, hx, e⟩ := List.mem_map.mp h
  obtain ⟨i, hi, ei⟩ := List.mem_iff_getElem.mp hx
  exact ⟨i, x, as[i]'(by omega), by rw [List.getElem?_eq_getElem hi, ei], List.getElem?_eq_getElem (by omega), e⟩
end
/-! ### what keeps though some objects are written -/
def isTupH : HO → Bool
  | .tup _ => true
  | .frz _ (.tup _) => true
  | _ => false
def NT (S : List Addr) (H : Hp) : Prop := ∀ s ∈ S, ∀ u, H s = some u → isTupH u = false
section
variable {K : PySem.W.Frag} {H H' : Hp} {S : List Addr}
theorem sqt_keep {a : Addr} {xs : List V} (k : Keep S H H') (nt : NT S H) (h : SqT K H a xs) : SqT K H' a xs := by
  rcases h with (h | ⟨o, h⟩) | h
  · exact .inl (.inl (k _ _ h fun q => nomatch (nt _ q _ h)))
  · exact .inl (.inr ⟨o, k _ _ h fun q => nomatch (nt _ q _ h)⟩)
  · exact .inr h
mutual
theorem dp_keep (k : Keep S H H') (nt : NT S H) : ∀ {v : V} {d : PyData}, Dp K H v d → noL d = true → Dp K H' v d
  | _, _, .non, _ => .non
  | _, _, .bl b, _ => .bl b
  | _, _, .int i, _ => .int i
  | _, _, .str x, _ => .str x
  | _, _, .lst h t, q => by cases q
  | _, _, .tup h t, q => .tup (sqt_keep k nt h) (dpAll_keep k nt t q)
theorem dpAll_keep (k : Keep S H H') (nt : NT S H) : ∀ {vs : List V} {ds : List PyData}, DpAll K H vs ds → noLs ds = true → DpAll K H' vs ds
  | _, _, .nil, _ => .nil
  | _, _, .cons h t, q => by
    have q' : (noL _ && noLs _) = true := q
    rw [Bool.and_eq_true] at q'
    exact .cons (dp_keep k nt h q'.1) (dpAll_keep k nt t q'.2)
end
end
theorem noLs_map {α : Type} {f : α → PyData} (h : ∀ x, noL (f x) = true) : ∀ l : List α, noLs (l.map f) = true
  | [] => rfl
  | a :: l => by
    show (noL (f a) && noLs (l.map f)) = true
    rw [h a, noLs_map h l]
    rfl
/-- the sounds of a place -/
def placeD (p : List Str) : PyData := .tuple (p.map .str)
theorem noL_place (p : List Str) : noL (placeD p) = true := noLs_map (fun _ => rfl) p
/-! ### words of lines -/
theorem repS_blank (n : Nat) : repS sB n = blanks n := by
  show (⟨(List.replicate n [32]).flatten.toArray⟩ : Str) = ⟨(List.replicate n 32).toArray⟩
  congr 2
  induction n with
  | zero => rfl
  | succ n ih => rw [List.replicate_succ, List.replicate_succ, List.flatten_cons, ih]; rfl
theorem blanks_len (n : Nat) : (blanks n).length = n := by simp [blanks, Str.length]
theorem cutS_le (z : Str) (lo hi : Option Int) : (cutS z lo hi).length ≤ z.length := by
  show (List.toArray _).size ≤ z.cps.size
  simp only [List.size_toArray, List.length_take, List.length_drop, Array.length_toList]
  omega
/-- lines that a reader can hold -/
def ShortL (lines : List Str) : Prop := lines.length ≤ 50000 ∧ ∀ l ∈ lines, l.length ≤ 50000
def ShortW (ws : List Str) : Prop := ws.length ≤ 100000 ∧ ∀ w ∈ ws, shortS w
theorem wordsIn_some {l : Str} {n : Nat} {ws : List Str} (h : wordsIn l n = some ws) : ws = Txt.split (cutS l (some (n : Int)) none) sB := by
  unfold wordsIn at h
  split at h
  · exact (Option.some.inj h).symm
  · cases h
theorem wordsIn_short {l : Str} {n : Nat} {ws : List Str} (h : wordsIn l n = some ws) (hl : l.length ≤ 50000) : ShortW ws ∧ 1 ≤ ws.length := by
  have e := wordsIn_some h
  have hc := cutS_le l (some (n : Int)) none
  refine ⟨⟨?_, fun w hw => ?_⟩, ?_⟩
  · have := split_le (cutS l (some (n : Int)) none) sB
    rw [← e] at this
    omega
  · rw [e] at hw
    have := part_short hw
    show w.length ≤ 100000
    omega
  · have := split_pos (cutS l (some (n : Int)) none) sB
    rw [← e] at this
    exact this
theorem rowW_short {lines pre rest : List Str} {n : Nat} {ws : List Str} (h : rowW rest n = some ws) (e : lines = pre ++ rest) (hl : ShortL lines) : ShortW ws ∧ 1 ≤ ws.length := by
  cases rest with
  | nil => cases h
  | cons l r => exact wordsIn_short h (hl.2 l (by rw [e]; simp))
theorem headW_row {rest : List Str} {n : Nat} {hd : Str} {ws : List Str} (h : headW rest n hd = some ws) : rowW rest n = some ws ∧ ∃ r, ws = hd :: r := by
  unfold headW at h
  split at h
  · rename_i w r e
    split at h
    · rename_i ew
      subst ew
      cases h
      exact ⟨e, r, rfl⟩
    · cases h
  · cases h
/-- what a row of words gives: None, or a new list -/
def rowQ (o : Option (List Str)) (H : Hp) (Q : VK) : Prop := match o with
  | none => ∀ H', Same H H' → Q .non H'
  | some ws => ∀ H' p, Same H H' → H p = none → H' p = some (.lst (ws.map V.str)) → Q (.ref p) H'
theorem inV_str (x : Str) (ws : List Str) : inV (.str x) (ws.map V.str) = decide (x ∈ ws) := by
  unfold inV
  induction ws with
  | nil => rfl
  | cons w ws ih =>
    rw [List.map_cons, List.any_cons, ih]
    have : eqV (V.str w) (V.str x) = decide (w = x) := by
      first | rfl | (show (w == x) = _; rw [Bool.eq_iff_iff]; simp)
    rw [this]
    by_cases h : w = x
    · simp [h]
    · simp [h, Ne.symm h, fun e : x = w => h e.symm]
theorem flat_strs (ws : List Str) : (ws.map V.str).all flatV = true := by
  rw [List.all_map]
  exact List.all_eq_true.mpr fun _ _ => rfl
/-- behind an __init__ that writes its own instance alone -/
theorem make_keep {H1 H' : Hp} {C x dx : Addr} (nx : H1 x = none) (ndx : H1 dx = none) (k : Keep [x] (upd (upd H1 dx (.own x)) x (.ins C dx [])) H') : Same H1 H' := fun b o e => by
  have n1 : b ≠ x := ne_of_none e nx
  have n2 : b ≠ dx := ne_of_none e ndx
  refine k b o ?_ (by simp [n1])
  rw [upd_ne n1, upd_ne n2]
  exact e
theorem Keep.put1 {a : Addr} {u : HO} {H H1 : Hp} (k : Keep [a] H H1) : Keep [a] H (upd H1 a u) := k.put (by simp)
/-- what was new ahead is written -/
theorem Keep.putN {S : List Addr} {a : Addr} {u : HO} {H H1 : Hp} (k : Keep S H H1) (n : H a = none) : Keep S H (upd H1 a u) := fun b o h ns => by
  rw [upd_ne (ne_of_none h n)]
  exact k b o h ns
theorem Keep.free {S : List Addr} {p : Addr} {H H1 : Hp} (k : Keep S H H1) (hp : H1 p = none) (ns : p ∉ S) : H p = none := by
  cases e : H p with
  | none => rfl
  | some o => rw [k p o e ns] at hp; cases hp
theorem Keep.but {S : List Addr} {a : Addr} {H H1 H2 : Hp} (k : Keep S H H1) (h : But a H1 H2) (ha : a ∈ S) : Keep S H H2 := k.trans (h.keep ha)
theorem Keep.isSome {S : List Addr} {H H1 : Hp} (k : Keep S H H1) : Keep S H H1 := k
/-- many times the same -/
theorem rep_flat {α : Type} (n : Nat) (x : α) : (List.replicate n [x]).flatten = List.replicate n x := by
  induction n with
  | zero => rfl
  | succ n ih => rw [List.replicate_succ, List.flatten_cons, ih]; rfl
theorem dpAll_rep {K : PySem.W.Frag} {H : Hp} {v : V} {d : PyData} (h : Dp K H v d) : ∀ n : Nat, DpAll K H (List.replicate n v) (List.replicate n d)
  | 0 => .nil
  | n + 1 => .cons h (dpAll_rep h n)
theorem dpAll_set {K : PySem.W.Frag} {H : Hp} {v : V} {d : PyData} (h : Dp K H v d) : ∀ {vs : List V} {ds : List PyData} (i : Nat), DpAll K H vs ds → DpAll K H (vs.set i v) (ds.set i d)
  | _, _, _, .nil => .nil
  | _, _, 0, .cons _ t => .cons h t
  | _, _, i + 1, .cons a t => .cons a (dpAll_set h i t)
/-- what is still to be looked for: (line, track, name) -/
def LaterP (H : Hp) (xs : List V) (ps : List (Addr × Str)) : Prop := ∀ x ∈ xs, ∃ (tp : Addr) (n : Int) (t : Addr) (nm : Str), x = .ref tp ∧ H tp = some (.tup [.int n, .ref t, .str nm]) ∧ (t, nm) ∈ ps ∧ nm ≠ ""
theorem LaterP.keep {S : List Addr} {H H' : Hp} {xs : List V} {ps : List (Addr × Str)} (h : LaterP H xs ps) (k : Keep S H H') (nt : NT S H) : LaterP H' xs ps := fun x hx => by
  obtain ⟨tp, n, t, nm, e, e1, e2⟩ := h x hx
  exact ⟨tp, n, t, nm, e, k _ _ e1 (fun q => nomatch (nt _ q _ e1)), e2⟩
theorem LaterP.same {H H' : Hp} {xs : List V} {ps : List (Addr × Str)} (h : LaterP H xs ps) (s : Same H H') : LaterP H' xs ps := fun x hx => by
  obtain ⟨tp, n, t, nm, e, e1, e2⟩ := h x hx
  exact ⟨tp, n, t, nm, e, s _ _ e1, e2⟩
theorem LaterP.sub {H : Hp} {xs : List V} {ps qs : List (Addr × Str)} (h : LaterP H xs ps) (k : ∀ p ∈ ps, p ∈ qs) : LaterP H xs qs := fun x hx => by
  obtain ⟨tp, n, t, nm, e, e1, e2, e3⟩ := h x hx
  exact ⟨tp, n, t, nm, e, e1, k _ e2, e3⟩
theorem LaterP.snoc {H : Hp} {xs : List V} {ps : List (Addr × Str)} {tp t : Addr} {n : Int} {nm : Str} (h : LaterP H xs ps) (e : H tp = some (.tup [.int n, .ref t, .str nm])) (ne : nm ≠ "") : LaterP H (xs ++ [.ref tp]) ((t, nm) :: ps) := fun x hx => by
  rcases List.mem_append.mp hx with hx | hx
  · obtain ⟨tp, n, t, nm, e, e1, e2, e3⟩ := h x hx
    exact ⟨tp, n, t, nm, e, e1, List.mem_cons_of_mem _ e2, e3⟩
  · rw [List.mem_singleton] at hx
    exact ⟨tp, n, t, nm, hx, e, List.mem_cons_self, ne⟩
theorem LoopW.facts {ws : List Str} {L : LoopM} (h : LoopW ws L) : nameOk L.name = true ∧ 1 ≤ L.length ∧ L.length ≤ 6 ∧ L.places.length = L.length ∧ L.span ≤ 18 := by
  cases h with
  | lasts a b c d => exact ⟨a, c, d, by simp, by simp⟩
  | @ends w nm ln rd n r a b c d e f g => exact ⟨a, c, d, by simp, Nat.le_trans (Nat.mul_le_mul g d) (by decide)⟩
  | @goes w nm ln th rd n r a b c d e f g i => exact ⟨a, c, d, by simp, Nat.le_trans (Nat.mul_le_mul i d) (by decide)⟩
theorem nameOk_short {s : Str} (h : nameOk s = true) : s.length ≤ 8 := by
  unfold nameOk at h
  rw [Bool.and_eq_true, Bool.and_eq_true, decide_eq_true_iff, decide_eq_true_iff] at h
  exact h.1.2
theorem ins_ne {C C' dx dx' : Addr} {fs gs : List (Str × V)} (h : fs.map (·.1) ≠ gs.map (·.1)) : HO.ins C dx fs ≠ HO.ins C' dx' gs := fun e => by
  injection e with _ _ e
  exact h (by rw [e])
theorem AtO.put {C a b : Addr} {α : Type} {fs : α → List (Str × V)} {o : α} {H : Hp} {u : HO} (h : AtO C fs H a o) (n : a ≠ b) : AtO C fs (upd H b u) a o := let ⟨dx, e⟩ := h; ⟨dx, by rw [upd_ne n]; exact e⟩
theorem AtO.but {C a b : Addr} {α : Type} {fs : α → List (Str × V)} {o : α} {H H' : Hp} (h : AtO C fs H a o) (k : But b H H') (n : a ≠ b) : AtO C fs H' a o := let ⟨dx, e⟩ := h; ⟨dx, by rw [k.off a n]; exact e⟩
theorem upd_get {H : Hp} {a b : Addr} {o u : HO} (h : H b = some o) (n : b ≠ a) : upd H a u b = some o := by rw [upd_ne n]; exact h
theorem Keep.transN {S S' : List Addr} {H H1 H2 : Hp} (k : Keep S H H1) (k' : Keep S' H1 H2) (h : ∀ s ∈ S', s ∈ S ∨ H s = none) : Keep S H H2 := fun b o e n => k' b o (k b o e n) fun q => by
  rcases h b q with h | h
  · exact n h
  · rw [e] at h; cases h
theorem Same.none {H H' : Hp} {a : Addr} (h : H' a = none) (s : Same H H') : H a = none := s.free h
end Ev
end

section
namespace Ev
open PySem PySem.Spec PyProof.Rows L2
theorem valV_yes {α : Type} {nm : α → Str} {n : Str} : ∀ {xs : List α} {as : List Addr}, as.length = xs.length → n ∈ xs.map nm → (valV (kvN nm xs as) (Sum.inr n)).isSome = true
  | [], _, _, h => by simp at h
  | _ :: _, [], h, _ => by cases h
  | x :: xs, a :: as, hl, h => by
    by_cases e : nm x = n
    · have := valV_pos (p := (Sum.inr (nm x), V.ref a)) (r := kvN nm xs as) (k := (Sum.inr n : Key)) (by show Sum.inr (nm x) = Sum.inr n; rw [e])
      show (valV ((Sum.inr (nm x), V.ref a) :: kvN nm xs as) (Sum.inr n)).isSome = true
      rw [this]
      rfl
    · have h2 : n ∈ xs.map nm := by
        rcases List.mem_cons.mp h with h | h
        · exact absurd h.symm e
        · exact h
      show (valV ((Sum.inr (nm x), V.ref a) :: kvN nm xs as) (Sum.inr n)).isSome = true
      rw [valV_neg (p := (Sum.inr (nm x), V.ref a)) (fun q => e (Sum.inr.inj q))]
      exact valV_yes (Nat.succ.inj hl) h2
theorem valV_dec {α : Type} {nm : α → Str} {n : Str} {xs : List α} {as : List Addr} (hl : as.length = xs.length) : (valV (kvN nm xs as) (Sum.inr n)).isSome = decide (n ∈ xs.map nm) := by
  by_cases h : n ∈ xs.map nm
  · rw [valV_yes hl h, decide_eq_true h]
  · rw [valV_no h, decide_eq_false h]; rfl
theorem kvN_keys {α : Type} {nm : α → Str} : ∀ {xs : List α} {as : List Addr}, as.length = xs.length → (kvN nm xs as).map (fun kv => kV kv.1) = (xs.map nm).map V.str
  | [], [], _ => rfl
  | [], _ :: _, h => by cases h
  | _ :: _, [], h => by cases h
  | x :: xs, a :: as, hl => by
    show V.str (nm x) :: (kvN nm xs as).map (fun kv => kV kv.1) = V.str (nm x) :: (xs.map nm).map V.str
    rw [kvN_keys (Nat.succ.inj hl)]
theorem kvN_vals {α : Type} {nm : α → Str} : ∀ {xs : List α} {as : List Addr}, as.length = xs.length → (kvN nm xs as).map (·.2) = as.map V.ref
  | [], [], _ => rfl
  | [], _ :: _, h => by cases h
  | _ :: _, [], h => by cases h
  | x :: xs, a :: as, hl => by
    show V.ref a :: (kvN nm xs as).map (·.2) = V.ref a :: as.map V.ref
    rw [kvN_vals (Nat.succ.inj hl)]
/-- the first place of a word -/
theorem idx_at {left : List Str} {t : Str} (h : t ∈ left) : (left.map V.str)[left.idxOf t]? = some (V.str t) ∧ ∀ (m : Nat) (z : V), m < left.idxOf t → (left.map V.str)[m]? = some z → eqV z (V.str t) = false := by
  have hi : left.idxOf t < left.length := List.idxOf_lt_length_of_mem h
  constructor
  · rw [List.getElem?_map, List.getElem?_eq_getElem hi, List.getElem_idxOf]
    rfl
  · intro m z hm hz
    rw [List.getElem?_map, List.getElem?_eq_getElem (by omega)] at hz
    cases hz
    have ne : left[m]'(by omega) ≠ t := fun e => by
      have := List.not_of_lt_findIdx (p := (· == t)) (xs := left) (i := m) hm
      simp [e] at this
    show (left[m]'(by omega) == t) = false
    rw [beq_eq_false_iff_ne]
    exact ne
theorem cutFrom (xs : List V) (n : Nat) : cutV xs (some (n : Int)) none = xs.drop n := by
  unfold cutV
  rw [show HT.sIx xs.length 0 (some (n : Int)) = min n xs.length from HT.sIx_nat xs.length 0 n, HT.sIx_none]
  by_cases h : n ≤ xs.length
  · rw [Nat.min_eq_left h]
    exact List.take_of_length_le (by simp)
  · rw [Nat.min_eq_right (by omega), List.drop_of_length_le (Nat.le_refl _), List.drop_of_length_le (by omega)]
    simp
theorem behind_facts {left : List Str} {t : Str} (nd : left.Nodup) (h : t ∈ left) : (behind left t).Nodup ∧ t ∉ behind left t ∧ ∀ x ∈ behind left t, x ∈ left := by
  unfold behind
  have hi : left.idxOf t < left.length := List.idxOf_lt_length_of_mem h
  refine ⟨nd.sublist (List.drop_sublist _ _), fun q => ?_, fun x hx => List.mem_of_mem_drop hx⟩
  obtain ⟨j, hj, ej⟩ := List.mem_iff_getElem.mp q
  rw [List.getElem_drop] at ej
  have e2 : left[left.idxOf t]'hi = t := List.getElem_idxOf hi
  have := (List.getElem_inj nd).mp (ej.trans e2.symm)
  omega
end Ev
end

section
namespace Ev
open PySem PySem.Spec PyProof.Rows L2
theorem nodup_snoc {α : Type} {l : List α} {a : α} (h : l.Nodup) (n : a ∉ l) : (l ++ [a]).Nodup := by
  rw [List.nodup_append]
  exact ⟨h, by simp, fun x hx y hy e => by
    rw [List.mem_singleton] at hy
    subst hy
    subst e
    exact n hx⟩
/-- a loop that is read -/
structure LoopM.Well (L : LoopM) : Prop where
  nm : nameOk L.name = true
  l1 : 1 ≤ L.length
  l6 : L.length ≤ 6
  pl : L.places.length = L.length
  sp : L.span ≤ 18
  so : ∀ p ∈ L.places, p.length ≤ 3 ∧ ∀ s ∈ p, nameOk s = true
theorem LoopW.none {ws : List Str} {L : LoopM} (h : LoopW ws L) : ∀ p ∈ L.places, p = [] := by
  cases h <;> exact fun p hp => List.eq_of_mem_replicate hp
theorem PlacesR.well {n : Nat} {i : Int} {a b : List (List Str)} {r r' : List Str} (h : PlacesR n i a r b r') (w : ∀ p ∈ a, p.length ≤ 3 ∧ ∀ s ∈ p, nameOk s = true) : b.length = a.length ∧ ∀ p ∈ b, p.length ≤ 3 ∧ ∀ s ∈ p, nameOk s = true := by
  induction h with
  | stop _ => exact ⟨rfl, w⟩
  | step _ _ _ _ _ h3 hn _ _ ih =>
    obtain ⟨i1, i2⟩ := ih fun p hp => by
      rcases List.mem_or_eq_of_mem_set hp with hp | rfl
      · exact w p hp
      · exact ⟨h3, hn⟩
    exact ⟨by rw [i1, List.length_set], i2⟩
theorem LoopsR.well {ls ls' : List LoopM} {r r' : List Str} (h : LoopsR ls r ls' r') (nd : (ls.map (·.name)).Nodup) (w : ∀ L ∈ ls, L.Well) : (ls'.map (·.name)).Nodup ∧ ∀ L ∈ ls', L.Well := by
  induction h with
  | stop _ => exact ⟨nd, w⟩
  | step _ hw hn _ hp _ ih =>
    obtain ⟨f1, f2, f3, f4, f5⟩ := hw.facts
    obtain ⟨p1, p2⟩ := hp.well fun p hp => by rw [hw.none p hp]; exact ⟨by simp, by simp⟩
    refine ih ?_ ?_
    · rw [List.map_append]
      exact nodup_snoc nd hn
    · intro L hL
      rcases List.mem_append.mp hL with hL | hL
      · exact w L hL
      · rw [List.mem_singleton] at hL
        subst hL
        exact ⟨f1, f2, f3, p1.trans f4, f5, p2⟩
structure TrackM.Well (t : TrackM) : Prop where
  nm : nameOk t.name = true
  nd : (t.loops.map (·.name)).Nodup
  lw : ∀ L ∈ t.loops, L.Well
  l3 : t.loops.length ≤ 3
theorem LoopsR.three {ls ls' : List LoopM} {r r' : List Str} (h : LoopsR ls r ls' r') (l3 : ls.length ≤ 3) : ls'.length ≤ 3 := by
  induction h with
  | stop _ => exact l3
  | step _ _ _ h3 _ _ ih => exact ih (by simp; omega)
theorem TracksR.well {ts ts' : List TrackM} {r r' : List Str} (h : TracksR ts r ts' r') (nd : (ts.map (·.name)).Nodup) (l4 : ts.length ≤ 4) (w : ∀ t ∈ ts, t.Well) : (ts'.map (·.name)).Nodup ∧ ts'.length ≤ 4 ∧ ∀ t ∈ ts', t.Well := by
  induction h with
  | stop _ => exact ⟨nd, l4, w⟩
  | step _ hnm hn h4 hl _ _ ih =>
    refine ih ?_ (by simp; omega) ?_
    · rw [List.map_append]
      exact nodup_snoc nd hn
    · intro t ht
      rcases List.mem_append.mp ht with ht | ht
      · exact w t ht
      · rw [List.mem_singleton] at ht
        subst ht
        obtain ⟨w1, w2⟩ := hl.well (by simp) (by simp)
        exact ⟨hnm, w1, w2, hl.three (by simp)⟩
/-- a button that is read -/
structure ButtonM.Well (ts : List TrackM) (b : ButtonM) : Prop where
  nm : nameOk b.name = true
  q1 : 1 ≤ b.quantum
  q12 : b.quantum ≤ 12
  nd : (b.deeds.map (·.1)).Nodup
  dw : ∀ d ∈ b.deeds, ∃ row, DeedW ts row d
  sub : ∀ d ∈ b.deeds, d.1 ∈ ts.map (·.name)
theorem DeedsR.well {ts : List TrackM} {left : List Str} {ds ds' : List (Str × Str × Str)} {r r' : List Str} (h : DeedsR ts left ds r ds' r') (ndl : left.Nodup) (hl : ∀ x ∈ left, x ∈ ts.map (·.name)) (nin : ∀ d ∈ ds, d.1 ∉ left) (nd : (ds.map (·.1)).Nodup)
    (dw : ∀ d ∈ ds, ∃ row, DeedW ts row d) (sub : ∀ d ∈ ds, d.1 ∈ ts.map (·.name)) : (ds'.map (·.1)).Nodup ∧ (∀ d ∈ ds', ∃ row, DeedW ts row d) ∧ ∀ d ∈ ds', d.1 ∈ ts.map (·.name) := by
  induction h with
  | stop _ => exact ⟨nd, dw, sub⟩
  | step _ hd hin _ ih =>
    obtain ⟨b1, b2, b3⟩ := behind_facts ndl hin
    refine ih b1 (fun x hx => hl x (b3 x hx)) ?_ ?_ ?_ ?_
    · intro d hd
      rcases List.mem_append.mp hd with hd | hd
      · exact fun z => nin d hd (b3 _ z)
      · rw [List.mem_singleton] at hd
        rw [hd]; exact b2
    · rw [List.map_append]
      refine nodup_snoc nd fun z => ?_
      obtain ⟨y, hy, ey⟩ := List.mem_map.mp z
      exact nin y hy (by rw [ey]; exact hin)
    · intro d hd'
      rcases List.mem_append.mp hd' with hd' | hd'
      · exact dw d hd'
      · rw [List.mem_singleton] at hd'
        rw [hd']; exact ⟨_, hd⟩
    · intro d hd'
      rcases List.mem_append.mp hd' with hd' | hd'
      · exact sub d hd'
      · rw [List.mem_singleton] at hd'
        rw [hd']; exact hl _ hin
theorem ButtonsR.well {ts : List TrackM} {bs bs' : List ButtonM} {b b' : Nat} {r r' : List Str} (h : ButtonsR ts bs b r bs' b' r') (ndt : (ts.map (·.name)).Nodup) (nd : (bs.map (·.name)).Nodup) (l5 : bs.length ≤ 5) (b1 : 1 ≤ b) (b12 : b ≤ 12) (w : ∀ x ∈ bs, x.Well ts) :
    (bs'.map (·.name)).Nodup ∧ bs'.length ≤ 5 ∧ 1 ≤ b' ∧ b' ≤ 12 ∧ ∀ x ∈ bs', x.Well ts := by
  induction h with
  | stop _ => exact ⟨nd, l5, b1, b12, w⟩
  | step _ hnm _ q1 q12 hn h5 hl hd _ ih =>
    refine ih ?_ (by simp; omega) (Nat.lcm_pos b1 q1) hl ?_
    · rw [List.map_append]
      exact nodup_snoc nd hn
    · intro x hx
      rcases List.mem_append.mp hx with hx | hx
      · exact w x hx
      · rw [List.mem_singleton] at hx
        subst hx
        obtain ⟨d1, d2, d3⟩ := hd.well ndt (fun _ h => h) (by simp) (by simp) (by simp) (by simp)
        exact ⟨hnm, q1, q12, d1, d2, d3⟩
theorem TracksR.more {ts ts' : List TrackM} {r r' : List Str} (h : TracksR ts r ts' r') : ts.length ≤ ts'.length := by
  induction h with
  | stop _ => exact Nat.le_refl _
  | step _ _ _ _ _ _ _ ih =>
    simp at ih
    omega
theorem TracksR.pos {ts ts' : List TrackM} {r r' : List Str} (h : TracksR ts r ts' r') (hd : headW r 0 "track" ≠ none) : 1 ≤ ts'.length := by
  cases h with
  | stop e => exact absurd e hd
  | step _ _ _ _ _ _ h =>
    have := h.more
    simp at this
    omega
/-- a board that is read -/
structure BoardM.Well (B : BoardM) : Prop where
  t1 : 1 ≤ B.tracks.length
  ndt : (B.tracks.map (·.name)).Nodup
  t4 : B.tracks.length ≤ 4
  tw : ∀ t ∈ B.tracks, t.Well
  ndb : (B.buttons.map (·.name)).Nodup
  b5 : B.buttons.length ≤ 5
  r1 : 1 ≤ B.bar
  r12 : B.bar ≤ 12
  bw : ∀ b ∈ B.buttons, b.Well B.tracks
  th : ∀ t ∈ B.tracks, ∀ L ∈ t.loops, L.then_ ≠ "" → L.then_ ∈ t.loops.map (·.name)
theorem BoardR.well {lines : List Str} {B : BoardM} (h : BoardR lines B) : B.Well := by
  obtain ⟨⟨rest, h0, ht, _, hb⟩, th⟩ := h
  have t0 := ht.pos h0
  obtain ⟨t1, t2, t3⟩ := ht.well (by simp) (by simp) (by simp)
  obtain ⟨b1, b2, b3, b4, b5⟩ := hb.well t1 (by simp) (by simp) (Nat.le_refl _) (by decide) (by simp)
  exact ⟨t0, t1, t2, t3, b1, b2, b3, b4, b5, th⟩
theorem DeedsR.le {ts : List TrackM} {left : List Str} {ds ds' : List (Str × Str × Str)} {r r' : List Str} (h : DeedsR ts left ds r ds' r') : r'.length ≤ r.length := by
  induction h with
  | stop _ => exact Nat.le_refl _
  | step _ _ _ _ ih => exact Nat.le_succ_of_le ih
end Ev
end

section
namespace Ev
open PySem PySem.Spec PyProof.Rows L2
/-! ### a reader of boards that can be run -/
def loopP (ws : List Str) : Option LoopM := match ws with
  | [_, nm, ln, k] => if k = "lasts" ∧ nameOk nm = true ∧ 1 ≤ numIn ln ∧ numIn ln ≤ 6 then some ⟨nm, (numIn ln).toNat, 0, "", List.replicate (numIn ln).toNat []⟩ else none
  | [_, nm, ln, k, rd] => if k = "ends" ∧ nameOk nm = true ∧ 1 ≤ numIn ln ∧ numIn ln ≤ 6 ∧ 1 ≤ numIn rd ∧ numIn rd ≤ 3 then some ⟨nm, (numIn ln).toNat, (numIn rd).toNat * (numIn ln).toNat, "", List.replicate (numIn ln).toNat []⟩ else none
  | [_, nm, ln, k, th, rd] => if k = "goes" ∧ nameOk nm = true ∧ 1 ≤ numIn ln ∧ numIn ln ≤ 6 ∧ nameOk th = true ∧ 1 ≤ numIn rd ∧ numIn rd ≤ 3 then some ⟨nm, (numIn ln).toNat, (numIn rd).toNat * (numIn ln).toNat, th, List.replicate (numIn ln).toNat []⟩ else none
  | _ => none
theorem toN {i : Int} (h : 1 ≤ i) : i = (i.toNat : Int) := by omega
theorem loopP_ok {ws : List Str} {L : LoopM} (h : loopP ws = some L) : LoopW ws L := by
  unfold loopP at h
  split at h
  · split at h
    · rename_i c
      obtain ⟨rfl, c1, c2, c3⟩ := c
      cases h
      exact .lasts c1 (toN c2) (by omega) (by omega)
    · cases h
  · split at h
    · rename_i c
      obtain ⟨rfl, c1, c2, c3, c4, c5⟩ := c
      cases h
      exact .ends c1 (toN c2) (by omega) (by omega) (toN c4) (by omega) (by omega)
    · cases h
  · split at h
    · rename_i c
      obtain ⟨rfl, c1, c2, c3, c4, c5, c6⟩ := c
      cases h
      exact .goes c1 (toN c2) (by omega) (by omega) c4 (toN c5) (by omega) (by omega)
    · cases h
  · cases h
def placesP (len : Nat) : Int → List (List Str) → List Str → Option (List (List Str) × List Str)
  | _, pl, [] => some (pl, [])
  | last, pl, l :: r => match wordsIn l 4 with
    | none => some (pl, l :: r)
    | some [] => none
    | some (w :: ss) => if 0 ≤ numIn w ∧ last < numIn w ∧ numIn w < len ∧ 1 ≤ ss.length ∧ ss.length ≤ 3 ∧ (ss.all nameOk) = true ∧ ascB ltS ss = true then placesP len (numIn w) (pl.set (numIn w).toNat ss) r else none
theorem placesP_ok {len : Nat} : ∀ {rest : List Str} {last : Int} {pl pl' : List (List Str)} {rest' : List Str}, placesP len last pl rest = some (pl', rest') → PlacesR len last pl rest pl' rest'
  | [], _, _, _, _, h => by cases h; exact .stop rfl
  | l :: r, last, pl, pl', rest', h => by
    unfold placesP at h
    split at h
    · rename_i e
      cases h
      exact .stop e
    · cases h
    · rename_i w ss e
      split at h
      · rename_i c
        obtain ⟨c0, c1, c2, c3, c4, c5, c6⟩ := c
        have e2 : numIn w = ((numIn w).toNat : Int) := by omega
        rw [e2] at h
        exact .step e e2 (by omega) (by omega) c3 c4 (fun s hs => List.all_eq_true.mp c5 s hs) c6 (placesP_ok h)
      · cases h
def loopsP : Nat → List LoopM → List Str → Option (List LoopM × List Str)
  | 0, _, _ => none
  | n + 1, ls, rest => match headW rest 2 "loop" with
    | none => some (ls, rest)
    | some ws => match rest with
      | [] => none
      | _ :: r => (loopP ws).bind fun L => if L.name ∉ ls.map (·.name) ∧ ls.length < 3 then (placesP L.length (-1) L.places r).bind fun q => loopsP n (ls ++ [{ L with places := q.1 }]) q.2 else none
theorem loopsP_ok : ∀ {n : Nat} {ls ls' : List LoopM} {rest rest' : List Str}, loopsP n ls rest = some (ls', rest') → LoopsR ls rest ls' rest'
  | 0, _, _, _, _, h => by cases h
  | n + 1, ls, ls', rest, rest', h => by
    unfold loopsP at h
    split at h
    · rename_i e
      cases h
      exact .stop e
    · rename_i ws e
      split at h
      · cases h
      · obtain ⟨L, e1, h⟩ := Option.bind_eq_some_iff.mp h
        split at h
        · rename_i c
          obtain ⟨q, e2, h⟩ := Option.bind_eq_some_iff.mp h
          exact .step e (loopP_ok e1) c.1 c.2 (placesP_ok e2) (loopsP_ok h)
        · cases h
def tracksP : Nat → List TrackM → List Str → Option (List TrackM × List Str)
  | 0, _, _ => none
  | n + 1, ts, rest => match headW rest 0 "track" with
    | none => some (ts, rest)
    | some [_, nm] => match rest with
      | [] => none
      | _ :: r => if nameOk nm = true ∧ nm ∉ ts.map (·.name) ∧ ts.length < 4 then (loopsP (r.length + 1) [] r).bind fun q => if q.1.isEmpty = true then none else tracksP n (ts ++ [⟨nm, q.1⟩]) q.2 else none
    | some _ => none
theorem tracksP_ok : ∀ {n : Nat} {ts ts' : List TrackM} {rest rest' : List Str}, tracksP n ts rest = some (ts', rest') → TracksR ts rest ts' rest'
  | 0, _, _, _, _, h => by cases h
  | n + 1, ts, ts', rest, rest', h => by
    unfold tracksP at h
    split at h
    · rename_i e
      cases h
      exact .stop e
    · rename_i nm e
      split at h
      · cases h
      · split at h
        · rename_i c
          obtain ⟨q, e2, h⟩ := Option.bind_eq_some_iff.mp h
          split at h
          · cases h
          · rename_i ne
            exact .step e c.1 c.2.1 c.2.2 (loopsP_ok e2) (fun z => ne (by rw [z]; rfl)) (tracksP_ok h)
        · cases h
    · cases h
def deedP (ts : List TrackM) (row : List Str) : Option (Str × Str × Str) := match row with
  | [t, w] => if w = "stops" then some (t, w, "") else none
  | [t, w, lp] => if (w = "plays" ∨ w = "keeps") ∧ (ts.any fun tm => decide (tm.name = t) && decide (lp ∈ tm.loops.map (·.name))) = true then some (t, w, lp) else none
  | _ => none
theorem deedP_ok {ts : List TrackM} {row : List Str} {d : Str × Str × Str} (h : deedP ts row = some d) : DeedW ts row d := by
  unfold deedP at h
  split at h
  · split at h
    · rename_i c
      subst c
      cases h
      exact .stops
    · cases h
  · split at h
    · rename_i c
      obtain ⟨c1, c2⟩ := c
      cases h
      obtain ⟨tm, h1, h2⟩ := List.any_eq_true.mp c2
      rw [Bool.and_eq_true, decide_eq_true_iff, decide_eq_true_iff] at h2
      exact .begins c1 h1 h2.1 h2.2
    · cases h
  · cases h
def deedsP (ts : List TrackM) : List Str → List (Str × Str × Str) → List Str → Option (List (Str × Str × Str) × List Str)
  | _, ds, [] => some (ds, [])
  | left, ds, l :: r => match wordsIn l 2 with
    | none => some (ds, l :: r)
    | some row => (deedP ts row).bind fun d => if d.1 ∈ left then deedsP ts (behind left d.1) (ds ++ [d]) r else none
theorem deedsP_ok {ts : List TrackM} : ∀ {rest left : List Str} {ds ds' : List (Str × Str × Str)} {rest' : List Str}, deedsP ts left ds rest = some (ds', rest') → DeedsR ts left ds rest ds' rest'
  | [], _, _, _, _, h => by cases h; exact .stop rfl
  | l :: r, left, ds, ds', rest', h => by
    unfold deedsP at h
    split at h
    · rename_i e
      cases h
      exact .stop e
    · rename_i row e
      obtain ⟨d, e1, h⟩ := Option.bind_eq_some_iff.mp h
      split at h
      · rename_i c
        exact .step e (deedP_ok e1) c (deedsP_ok h)
      · cases h
def buttonsP (ts : List TrackM) : Nat → List ButtonM → Nat → List Str → Option (List ButtonM × Nat × List Str)
  | 0, _, _, _ => none
  | n + 1, bs, bar, rest => match headW rest 0 "button" with
    | none => some (bs, bar, rest)
    | some [_, nm, ev, qw] => match rest with
      | [] => none
      | _ :: r => if ev = "every" ∧ nameOk nm = true ∧ 1 ≤ numIn qw ∧ numIn qw ≤ 12 ∧ nm ∉ bs.map (·.name) ∧ bs.length < 5 ∧ Nat.lcm bar (numIn qw).toNat ≤ 12 then
          (deedsP ts (ts.map (·.name)) [] r).bind fun q => buttonsP ts n (bs ++ [⟨nm, (numIn qw).toNat, q.1⟩]) (Nat.lcm bar (numIn qw).toNat) q.2
        else none
    | some _ => none
theorem buttonsP_ok {ts : List TrackM} : ∀ {n : Nat} {bs bs' : List ButtonM} {b b' : Nat} {rest rest' : List Str}, buttonsP ts n bs b rest = some (bs', b', rest') → ButtonsR ts bs b rest bs' b' rest'
  | 0, _, _, _, _, _, _, h => by cases h
  | n + 1, bs, bs', b, b', rest, rest', h => by
    unfold buttonsP at h
    split at h
    · rename_i e
      cases h
      exact .stop e
    · rename_i nm ev qw e
      split at h
      · cases h
      · split at h
        · rename_i c
          obtain ⟨rfl, c1, c2, c3, c4, c5, c6⟩ := c
          obtain ⟨q, e2, h⟩ := Option.bind_eq_some_iff.mp h
          exact .step e c1 (toN c2) (by omega) (by omega) c4 c5 c6 (deedsP_ok e2) (buttonsP_ok h)
        · cases h
    · cases h
def boardP (lines : List Str) : Option BoardM := if (headW lines 0 "track").isSome = true then (tracksP (lines.length + 1) [] lines).bind fun q => if (headW q.2 0 "button").isSome = true then
    (buttonsP q.1 (q.2.length + 1) [] 1 q.2).bind fun t => if t.2.2.isEmpty = true ∧ (q.1.all fun tm => tm.loops.all fun L => decide (L.then_ = "") || decide (L.then_ ∈ tm.loops.map (·.name))) = true then some ⟨q.1, t.1, t.2.1⟩ else none
  else none else none
theorem boardP_ok {lines : List Str} {B : BoardM} (h : boardP lines = some B) : BoardR lines B := by
  unfold boardP at h
  split at h
  · rename_i c1
    obtain ⟨q, e1, h⟩ := Option.bind_eq_some_iff.mp h
    split at h
    · rename_i c2
      obtain ⟨t, e2, h⟩ := Option.bind_eq_some_iff.mp h
      split at h
      · rename_i c3
        cases h
        obtain ⟨bs, bar, rest⟩ := t
        obtain ⟨c3, c4⟩ := c3
        cases rest with
        | cons _ _ => cases c3
        | nil =>
          refine ⟨⟨q.2, (fun z => by rw [z] at c1; cases c1), tracksP_ok e1, (fun z => by rw [z] at c2; cases c2), buttonsP_ok e2⟩, fun t ht L hL hn => ?_⟩
          have := List.all_eq_true.mp (List.all_eq_true.mp c4 t ht) L hL
          rw [Bool.or_eq_true, decide_eq_true_iff, decide_eq_true_iff] at this
          exact this.resolve_left hn
      · cases h
    · cases h
  · cases h
end Ev
end

section
namespace Ev
open PySem PySem.Spec PyProof.Rows L2
/-! ### standings, plain -/
/-- a standing: nothing, or a loop's name, its place, what is left -/
abbrev St3 := Option (Str × Nat × Nat)
def stD : St3 → PyData
  | none => .tuple []
  | some (n, p, l) => .tuple [.str n, .int (p : Int), .int (l : Int)]
theorem noL_st (s : St3) : noL (stD s) = true := by
  cases s with
  | none => rfl
  | some x => rfl
def loopOf (M : TrackM) (n : Str) : Option LoopM := M.loops.find? fun L => decide (L.name = n)
def beginL (L : LoopM) : St3 := some (L.name, 0, L.span)
def follow (M : TrackM) : St3 → St3
  | none => none
  | some (n, p, l) => (loopOf M n).bind fun L => if l = 1 then (if L.then_ = "" then none else (loopOf M L.then_).bind beginL) else some (n, (p + 1) % L.length, l - 1)
def begunOf (M : TrackM) (d : Str × Str × Str) (s : St3) : St3 := if d.2.1 = "stops" then none else (loopOf M d.2.2).bind fun L => if d.2.1 = "plays" then beginL L else match s with
    | none => beginL L
    | some (_, p, _) => some (d.2.2, p % L.length, L.span)
def begunBy (b : ButtonM) (M : TrackM) (s : St3) : St3 := match b.deeds.find? fun d => decide (d.1 = M.name) with
  | none => s
  | some d => begunOf M d s
theorem begunOf_stops {M : TrackM} {d : Str × Str × Str} {s : St3} (h : d.2.1 = "stops") : begunOf M d s = none := by
  unfold begunOf
  rw [if_pos h]
theorem begunOf_plays {M : TrackM} {d : Str × Str × Str} {s : St3} {L : LoopM} (h : d.2.1 ≠ "stops") (hl : loopOf M d.2.2 = some L) (hp : d.2.1 = "plays") : begunOf M d s = beginL L := by
  unfold begunOf
  rw [if_neg h, hl]
  show (if _ then _ else _) = _
  rw [if_pos hp]
theorem begunOf_none {M : TrackM} {d : Str × Str × Str} {L : LoopM} (h : d.2.1 ≠ "stops") (hl : loopOf M d.2.2 = some L) (hp : d.2.1 ≠ "plays") : begunOf M d none = beginL L := by
  unfold begunOf
  rw [if_neg h, hl]
  show (if _ then _ else _) = _
  rw [if_neg hp]
theorem begunOf_some {M : TrackM} {d : Str × Str × Str} {L : LoopM} {n : Str} {p l : Nat} (h : d.2.1 ≠ "stops") (hl : loopOf M d.2.2 = some L) (hp : d.2.1 ≠ "plays") : begunOf M d (some (n, p, l)) = some (d.2.2, p % L.length, L.span) := by
  unfold begunOf
  rw [if_neg h, hl]
  show (if _ then _ else _) = _
  rw [if_neg hp]
def soundsOf (M : TrackM) : St3 → List Str
  | none => []
  | some (n, p, _) => ((loopOf M n).map fun L => L.places.getD p []).getD []
/-- a standing that a track can have -/
def stOk (M : TrackM) : St3 → Prop
  | none => True
  | some (n, p, l) => ∃ L ∈ M.loops, L.name = n ∧ p < L.length ∧ l ≤ L.span
theorem loopOf_some {M : TrackM} (w : M.Well) {L : LoopM} (h : L ∈ M.loops) : loopOf M L.name = some L := by
  have nd := w.nd
  unfold loopOf
  generalize M.loops = ls at h nd
  induction ls with
  | nil => cases h
  | cons a r ih =>
    rw [List.map_cons, List.nodup_cons] at nd
    rcases List.mem_cons.mp h with rfl | h
    · simp
    · have ne : a.name ≠ L.name := fun e => nd.1 (by rw [e]; exact List.mem_map_of_mem h)
      rw [List.find?_cons_of_neg (by simpa using ne)]
      exact ih h nd.2
theorem loopOf_mem {M : TrackM} {n : Str} {L : LoopM} (h : loopOf M n = some L) : L ∈ M.loops ∧ L.name = n := by
  unfold loopOf at h
  exact ⟨List.mem_of_find?_eq_some h, by simpa using List.find?_some h⟩
theorem stOk_begin {M : TrackM} (w : M.Well) {L : LoopM} (h : L ∈ M.loops) : stOk M (beginL L) := ⟨L, h, rfl, (w.lw L h).l1, Nat.le_refl _⟩
theorem stOk_follow {M : TrackM} (w : M.Well) {s : St3} (h : stOk M s) : stOk M (follow M s) := by
  cases s with
  | none => trivial
  | some x =>
    obtain ⟨n, p, l⟩ := x
    obtain ⟨L, hL, rfl, hp, hl⟩ := h
    show stOk M ((loopOf M L.name).bind _)
    rw [loopOf_some w hL]
    show stOk M (if l = 1 then _ else _)
    split
    · split
      · trivial
      · cases e : loopOf M L.then_ with
        | none => trivial
        | some L2 => exact stOk_begin w (loopOf_mem e).1
    · exact ⟨L, hL, rfl, Nat.mod_lt _ (w.lw L hL).l1, by omega⟩
theorem stOk_begun {M : TrackM} (w : M.Well) {b : ButtonM} {s : St3} (h : stOk M s) : stOk M (begunBy b M s) := by
  unfold begunBy
  split
  · exact h
  · rename_i d _
    by_cases hs : d.2.1 = "stops"
    · rw [begunOf_stops hs]
      trivial
    · cases e : loopOf M d.2.2 with
      | none =>
        unfold begunOf
        rw [if_neg hs, e]
        trivial
      | some L =>
        obtain ⟨m1, m2⟩ := loopOf_mem e
        by_cases hp : d.2.1 = "plays"
        · rw [begunOf_plays hs e hp]
          exact stOk_begin w m1
        · cases s with
          | none =>
            rw [begunOf_none hs e hp]
            exact stOk_begin w m1
          | some x =>
            obtain ⟨n, p, l⟩ := x
            rw [begunOf_some hs e hp]
            exact ⟨L, m1, m2, Nat.mod_lt _ (w.lw L m1).l1, Nat.le_refl _⟩
/-- the standings of all tracks -/
def stsOk (ts : List TrackM) (ss : List St3) : Prop := ss.length = ts.length ∧ ∀ (i : Nat) (M : TrackM) (s : St3), ts[i]? = some M → ss[i]? = some s → stOk M s
def followAll (ts : List TrackM) (ss : List St3) : List St3 := ts.zipWith follow ss
def begunAll (b : ButtonM) (ts : List TrackM) (ss : List St3) : List St3 := ts.zipWith (begunBy b) ss
theorem zipW_get {α β γ : Type} {f : α → β → γ} {xs : List α} {ys : List β} {i : Nat} {z : γ} (h : (xs.zipWith f ys)[i]? = some z) : ∃ x y, xs[i]? = some x ∧ ys[i]? = some y ∧ z = f x y := by
  rw [List.getElem?_zipWith] at h
  cases hx : xs[i]? with
  | none => rw [hx] at h; cases h
  | some x =>
    cases hy : ys[i]? with
    | none => rw [hx, hy] at h; cases h
    | some y => rw [hx, hy] at h; cases h; exact ⟨x, y, rfl, rfl, rfl⟩
theorem stsOk_follow {ts : List TrackM} {ss : List St3} (w : ∀ t ∈ ts, t.Well) (h : stsOk ts ss) : stsOk ts (followAll ts ss) := by
  refine ⟨by simp [followAll, h.1], fun i M s e1 e2 => ?_⟩
  obtain ⟨M', s', h1, h2, rfl⟩ := zipW_get e2
  rw [e1] at h1
  cases h1
  exact stOk_follow (w M (List.mem_of_getElem? e1)) (h.2 i M s' e1 h2)
theorem stsOk_begun {b : ButtonM} {ts : List TrackM} {ss : List St3} (w : ∀ t ∈ ts, t.Well) (h : stsOk ts ss) : stsOk ts (begunAll b ts ss) := by
  refine ⟨by simp [begunAll, h.1], fun i M s e1 e2 => ?_⟩
  obtain ⟨M', s', h1, h2, rfl⟩ := zipW_get e2
  rw [e1] at h1
  cases h1
  exact stOk_begun (w M (List.mem_of_getElem? e1)) (h.2 i M s' e1 h2)
/-- what is heard, not yet in its sequence -/
def heardAt (ts : List TrackM) (ss : List St3) : List (Str × Str) := (ts.zip ss).flatMap fun p => (soundsOf p.1 p.2).map fun x => (p.1.name, x)
def pairD (p : Str × Str) : PyData := .tuple [.str p.1, .str p.2]
def strikesD (ts : List TrackM) (ss : List St3) : List PyData := ((heardAt ts ss).map pairD).mergeSort (PySem.W.dataLe false id)
theorem eqv_st (s : St3) : PyData.eqv (stD s) (.tuple []) = decide (s = none) := by
  cases s with
  | none => rfl
  | some x => rfl
theorem letters_eq : lettersL = [97, 98, 99, 100, 101, 102, 103, 104, 105, 106, 107, 108, 109, 110, 111, 112, 113, 114, 115, 116, 117, 118, 119, 120, 121, 122] := by decide +kernel
theorem nameOk_letters {s : Str} (h : nameOk s = true) : ∀ c ∈ s.cps.toList, 97 ≤ c ∧ c ≤ 122 := by
  unfold nameOk at h
  rw [Bool.and_eq_true, Bool.and_eq_true, List.all_eq_true] at h
  intro c hc
  have h3 := h.2 c hc
  rw [decide_eq_true_iff, letters_eq] at h3
  simp at h3
  omega
theorem lay_name {s : Str} (h : nameOk s = true) : (PyData.str s).canLay0 = true := by
  show (s.cps.all fun c => decide (c < 0x110000)) = true
  rw [Array.all_eq_true']
  intro c hc
  have := nameOk_letters h c (Array.mem_toList_iff.mpr hc)
  rw [decide_eq_true_iff]
  omega
theorem shaped_tup {ds : List PyData} (h : ∀ d ∈ ds, d.canLay0 = true ∧ d.depth ≤ 20) : (PyData.tuple ds).canLay0 = true ∧ (PyData.tuple ds).depth ≤ 21 := by
  induction ds with
  | nil => exact ⟨rfl, by decide⟩
  | cons d r ih =>
    obtain ⟨i1, i2⟩ := ih fun x hx => h x (List.mem_cons_of_mem _ hx)
    obtain ⟨a, b⟩ := h d List.mem_cons_self
    refine ⟨?_, ?_⟩
    · show (d.canLay0 && PyData.canLayAll0 r) = true
      rw [a]
      exact i1
    · show max d.depth (PyData.depthAll r) + 1 ≤ 21
      have : PyData.depthAll r + 1 ≤ 21 := i2
      omega
theorem shaped_of {d : PyData} (h : d.canLay0 = true ∧ d.depth ≤ 21) : SeqAt.shaped d = true := by
  show (d.canLay0 && decide (d.depth ≤ 64)) = true
  rw [h.1, decide_eq_true (by omega)]
  rfl
theorem lay_int (i : Int) : (PyData.int i).canLay0 = true ∧ (PyData.int i).depth ≤ 20 := ⟨rfl, Nat.zero_le _⟩
theorem lay_st {M : TrackM} (w : M.Well) {s : St3} (h : stOk M s) : (stD s).canLay0 = true ∧ (stD s).depth ≤ 1 := by
  cases s with
  | none => exact ⟨rfl, by decide⟩
  | some x =>
    obtain ⟨n, p, l⟩ := x
    obtain ⟨L, hL, rfl, _⟩ := h
    refine ⟨?_, Nat.le_refl 1⟩
    show ((PyData.str L.name).canLay0 && true) = true
    rw [lay_name (w.lw L hL).nm]
    rfl
theorem shaped_st {M : TrackM} (w : M.Well) {s : St3} (h : stOk M s) : SeqAt.shaped (stD s) = true := shaped_of ⟨(lay_st w h).1, Nat.le_trans (lay_st w h).2 (by decide)⟩
theorem shaped_nil : SeqAt.shaped (.tuple []) = true := rfl
theorem nodup_name {ts : List TrackM} (nd : (ts.map (·.name)).Nodup) {a b : TrackM} (ha : a ∈ ts) (hb : b ∈ ts) (e : a.name = b.name) : a = b := by
  induction ts with
  | nil => cases ha
  | cons x r ih =>
    rw [List.map_cons, List.nodup_cons] at nd
    rcases List.mem_cons.mp ha with e1 | h1
    · rcases List.mem_cons.mp hb with e2 | h2
      · rw [e1, e2]
      · exact absurd (by rw [← e1, e]; exact List.mem_map_of_mem h2) nd.1
    · rcases List.mem_cons.mp hb with e2 | h2
      · exact absurd (by rw [← e2, ← e]; exact List.mem_map_of_mem h1) nd.1
      · exact ih nd.2 h1 h2
theorem ButtonM.Well.loop {ts : List TrackM} {B : ButtonM} (w : B.Well ts) {d : Str × Str × Str} (hd : d ∈ B.deeds) {M : TrackM} (hM : M ∈ ts) (hn : d.1 = M.name) (nd : (ts.map (·.name)).Nodup) (hs : d.2.1 ≠ "stops") : ∃ L ∈ M.loops, L.name = d.2.2 := by
  obtain ⟨row, h⟩ := w.dw d hd
  cases h with
  | stops => exact absurd rfl hs
  | begins hw ht e hl =>
    have := nodup_name nd ht hM (e.trans hn)
    subst this
    obtain ⟨L, h1, h2⟩ := List.mem_map.mp hl
    exact ⟨L, h1, h2⟩
theorem sounds_ok {M : TrackM} (w : M.Well) {s : St3} (h : stOk M s) : (soundsOf M s).length ≤ 3 ∧ ∀ x ∈ soundsOf M s, nameOk x = true := by
  cases s with
  | none => exact ⟨by show 0 ≤ 3; omega, fun x hx => by cases hx⟩
  | some y =>
    obtain ⟨n, p, l⟩ := y
    obtain ⟨L, hL, rfl, hp, _⟩ := h
    have wL := w.lw L hL
    have lp : p < L.places.length := by rw [wL.pl]; exact hp
    have es : soundsOf M (some (L.name, p, l)) = L.places[p]'lp := by
      show ((loopOf M L.name).map _).getD [] = _
      rw [loopOf_some w hL]
      show L.places.getD p [] = _
      rw [List.getD_eq_getElem?_getD, List.getElem?_eq_getElem lp]
      rfl
    rw [es]
    exact wL.so _ (List.getElem_mem lp)
theorem heardAt_snoc {ts : List TrackM} {ss : List St3} {i : Nat} {M : TrackM} {s : St3} (e1 : ts[i]? = some M) (e2 : ss[i]? = some s) :
    heardAt (ts.take (i + 1)) (ss.take (i + 1)) = heardAt (ts.take i) (ss.take i) ++ (soundsOf M s).map fun x => (M.name, x) := by
  have i1 := (List.getElem?_eq_some_iff.mp e1).1
  have i2 := (List.getElem?_eq_some_iff.mp e2).1
  unfold heardAt
  rw [← List.take_append_getElem i1, ← List.take_append_getElem i2, List.zip_append (by simp; omega)]
  rw [List.flatMap_append]
  rw [(List.getElem?_eq_some_iff.mp e1).2, (List.getElem?_eq_some_iff.mp e2).2]
  simp
theorem dpAll_pairs {K : PySem.W.Frag} {H : Hp} : ∀ {bs : List (V × PyData)}, (∀ b ∈ bs, Dp K H b.1 b.2) → DpAll K H (bs.map (·.1)) (bs.map (·.2))
  | [], _ => .nil
  | b :: r, h => .cons (h b List.mem_cons_self) (dpAll_pairs fun x hx => h x (List.mem_cons_of_mem _ hx))
theorem dpAll_zip {K : PySem.W.Frag} {H : Hp} : ∀ {xs : List V} {ds : List PyData}, DpAll K H xs ds → (∀ b ∈ xs.zip ds, Dp K H b.1 b.2) ∧ (xs.zip ds).map (·.1) = xs ∧ (xs.zip ds).map (·.2) = ds
  | _, _, .nil => ⟨fun b hb => absurd hb (by simp), rfl, rfl⟩
  | _, _, .cons h t => by
    obtain ⟨a, b, c⟩ := dpAll_zip t
    refine ⟨fun x hx => ?_, ?_, ?_⟩
    · rcases List.mem_cons.mp hx with rfl | hx
      · exact h
      · exact a x hx
    · exact congrArg (List.cons _) b
    · exact congrArg (List.cons _) c
theorem dpAll_app {K : PySem.W.Frag} {H : Hp} {ys : List V} {es : List PyData} (t : DpAll K H ys es) : ∀ {xs : List V} {ds : List PyData}, DpAll K H xs ds → DpAll K H (xs ++ ys) (ds ++ es)
  | _, _, .nil => t
  | _, _, .cons a b => .cons a (dpAll_app t b)
theorem alike_pairs (l : List (Str × Str)) : PySem.W.AllAlike (l.map pairD) ∧ PySem.W.Sortable (l.map pairD) := by
  constructor
  · intro d hd d' hd'
    obtain ⟨x, _, rfl⟩ := List.mem_map.mp hd
    obtain ⟨y, _, rfl⟩ := List.mem_map.mp hd'
    rfl
  · exact .inl fun d hd => by
      obtain ⟨x, _, rfl⟩ := List.mem_map.mp hd
      exact ⟨_, _, rfl⟩
theorem sorted_snd (bs : List (V × PyData)) : (bs.mergeSort (PySem.W.dataLe false (·.2))).map (·.2) = (bs.map (·.2)).mergeSort (PySem.W.dataLe false id) :=
  List.map_mergeSort (f := fun b : V × PyData => b.2) (fun _ _ _ _ => rfl)
instance inhPy : Inhabited PyData := ⟨.none⟩
/-! ### rules within comprehensions, K said -/
theorem ix_tupK {X : Cx} {K : PySem.W.Frag} (h : X.K = K) : IxR X (rIxT K) := h ▸ ix_tup
theorem ix_listK {X : Cx} {K : PySem.W.Frag} (h : X.K = K) : IxR X (rIxL K) := h ▸ ix_list
end Ev
end

section
namespace Ev
open PySem PySem.Spec PyProof.Rows L2
/-! ### playing, plain -/
/-- the button that begins at a step -/
def beginsAt (bs : List (Nat × Str)) (n : Nat) : Option Str := (bs.find? fun x => decide (x.1 = n)).map (·.2)
def buttonIn (bts : List ButtonM) (b : Str) : Option ButtonM := bts.find? fun M => decide (M.name = b)
/-- the standings behind k moves (that is at step k - 1) -/
def playTo (ts : List TrackM) (bts : List ButtonM) (bs : List (Nat × Str)) : Nat → List St3
  | 0 => List.replicate ts.length none
  | k + 1 => match (beginsAt bs k).bind (buttonIn bts) with
    | none => followAll ts (playTo ts bts bs k)
    | some M => begunAll M ts (followAll ts (playTo ts bts bs k))
theorem stsOk_play {ts : List TrackM} {bts : List ButtonM} {bs : List (Nat × Str)} (w : ∀ t ∈ ts, t.Well) : ∀ k, stsOk ts (playTo ts bts bs k)
  | 0 => ⟨by simp [playTo], fun i M s _ e => by
      have := List.mem_of_getElem? e
      have := List.eq_of_mem_replicate this
      subst this
      trivial⟩
  | k + 1 => by
    unfold playTo
    split
    · exact stsOk_follow w (stsOk_play w k)
    · exact stsOk_begun w (stsOk_follow w (stsOk_play w k))
/-- the dict of what begins when -/
def begKV (bs : List (Nat × Str)) : List (Key × V) := bs.map fun x => (Sum.inl (x.1 : Int), V.str x.2)
theorem mergeK_app (kvs : List (Key × V)) : ∀ more : List (Key × V), (kvs.map (·.1) ++ more.map (·.1)).Nodup → mergeK kvs more = kvs ++ more := by
  intro more
  induction more generalizing kvs with
  | nil => intro _; simp [mergeK]
  | cons a r ih =>
    intro nd
    have h1 : valV kvs a.1 = none := by
      unfold valV
      rw [List.find?_eq_none.mpr]
      · rfl
      · intro x hx
        have : x.1 ≠ a.1 := fun e => by
          rw [List.nodup_append] at nd
          exact nd.2.2 x.1 (List.mem_map_of_mem hx) a.1 (by simp) e
        simpa using this
    show mergeK (putK kvs a.1 a.2) r = _
    have e2 : putK kvs a.1 a.2 = kvs ++ [(a.1, a.2)] := putK_new h1
    rw [e2, ih (kvs ++ [(a.1, a.2)]) (by simpa using nd)]
    simp
theorem begKV_val {bs : List (Nat × Str)} (nd : (bs.map (·.1)).Nodup) (n : Nat) : mergeK [] (begKV bs) = begKV bs ∧ valV (begKV bs) (Sum.inl (n : Int)) = (beginsAt bs n).map V.str := by
  constructor
  · have := mergeK_app [] (begKV bs) (by
      show ((begKV bs).map (·.1)).Nodup
      unfold begKV
      rw [List.map_map]
      have : (bs.map (·.1)).map (fun k : Nat => (Sum.inl (k : Int) : Key)) = bs.map ((fun x => x.1) ∘ fun x : Nat × Str => ((Sum.inl (x.1 : Int) : Key), V.str x.2)) := by
        rw [List.map_map]
        rfl
      rw [← this]
      exact List.pairwise_map.mpr (List.Pairwise.imp (fun {a b} h e => h (by have := Sum.inl.inj e; omega)) nd))
    simpa using this
  · unfold begKV beginsAt
    clear nd
    induction bs with
    | nil => rfl
    | cons a r ih =>
      by_cases h : a.1 = n
      · rw [List.map_cons, List.find?_cons_of_pos (by simpa using h)]
        exact valV_pos (p := ((Sum.inl (a.1 : Int) : Key), V.str a.2)) (by rw [h])
      · rw [List.map_cons, List.find?_cons_of_neg (by simpa using h), ← ih]
        exact valV_neg (p := ((Sum.inl (a.1 : Int) : Key), V.str a.2)) (fun e => h (by have := Sum.inl.inj e; omega))
end Ev
end

section
namespace PL
open PySem PySem.Spec PyProof.Rows L2 Ev
/-! ### values without places -/
inductive D where
  | non | bl (b : Bool) | int (i : Int) | str (x : Str)
  | tup (ds : List D) | lst (ds : List D) | dic (ks : List Key) (ds : List D) | brd (t : Str) (B : BoardM) | cell (i : Nat) | scr (ns : List Int)
instance : Inhabited D := ⟨.non⟩
mutual
def D.py : D → Option PyData
  | .non => some .none
  | .bl b => some (.bool b)
  | .int i => some (.int i)
  | .str x => some (.str x)
  | .tup ds => (pys ds).map .tuple
  | .lst ds => (pys ds).map .list
  | .dic _ _ => none
  | .brd _ _ => none
  | .cell _ => none
  | .scr _ => none
def pys : List D → Option (List PyData)
  | [] => some []
  | d :: r => match d.py, pys r with
    | some p, some q => some (p :: q)
    | _, _ => none
end
abbrev OR := Str → BoardM → Hp → Addr → Prop
section
variable (K : PySem.W.Frag) (R : OR) (G : Hp) (ρ : List Addr)
mutual
/-- a value at a heap that never changes tells data -/
inductive RD : V → D → Prop
  | non : RD .non .non
  | bl (b : Bool) : RD (.bl b) (.bl b)
  | int (i : Int) : RD (.int i) (.int i)
  | str (x : Str) : RD (.str x) (.str x)
  | tup {a : Addr} {xs : List V} {ds : List D} : SqT K G a xs → RDs xs ds → RD (.ref a) (.tup ds)
  | lst {a : Addr} {xs : List V} {ds : List D} : G a = some (.lst xs) → RDs xs ds → RD (.ref a) (.lst ds)
  | dic {a : Addr} {ks : List Key} {xs : List V} {ds : List D} : G a = some (.dK (ks.zip xs)) → ks.length = xs.length → RDs xs ds → RD (.ref a) (.dic ks ds)
  | brd {a : Addr} {t : Str} {B : BoardM} : R t B G a → RD (.ref a) (.brd t B)
  | cell {a : Addr} {i : Nat} : ρ[i]? = some a → RD (.ref a) (.cell i)
  | scr {a : Addr} {ns : List Int} : SqL K G a (ns.map V.int) → RD (.ref a) (.scr ns)
inductive RDs : List V → List D → Prop
  | nil : RDs [] []
  | cons {v : V} {d : D} {vs : List V} {ds : List D} : RD v d → RDs vs ds → RDs (v :: vs) (d :: ds)
end
end
/-- boards stand though the heap grows -/
def RMono (R : OR) : Prop := ∀ t B G G' a, Same G G' → R t B G a → R t B G' a
section
variable {K : PySem.W.Frag} {R : OR} {G G' : Hp} {ρ ρ' : List Addr}
theorem pre_get {a : Addr} {i : Nat} (p : ρ <+: ρ') (h : ρ[i]? = some a) : ρ'[i]? = some a := by
  obtain ⟨t, rfl⟩ := p
  rw [List.getElem?_append_left (List.getElem?_eq_some_iff.mp h).1]
  exact h
mutual
theorem RD.mono (hR : RMono R) (s : Same G G') (p : ρ <+: ρ') : ∀ {v : V} {d : D}, RD K R G ρ v d → RD K R G' ρ' v d
  | _, _, .non => .non
  | _, _, .bl b => .bl b
  | _, _, .int i => .int i
  | _, _, .str x => .str x
  | _, _, .tup h t => .tup (s.sqt h) (RDs.mono hR s p t)
  | _, _, .lst h t => .lst (s _ _ h) (RDs.mono hR s p t)
  | _, _, .dic h l t => .dic (s _ _ h) l (RDs.mono hR s p t)
  | _, _, .brd h => .brd (hR _ _ _ _ _ s h)
  | _, _, .cell h => .cell (pre_get p h)
  | _, _, .scr h => .scr (s.seq h)
theorem RDs.mono (hR : RMono R) (s : Same G G') (p : ρ <+: ρ') : ∀ {vs : List V} {ds : List D}, RDs K R G ρ vs ds → RDs K R G' ρ' vs ds
  | _, _, .nil => .nil
  | _, _, .cons h t => .cons (RD.mono hR s p h) (RDs.mono hR s p t)
end
mutual
theorem RD.dp : ∀ {v : V} {d : D} {q : PyData}, RD K R G ρ v d → d.py = some q → Dp K G v q
  | _, _, _, .non, e => by cases e; exact .non
  | _, _, _, .bl b, e => by cases e; exact .bl b
  | _, _, _, .int i, e => by cases e; exact .int i
  | _, _, _, .str x, e => by cases e; exact .str x
  | _, _, _, .tup h t, e => by
    obtain ⟨q, e1, rfl⟩ := Option.map_eq_some_iff.mp e
    exact .tup h (RDs.dp t e1)
  | _, _, _, .lst h t, e => by
    obtain ⟨q, e1, rfl⟩ := Option.map_eq_some_iff.mp e
    exact .lst (SqL.of h) (RDs.dp t e1)
  | _, _, _, .dic _ _ _, e => by cases e
  | _, _, _, .brd _, e => by cases e
  | _, _, _, .cell _, e => by cases e
  | _, _, _, .scr _, e => by cases e
theorem RDs.dp : ∀ {vs : List V} {ds : List D} {qs : List PyData}, RDs K R G ρ vs ds → pys ds = some qs → DpAll K G vs qs
  | _, _, _, .nil, e => by cases e; exact .nil
  | _, _, _, .cons (d := d) (ds := ds) h t, e => by
    have e : (match d.py, pys ds with | some p, some q => some (p :: q) | _, _ => none) = some _ := e
    cases e1 : d.py with
    | none => rw [e1] at e; cases e
    | some p =>
      cases e2 : pys ds with
      | none => rw [e1, e2] at e; cases e
      | some q =>
        rw [e1, e2] at e
        cases e
        exact .cons (RD.dp h e1) (RDs.dp t e2)
end
/-- data back to values without places -/
theorem RDs.len {vs : List V} {ds : List D} : RDs K R G ρ vs ds → vs.length = ds.length
  | .nil => rfl
  | .cons _ t => congrArg (· + 1) (RDs.len t)
theorem RDs.get {v : V} : ∀ {vs : List V} {ds : List D} {i : Nat}, RDs K R G ρ vs ds → vs[i]? = some v → ∃ d, ds[i]? = some d ∧ RD K R G ρ v d
  | _, _, _, .nil, e => by simp at e
  | _, _, 0, .cons h _, e => by simp at e; subst e; exact ⟨_, rfl, h⟩
  | _, _, i + 1, .cons _ t, e => by
    obtain ⟨d, h1, h2⟩ := RDs.get (i := i) t (by simpa using e)
    exact ⟨d, by simpa using h1, h2⟩
theorem RDs.at {d : D} : ∀ {vs : List V} {ds : List D} {i : Nat}, RDs K R G ρ vs ds → ds[i]? = some d → ∃ v, vs[i]? = some v ∧ RD K R G ρ v d
  | _, _, _, .nil, e => by simp at e
  | _, _, 0, .cons h _, e => by simp at e; subst e; exact ⟨_, rfl, h⟩
  | _, _, i + 1, .cons _ t, e => by
    obtain ⟨v, h1, h2⟩ := RDs.at (i := i) t (by simpa using e)
    exact ⟨v, by simpa using h1, h2⟩
theorem RDs.app {ws : List V} {es : List D} (q : RDs K R G ρ ws es) : ∀ {vs : List V} {ds : List D}, RDs K R G ρ vs ds → RDs K R G ρ (vs ++ ws) (ds ++ es)
  | _, _, .nil => q
  | _, _, .cons h t => .cons h (RDs.app q t)
theorem RDs.take : ∀ {vs : List V} {ds : List D} {n : Nat}, RDs K R G ρ vs ds → RDs K R G ρ (vs.take n) (ds.take n)
  | _, _, _, .nil => by simp; exact .nil
  | _, _, 0, .cons _ _ => .nil
  | _, _, n + 1, .cons h t => .cons h (RDs.take (n := n) t)
theorem RDs.drop : ∀ {vs : List V} {ds : List D} {n : Nat}, RDs K R G ρ vs ds → RDs K R G ρ (vs.drop n) (ds.drop n)
  | _, _, _, .nil => by simp; exact .nil
  | _, _, 0, .cons h t => .cons h t
  | _, _, n + 1, .cons _ t => RDs.drop (n := n) t
theorem RDs.set {v : V} {d : D} (h : RD K R G ρ v d) : ∀ {vs : List V} {ds : List D} (i : Nat), RDs K R G ρ vs ds → RDs K R G ρ (vs.set i v) (ds.set i d)
  | _, _, _, .nil => .nil
  | _, _, 0, .cons _ t => .cons h t
  | _, _, i + 1, .cons q t => .cons q (RDs.set h i t)
theorem RDs.erase : ∀ {vs : List V} {ds : List D} (i : Nat), RDs K R G ρ vs ds → RDs K R G ρ (vs.eraseIdx i) (ds.eraseIdx i)
  | _, _, _, .nil => .nil
  | _, _, 0, .cons _ t => t
  | _, _, i + 1, .cons q t => .cons q (RDs.erase i t)
theorem RDs.rev {vs : List V} {ds : List D} (h : RDs K R G ρ vs ds) : RDs K R G ρ vs.reverse ds.reverse := by
  induction vs generalizing ds with
  | nil => cases h; exact .nil
  | cons v vs ih =>
    cases h with
    | cons h t =>
      rw [List.reverse_cons, List.reverse_cons]
      exact RDs.app (.cons h .nil) (ih t)
end

/-! ### states -/
/-- a slot: data, or a list (a dict) that this def alone may write -/
inductive Sl where
  | d (x : D) | ol (ds : List D) | od (ks : List Key) (ds : List D)
def Sl.own : Sl → Bool
  | .d _ => false
  | _ => true
abbrev Env := List (Option Sl)
structure S where
  env : Env
  cs : List (List D)
structure Bs where
  G : Hp
  H : Hp
  ρ : List Addr
def Own (e : Env) (σ : L2.St) (a : Addr) : Prop := ∃ (i : Nat) (x : Sl), e[i]? = some (some x) ∧ x.own = true ∧ σ[i]? = some (some (.ref a))
/-- what a def may have done since its call -/
structure Le (G H : Hp) (ρ : List Addr) (G' H' : Hp) (ρ' : List Addr) : Prop where
  gg : Same G G'
  keep : ∀ a o, H a = some o → a ∉ ρ → H' a = some o
  there : ∀ a, H a ≠ none → H' a ≠ none
  gnew : ∀ a, G' a ≠ none → G a ≠ none ∨ H a = none
  pre : ∃ t, ρ' = ρ ++ t ∧ ∀ a ∈ t, H a = none
structure Fr (σ : L2.St) (e : Env) (G H : Hp) (ρ : List Addr) (e' : Env) (G' H' : Hp) (ρ' : List Addr) : Prop where
  gg : Same G G'
  keep : ∀ a o, H a = some o → a ∉ ρ → ¬ Own e σ a → H' a = some o
  there : ∀ a, H a ≠ none → H' a ≠ none
  gnew : ∀ a, G' a ≠ none → G a ≠ none ∨ H a = none ∨ Own e σ a
  pre : ∃ t, ρ' = ρ ++ t ∧ ∀ a ∈ t, H a = none
  own : ∀ a, Own e' σ a → Own e σ a
section
variable {G H G' H' G2 H2 : Hp} {ρ ρ' ρ2 : List Addr} {σ : L2.St} {e e' e2 : Env}
theorem Le.refl : Le G H ρ G H ρ := ⟨fun _ _ h => h, fun _ _ h _ => h, fun _ h => h, fun _ h => .inl h, [], by simp, fun _ h => by cases h⟩
theorem Fr.refl : Fr σ e G H ρ e G H ρ := ⟨fun _ _ h => h, fun _ _ h _ _ => h, fun _ h => h, fun _ h => .inl h, ⟨[], by simp, fun _ h => by cases h⟩, fun _ h => h⟩
theorem some_ne {o : HO} {a : Addr} (h : H a = some o) : H a ≠ none := by rw [h]; exact nofun
theorem ne_some {a : Addr} (h : H a ≠ none) : ∃ o, H a = some o := by
  cases q : H a with
  | none => exact absurd q h
  | some o => exact ⟨o, rfl⟩
theorem Fr.prf (f : Fr σ e G H ρ e' G' H' ρ') : ρ <+: ρ' := by
  obtain ⟨t, rfl, _⟩ := f.pre
  exact ⟨t, rfl⟩
theorem Fr.trans (f : Fr σ e G H ρ e' G' H' ρ') (g : Fr σ e' G' H' ρ' e2 G2 H2 ρ2) : Fr σ e G H ρ e2 G2 H2 ρ2 := by
  obtain ⟨t, et, ht⟩ := f.pre
  obtain ⟨u, eu, hu⟩ := g.pre
  refine ⟨f.gg.trans g.gg, fun a o h n no => ?_, fun a h => g.there a (f.there a h), fun a h => ?_, ⟨t ++ u, by rw [eu, et, List.append_assoc], fun a ha => ?_⟩, fun a h => f.own a (g.own a h)⟩
  · refine g.keep a o (f.keep a o h n no) ?_ fun q => no (f.own a q)
    rw [et]
    intro q
    rcases List.mem_append.mp q with q | q
    · exact n q
    · exact some_ne h (ht a q)
  · rcases g.gnew a h with h | h | h
    · exact f.gnew a h
    · refine .inr (.inl ?_)
      cases q : H a with
      | none => rfl
      | some o => exact absurd h (f.there a (some_ne q))
    · exact .inr (.inr (f.own a h))
  · rcases List.mem_append.mp ha with q | q
    · exact ht a q
    · cases z : H a with
      | none => rfl
      | some o => exact absurd (hu a q) (f.there a (some_ne z))
end
/-- all tuples never change -/
def Tups (G H : Hp) : Prop := ∀ a o, H a = some o → isTupH o = true → G a = some o
section
variable (K : PySem.W.Frag) (R : OR) (b : Bs) (G : Hp) (ρ : List Addr)
/-- a slot's value -/
def SlotR (H : Hp) (v : V) : Sl → Prop
  | .d x => RD K R G ρ v x
  | .ol ds => ∃ a xs, v = .ref a ∧ b.H a = none ∧ G a = none ∧ a ∉ ρ ∧ H a = some (.lst xs) ∧ RDs K R G ρ xs ds
  | .od ks ds => ∃ a xs, v = .ref a ∧ b.H a = none ∧ G a = none ∧ a ∉ ρ ∧ H a = some (.dK (ks.zip xs)) ∧ ks.length = xs.length ∧ RDs K R G ρ xs ds
structure Cells (H : Hp) (cs : List (List D)) : Prop where
  tups : Tups G H
  nd : ρ.Nodup
  cl : cs.length = ρ.length
  at_ : ∀ (i : Nat) (a : Addr) (ds : List D), ρ[i]? = some a → cs[i]? = some ds → G a = none ∧ ∃ xs, H a = some (.lst xs) ∧ RDs K R G ρ xs ds
structure Rel (σ : L2.St) (H : Hp) (s : S) : Prop where
  le : Le b.G b.H b.ρ G H ρ
  sub : Same G H
  cells : Cells K R G ρ H s.cs
  el : s.env.length = σ.length
  env : ∀ (i : Nat) (x : Sl), s.env[i]? = some (some x) → ∃ v, σ[i]? = some (some v) ∧ SlotR K R b G ρ H v x
  sep : ∀ (i j : Nat) (x y : Sl) (a : Addr), s.env[i]? = some (some x) → s.env[j]? = some (some y) → x.own = true → y.own = true → σ[i]? = some (some (.ref a)) → σ[j]? = some (some (.ref a)) → i = j
end
end PL
end

section
namespace PL
open PySem PySem.Spec PyProof.Rows L2 Ev
section
variable {K : PySem.W.Frag} {R : OR} {b : Bs} {G H G' H' : Hp} {ρ ρ' : List Addr} {σ : L2.St} {s : S} {e' : Env} {cs' : List (List D)}
theorem Rel.ownB (r : Rel K R b G ρ σ H s) {a : Addr} (o : Own s.env σ a) : b.H a = none ∧ G a = none ∧ a ∉ ρ ∧ H a ≠ none := by
  obtain ⟨i, x, e1, e2, e3⟩ := o
  obtain ⟨v, h1, h2⟩ := r.env i x e1
  rw [e3] at h1
  cases h1
  cases x with
  | d x => cases e2
  | ol ds =>
    obtain ⟨a', xs, ea, h3, h4, h5, h6, _⟩ := h2
    cases ea
    exact ⟨h3, h4, h5, some_ne h6⟩
  | od ks ds =>
    obtain ⟨a', xs, ea, h3, h4, h5, h6, _⟩ := h2
    cases ea
    exact ⟨h3, h4, h5, some_ne h6⟩
theorem Rel.leOf (r : Rel K R b G ρ σ H s) (f : Fr σ s.env G H ρ e' G' H' ρ') : Le b.G b.H b.ρ G' H' ρ' := by
  obtain ⟨t, et, ht⟩ := f.pre
  obtain ⟨u, eu, hu⟩ := r.le.pre
  refine ⟨r.le.gg.trans f.gg, fun a o h n => ?_, fun a h => f.there a (r.le.there a h), fun a h => ?_, u ++ t, by rw [et, eu, List.append_assoc], fun a ha => ?_⟩
  · refine f.keep a o (r.le.keep a o h n) ?_ fun q => some_ne h (r.ownB q).1
    rw [eu]
    intro q
    rcases List.mem_append.mp q with q | q
    · exact n q
    · exact some_ne h (hu a q)
  · rcases f.gnew a h with h | h | h
    · exact r.le.gnew a h
    · refine .inr ?_
      cases q : b.H a with
      | none => rfl
      | some o => exact absurd h (r.le.there a (some_ne q))
    · exact .inr (r.ownB h).1
  · rcases List.mem_append.mp ha with q | q
    · exact hu a q
    · cases z : b.H a with
      | none => rfl
      | some o => exact absurd (ht a q) (r.le.there a (some_ne z))
/-- slots behind a step that leaves them as they are -/
theorem SlotR.go (hR : RMono R) {v : V} {x : Sl} (h : SlotR K R b G ρ H v x) (gg : Same G G') (p : ρ <+: ρ') (hw : ∀ a, v = .ref a → x.own = true → H' a = H a ∧ G' a = none ∧ a ∉ ρ') : SlotR K R b G' ρ' H' v x := by
  cases x with
  | d x => exact RD.mono hR gg p h
  | ol ds =>
    obtain ⟨a, xs, rfl, h1, h2, h3, h4, h5⟩ := h
    obtain ⟨w1, w2, w3⟩ := hw a rfl rfl
    exact ⟨a, xs, rfl, h1, w2, w3, w1.trans h4, RDs.mono hR gg p h5⟩
  | od ks ds =>
    obtain ⟨a, xs, rfl, h1, h2, h3, h4, h5, h6⟩ := h
    obtain ⟨w1, w2, w3⟩ := hw a rfl rfl
    exact ⟨a, xs, rfl, h1, w2, w3, w1.trans h4, h5, RDs.mono hR gg p h6⟩
theorem Cells.go (hR : RMono R) {cs : List (List D)} (c : Cells K R G ρ H cs) (gg : Same G G') (ht : Tups G' H') (hw : ∀ a, a ∈ ρ → H' a = H a ∧ G' a = none) : Cells K R G' ρ H' cs := by
  refine ⟨ht, c.nd, c.cl, fun i a ds h1 h2 => ?_⟩
  obtain ⟨q1, xs, q2, q3⟩ := c.at_ i a ds h1 h2
  obtain ⟨w1, w2⟩ := hw a (List.mem_of_getElem? h1)
  exact ⟨w2, xs, w1.trans q2, RDs.mono hR gg (List.prefix_refl _) q3⟩
theorem Cells.some {cs : List (List D)} (c : Cells K R G ρ H cs) {a : Addr} (h : a ∈ ρ) : H a ≠ none ∧ G a = none := by
  obtain ⟨i, hi, e⟩ := List.mem_iff_getElem.mp h
  have h2 : cs[i]? = .some (cs[i]'(by rw [c.cl]; exact hi)) := List.getElem?_eq_getElem _
  obtain ⟨q1, xs, q2, _⟩ := c.at_ i a _ (by rw [List.getElem?_eq_getElem hi, e]) h2
  exact ⟨some_ne q2, q1⟩
theorem Tups.new (h : Tups G H) {p : Addr} {o : HO} (hp : H p = none) (ho : isTupH o = false) : Tups G (upd H p o) := fun a u e t => by
  by_cases ha : a = p
  · subst ha; rw [upd_same] at e; cases e; rw [ho] at t; cases t
  · rw [upd_ne ha] at e; exact h a u e t
/-- the heap grows, perhaps also what never changes -/
theorem Rel.pure (hR : RMono R) (r : Rel K R b G ρ σ H s) (gg : Same G G') (gh : Same G' H') (hh : Same H H') (gn : ∀ a, G' a ≠ none → G a ≠ none ∨ H a = none) (ht : Tups G' H') :
    Rel K R b G' ρ σ H' s ∧ Fr σ s.env G H ρ s.env G' H' ρ := by
  have f : Fr σ s.env G H ρ s.env G' H' ρ := ⟨gg, fun a o h _ _ => hh a o h, fun a h => by obtain ⟨o, e⟩ := ne_some h; exact some_ne (hh a o e), fun a h => by rcases gn a h with h | h; exact .inl h; exact .inr (.inl h), ⟨[], by simp, fun _ h => by cases h⟩, fun _ h => h⟩
  have eqH : ∀ a, H a ≠ none → H' a = H a := fun a h => by obtain ⟨o, e⟩ := ne_some h; rw [e]; exact hh a o e
  have gN : ∀ a, H a ≠ none → G a = none → G' a = none := fun a h1 h2 => by
    cases q : G' a with
    | none => rfl
    | some o =>
      rcases gn a (some_ne q) with z | z
      · exact absurd h2 z
      · exact absurd z h1
  refine ⟨⟨r.leOf f, gh, r.cells.go hR gg ht fun a ha => ?_, r.el, fun i x e => ?_, r.sep⟩, f⟩
  · obtain ⟨w1, w2⟩ := r.cells.some ha
    exact ⟨eqH a w1, gN a w1 w2⟩
  · obtain ⟨v, h1, h2⟩ := r.env i x e
    refine ⟨v, h1, h2.go hR gg (List.prefix_refl _) fun a ev ho => ?_⟩
    subst ev
    obtain ⟨_, w2, w3, w4⟩ := r.ownB ⟨i, x, e, ho, h1⟩
    exact ⟨eqH a w4, gN a w4 w2, w3⟩
/-- a new thing that never changes -/
theorem Rel.new (hR : RMono R) (r : Rel K R b G ρ σ H s) {p : Addr} (o : HO) (hp : H p = none) :
    Rel K R b (upd G p o) ρ σ (upd H p o) s ∧ Fr σ s.env G H ρ s.env (upd G p o) (upd H p o) ρ := by
  have gp : G p = none := r.sub.free hp
  refine r.pure hR (same_upd gp) (fun a u h => ?_) (same_upd hp) (fun a h => ?_) fun a u h ht => ?_
  rotate_left 2
  · by_cases ha : a = p
    · subst ha; rw [upd_same] at h ⊢; exact h
    · rw [upd_ne ha] at h ⊢; exact r.cells.tups a u h ht
  · by_cases ha : a = p
    · subst ha; rw [upd_same] at h ⊢; exact h
    · rw [upd_ne ha] at h ⊢; exact r.sub a u h
  · by_cases ha : a = p
    · subst ha; exact .inr hp
    · rw [upd_ne ha] at h; exact .inl h
/-- behind a call -/
theorem Rel.call (hR : RMono R) (r : Rel K R b G ρ σ H s) (l : Le G H ρ G' H' ρ') (gh : Same G' H') (c : Cells K R G' ρ' H' cs') :
    Rel K R b G' ρ' σ H' ⟨s.env, cs'⟩ ∧ Fr σ s.env G H ρ s.env G' H' ρ' := by
  have f : Fr σ s.env G H ρ s.env G' H' ρ' := ⟨l.gg, fun a o h n _ => l.keep a o h n, l.there, fun a h => by rcases l.gnew a h with h | h; exact .inl h; exact .inr (.inl h), l.pre, fun _ h => h⟩
  refine ⟨⟨r.leOf f, gh, c, r.el, fun i x e => ?_, r.sep⟩, f⟩
  obtain ⟨v, h1, h2⟩ := r.env i x e
  refine ⟨v, h1, h2.go hR l.gg f.prf fun a ev ho => ?_⟩
  subst ev
  obtain ⟨_, w2, w3, w4⟩ := r.ownB ⟨i, x, e, ho, h1⟩
  obtain ⟨o, eo⟩ := ne_some w4
  refine ⟨by rw [eo]; exact l.keep a o eo w3, ?_, ?_⟩
  · cases q : G' a with
    | none => rfl
    | some u =>
      rcases l.gnew a (some_ne q) with z | z
      · exact absurd w2 z
      · exact absurd z w4
  · obtain ⟨t, et, ht⟩ := l.pre
    rw [et]
    intro q
    rcases List.mem_append.mp q with q | q
    · exact w3 q
    · exact w4 (ht a q)
theorem set_get {α : Type} {l : List α} {i j : Nat} {x y : α} (h : (l.set i x)[j]? = some y) : (i = j ∧ x = y) ∨ (i ≠ j ∧ l[j]? = some y) := by
  rw [List.getElem?_set] at h
  split at h
  · rename_i e
    split at h
    · cases h; exact .inl ⟨e, rfl⟩
    · cases h
  · rename_i e
    exact .inr ⟨e, h⟩
theorem set_at {α : Type} {l : List α} {i : Nat} {x y : α} (h : l[i]? = some y) : (l.set i x)[i]? = some x := by
  rw [List.getElem?_set_self (List.getElem?_eq_some_iff.mp h).1]
theorem set_off {α : Type} {l : List α} {i j : Nat} {x : α} (h : i ≠ j) : (l.set i x)[j]? = l[j]? := List.getElem?_set_ne h
/-- an owned list is read as a whole: from now on nobody writes it -/
theorem Rel.freeze (hR : RMono R) (r : Rel K R b G ρ σ H s) {i : Nat} {y : Sl} {o : HO} {a : Addr} {x : D} (e : s.env[i]? = some (some y)) (ho : y.own = true) (ev : σ[i]? = some (some (.ref a))) (ha : H a = some o)
    (hx : RD K R (upd G a o) ρ (.ref a) x) : Rel K R b (upd G a o) ρ σ H ⟨s.env.set i (some (.d x)), s.cs⟩ ∧ Fr σ s.env G H ρ (s.env.set i (some (.d x))) (upd G a o) H ρ := by
  obtain ⟨w1, w2, w3, w4⟩ := r.ownB ⟨i, y, e, ho, ev⟩
  have gg : Same G (upd G a o) := same_upd w2
  have f : Fr σ s.env G H ρ (s.env.set i (some (.d x))) (upd G a o) H ρ := by
    refine ⟨gg, fun _ _ h _ _ => h, fun _ h => h, fun c h => ?_, ⟨[], by simp, fun _ h => by cases h⟩, fun c h => ?_⟩
    · by_cases hc : c = a
      · subst hc; exact .inr (.inr ⟨i, y, e, ho, ev⟩)
      · rw [upd_ne hc] at h; exact .inl h
    · obtain ⟨j, z, h1, h2, h3⟩ := h
      rcases set_get h1 with ⟨rfl, q⟩ | ⟨_, q⟩
      · cases q; cases h2
      · exact ⟨j, z, q, h2, h3⟩
  refine ⟨⟨r.leOf f, fun c u h => ?_, r.cells.go hR gg (fun c u h ht => gg _ _ (r.cells.tups c u h ht)) fun c hc => ⟨rfl, ?_⟩, by rw [List.length_set]; exact r.el, fun j z h1 => ?_, fun j k z t c h1 h2 h3 h4 h5 h6 => ?_⟩, f⟩
  · by_cases hc : c = a
    · subst hc; rw [upd_same] at h; cases h; exact ha
    · rw [upd_ne hc] at h; exact r.sub c u h
  · rw [upd_ne fun q => w3 (by rw [← q]; exact hc)]
    exact (r.cells.some hc).2
  · rcases set_get h1 with ⟨rfl, q⟩ | ⟨ne, q⟩
    · cases q
      exact ⟨_, ev, hx⟩
    · obtain ⟨v, h2, h3⟩ := r.env j z q
      refine ⟨v, h2, h3.go hR gg (List.prefix_refl _) fun c ec hz => ?_⟩
      subst ec
      obtain ⟨_, v2, v3, _⟩ := r.ownB ⟨j, z, q, hz, h2⟩
      exact ⟨rfl, by rw [upd_ne fun t => ne (r.sep i j y z a e q ho hz ev (by rw [← t]; exact h2))]; exact v2, v3⟩
  · rcases set_get h1 with ⟨rfl, q⟩ | ⟨_, q⟩
    · cases q; cases h3
    · rcases set_get h2 with ⟨rfl, q'⟩ | ⟨_, q'⟩
      · cases q'; cases h4
      · exact r.sep j k z t c q q' h3 h4 h5 h6
/-- an owned thing is written -/
theorem Rel.write (hR : RMono R) (r : Rel K R b G ρ σ H s) {i : Nat} {y z : Sl} {o : HO} {a : Addr} (e : s.env[i]? = some (some y)) (ho : y.own = true) (ev : σ[i]? = some (some (.ref a))) (hz : z.own = true) (hnt : isTupH o = false)
    (hx : b.H a = none → G a = none → a ∉ ρ → SlotR K R b G ρ (upd H a o) (.ref a) z) : Rel K R b G ρ σ (upd H a o) ⟨s.env.set i (some z), s.cs⟩ ∧ Fr σ s.env G H ρ (s.env.set i (some z)) G (upd H a o) ρ := by
  obtain ⟨w1, w2, w3, w4⟩ := r.ownB ⟨i, y, e, ho, ev⟩
  have f : Fr σ s.env G H ρ (s.env.set i (some z)) G (upd H a o) ρ := by
    refine ⟨fun _ _ h => h, fun c u h n no => ?_, fun c h => ?_, fun c h => .inl h, ⟨[], by simp, fun _ h => by cases h⟩, fun c h => ?_⟩
    · rw [upd_ne fun q => no (by rw [q]; exact ⟨i, y, e, ho, ev⟩)]; exact h
    · by_cases hc : c = a
      · subst hc; rw [upd_same]; exact nofun
      · rw [upd_ne hc]; exact h
    · obtain ⟨j, t, h1, h2, h3⟩ := h
      rcases set_get h1 with ⟨rfl, q⟩ | ⟨_, q⟩
      · rw [ev] at h3; cases h3; exact ⟨i, y, e, ho, ev⟩
      · exact ⟨j, t, q, h2, h3⟩
  refine ⟨⟨r.leOf f, fun c u h => ?_, r.cells.go hR (fun _ _ h => h) (fun c u h ht => by
    by_cases hc : c = a
    · subst hc; rw [upd_same] at h; cases h; rw [hnt] at ht; cases ht
    · rw [upd_ne hc] at h; exact r.cells.tups c u h ht) fun c hc => ⟨upd_ne fun q => w3 (by rw [← q]; exact hc), (r.cells.some hc).2⟩, by rw [List.length_set]; exact r.el, fun j t h1 => ?_, fun j k t u c h1 h2 h3 h4 h5 h6 => ?_⟩, f⟩
  · rw [upd_ne (fun q => by rw [q, w2] at h; cases h)]
    exact r.sub c u h
  · rcases set_get h1 with ⟨rfl, q⟩ | ⟨ne, q⟩
    · cases q
      exact ⟨_, ev, hx w1 w2 w3⟩
    · obtain ⟨v, h2, h3⟩ := r.env j t q
      refine ⟨v, h2, h3.go hR (fun _ _ h => h) (List.prefix_refl _) fun c ec ht => ?_⟩
      subst ec
      obtain ⟨_, v2, v3, _⟩ := r.ownB ⟨j, t, q, ht, h2⟩
      exact ⟨upd_ne fun q' => ne (r.sep i j y t a e q ho ht ev (by rw [← q']; exact h2)), v2, v3⟩
  · rcases set_get h1 with ⟨rfl, q⟩ | ⟨_, q⟩
    · rcases set_get h2 with ⟨rfl, q'⟩ | ⟨_, q'⟩
      · rfl
      · exact r.sep i k y u c e q' ho h4 h5 h6
    · rcases set_get h2 with ⟨rfl, q'⟩ | ⟨_, q'⟩
      · exact r.sep j i t y c q e h3 ho h5 h6
      · exact r.sep j k t u c q q' h3 h4 h5 h6
/-- a slot takes a value -/
theorem Rel.setD (r : Rel K R b G ρ σ H s) (i : Nat) {v : V} {x : D} (h : RD K R G ρ v x) : Rel K R b G ρ (σ.set i (some v)) H ⟨s.env.set i (some (.d x)), s.cs⟩ := by
  refine ⟨r.le, r.sub, r.cells, by rw [List.length_set, List.length_set]; exact r.el, fun j z h1 => ?_, fun j k z t c h1 h2 h3 h4 h5 h6 => ?_⟩
  · rcases set_get h1 with ⟨rfl, q⟩ | ⟨ne, q⟩
    · cases q
      refine ⟨v, ?_, h⟩
      have l1 : i < s.env.length := by have := (List.getElem?_eq_some_iff.mp h1).1; rwa [List.length_set] at this
      rw [List.getElem?_set_self (by rw [← r.el]; exact l1)]
    · obtain ⟨w, h2, h3⟩ := r.env j z q
      exact ⟨w, by rw [set_off ne]; exact h2, h3⟩
  · rcases set_get h1 with ⟨rfl, q⟩ | ⟨n1, q⟩
    · cases q; cases h3
    · rcases set_get h2 with ⟨rfl, q'⟩ | ⟨n2, q'⟩
      · cases q'; cases h4
      · rw [set_off n1] at h5
        rw [set_off n2] at h6
        exact r.sep j k z t c q q' h3 h4 h5 h6
theorem Rel.setO (r : Rel K R b G ρ σ H s) (i : Nat) {a : Addr} {x : Sl} (h : SlotR K R b G ρ H (.ref a) x) (hx : x.own = true) (n : ¬ Own s.env σ a) : Rel K R b G ρ (σ.set i (some (.ref a))) H ⟨s.env.set i (some x), s.cs⟩ := by
  refine ⟨r.le, r.sub, r.cells, by rw [List.length_set, List.length_set]; exact r.el, fun j z h1 => ?_, fun j k z t c h1 h2 h3 h4 h5 h6 => ?_⟩
  · rcases set_get h1 with ⟨rfl, q⟩ | ⟨ne, q⟩
    · cases q
      refine ⟨.ref a, ?_, h⟩
      have l1 : i < s.env.length := by have := (List.getElem?_eq_some_iff.mp h1).1; rwa [List.length_set] at this
      rw [List.getElem?_set_self (by rw [← r.el]; exact l1)]
    · obtain ⟨w, h2, h3⟩ := r.env j z q
      exact ⟨w, by rw [set_off ne]; exact h2, h3⟩
  · rcases set_get h1 with ⟨rfl, q⟩ | ⟨n1, q⟩
    · rcases set_get h2 with ⟨rfl, q'⟩ | ⟨n2, q'⟩
      · rfl
      · cases q
        have l1 : i < s.env.length := by have := (List.getElem?_eq_some_iff.mp h1).1; rwa [List.length_set] at this
        rw [List.getElem?_set_self (by rw [← r.el]; exact l1)] at h5
        cases h5
        rw [set_off n2] at h6
        exact absurd ⟨k, t, q', h4, h6⟩ n
    · rcases set_get h2 with ⟨rfl, q'⟩ | ⟨n2, q'⟩
      · have l1 : i < s.env.length := by have := (List.getElem?_eq_some_iff.mp h2).1; rwa [List.length_set] at this
        rw [List.getElem?_set_self (by rw [← r.el]; exact l1)] at h6
        cases h6
        rw [set_off n1] at h5
        exact absurd ⟨j, z, q, h3, h5⟩ n
      · rw [set_off n1] at h5
        rw [set_off n2] at h6
        exact r.sep j k z t c q q' h3 h4 h5 h6
/-- a slot is forgotten -/
theorem Rel.drop (r : Rel K R b G ρ σ H s) {e' : Env} {σ' : L2.St} (hl : e'.length = σ'.length) (h : ∀ (i : Nat) (x : Sl), e'[i]? = some (some x) → s.env[i]? = some (some x) ∧ σ'[i]? = σ[i]?) : Rel K R b G ρ σ' H ⟨e', s.cs⟩ := by
  refine ⟨r.le, r.sub, r.cells, hl, fun j z h1 => ?_, fun j k z t c h1 h2 h3 h4 h5 h6 => ?_⟩
  · obtain ⟨q1, q2⟩ := h j z h1
    obtain ⟨v, e1, e2⟩ := r.env j z q1
    exact ⟨v, q2.trans e1, e2⟩
  · obtain ⟨q1, q2⟩ := h j z h1
    obtain ⟨q3, q4⟩ := h k t h2
    exact r.sep j k z t c q1 q3 h3 h4 (q2 ▸ h5) (q4 ▸ h6)
/-- a cell is written -/
theorem Rel.putC (hR : RMono R) (r : Rel K R b G ρ σ H s) {i : Nat} {a : Addr} {xs : List V} {ds : List D} (ea : ρ[i]? = some a) (h : RDs K R G ρ xs ds) :
    Rel K R b G ρ σ (upd H a (.lst xs)) ⟨s.env, s.cs.set i ds⟩ := by
  have hm := List.mem_of_getElem? ea
  obtain ⟨w1, w2⟩ := r.cells.some hm
  have bi : i < b.ρ.length ∨ b.H a = none := by
    obtain ⟨t, et, ht⟩ := r.le.pre
    by_cases hi : i < b.ρ.length
    · exact .inl hi
    · rw [et, List.getElem?_append_right (by omega)] at ea
      exact .inr (ht a (List.mem_of_getElem? ea))
  have hno : ∀ c, Own s.env σ c → c ≠ a := fun c h q => (r.ownB h).2.2.1 (by rw [q]; exact hm)
  refine ⟨⟨r.le.gg, fun c o h n => ?_, fun c h => ?_, r.le.gnew, r.le.pre⟩, fun c u h => ?_, ⟨fun c u h ht => by
    by_cases hc : c = a
    · subst hc; rw [upd_same] at h; cases h; cases ht
    · rw [upd_ne hc] at h; exact r.cells.tups c u h ht, r.cells.nd, by rw [List.length_set]; exact r.cells.cl, fun j c es h1 h2 => ?_⟩, r.el, fun j x e => ?_, r.sep⟩
  · have ne : c ≠ a := fun q => by
      subst q
      obtain ⟨t, et, ht⟩ := r.le.pre
      rcases bi with bi | bi
      · rw [et, List.getElem?_append_left bi] at ea
        exact n (List.mem_of_getElem? ea)
      · rw [bi] at h; cases h
    rw [upd_ne ne]
    exact r.le.keep c o h n
  · by_cases hc : c = a
    · subst hc; rw [upd_same]; exact nofun
    · rw [upd_ne hc]; exact r.le.there c h
  · rw [upd_ne (fun q => by rw [q, w2] at h; cases h)]
    exact r.sub c u h
  · by_cases hij : i = j
    · subst hij
      rw [ea] at h1
      cases h1
      rcases set_get h2 with ⟨_, q⟩ | ⟨q, _⟩
      · subst q
        exact ⟨w2, xs, upd_same, h⟩
      · exact absurd rfl q
    · rw [set_off hij] at h2
      obtain ⟨q1, ys, q2, q3⟩ := r.cells.at_ j c es h1 h2
      have ne : c ≠ a := fun q => by
        subst q
        obtain ⟨l1, e1⟩ := List.getElem?_eq_some_iff.mp h1
        obtain ⟨l2, e2⟩ := List.getElem?_eq_some_iff.mp ea
        exact hij ((List.getElem_inj r.cells.nd).mp (e2.trans e1.symm))
      exact ⟨q1, ys, by rw [upd_ne ne]; exact q2, q3⟩
  · obtain ⟨v, h1, h2⟩ := r.env j x e
    refine ⟨v, h1, h2.go hR (fun _ _ h => h) (List.prefix_refl _) fun c ec hx => ?_⟩
    subst ec
    have ow : Own s.env σ c := ⟨j, x, e, hx, h1⟩
    obtain ⟨_, v2, v3, _⟩ := r.ownB ow
    exact ⟨upd_ne (hno c ow), v2, v3⟩
end
end PL
end

section
namespace PL
open PySem PySem.Spec PyProof.Rows L2 Ev
abbrev FD := S → Option (D × S)
abbrev FO := S → Option (List D × S)
abbrev FT := S → Option (Bool × S)
section
variable (K : PySem.W.Frag) (R : OR)
/-- what follows a value -/
def KD (b : Bs) (σ : L2.St) (e : Env) (G H : Hp) (ρ : List Addr) (s' : S) (r : D) (Q : VK) : Prop :=
  ∀ v G' ρ' H', Rel K R b G' ρ' σ H' s' → Fr σ e G H ρ s'.env G' H' ρ' → RD K R G' ρ' v r → Q v H'
/-- what follows a new list that nobody else has -/
def KO (b : Bs) (σ : L2.St) (e : Env) (G H : Hp) (ρ : List Addr) (s' : S) (r : List D) (Q : VK) : Prop :=
  ∀ a xs G' ρ' H', Rel K R b G' ρ' σ H' s' → Fr σ e G H ρ s'.env G' H' ρ' → b.H a = none → H a = none → G' a = none → a ∉ ρ' → ¬ Own s'.env σ a → H' a = some (.lst xs) → RDs K R G' ρ' xs r → Q (.ref a) H'
def KL (b : Bs) (σ : L2.St) (e : Env) (G H : Hp) (ρ : List Addr) (s' : S) (r : List D) (Q : List V → Hp → Prop) : Prop :=
  ∀ vs G' ρ' H', Rel K R b G' ρ' σ H' s' → Fr σ e G H ρ s'.env G' H' ρ' → RDs K R G' ρ' vs r → Q vs H'
def KT (b : Bs) (σ : L2.St) (e : Env) (G H : Hp) (ρ : List Addr) (s' : S) (Q : Hp → Prop) : Prop :=
  ∀ G' ρ' H', Rel K R b G' ρ' σ H' s' → Fr σ e G H ρ s'.env G' H' ρ' → Q H'
def tD (f : FD) : TE := fun σ H Q => ∃ b G ρ s r s', Rel K R b G ρ σ H s ∧ f s = some (r, s') ∧ KD K R b σ s.env G H ρ s' r Q
def tO (f : FO) : TE := fun σ H Q => ∃ b G ρ s r s', Rel K R b G ρ σ H s ∧ f s = some (r, s') ∧ KO K R b σ s.env G H ρ s' r Q
def tL (f : FO) : TA := fun σ H Q => ∃ b G ρ s r s', Rel K R b G ρ σ H s ∧ f s = some (r, s') ∧ KL K R b σ s.env G H ρ s' r Q
def tTs (f : FT) : TT := fun σ H Q => ∃ b G ρ s r s', Rel K R b G ρ σ H s ∧ f s = some (r, s') ∧ KT K R b σ s.env G H ρ s' (Q r)
/-- operators by values -/
def rD2 (g : D → D → Option D) : R2 := fun x y H Q => ∃ b G ρ σ s dx dy z, Rel K R b G ρ σ H s ∧ RD K R G ρ x dx ∧ RD K R G ρ y dy ∧ g dx dy = some z ∧ KD K R b σ s.env G H ρ s z Q
def rD1 (g : D → Option D) : V → Hp → VK → Prop := fun x H Q => ∃ b G ρ σ s dx z, Rel K R b G ρ σ H s ∧ RD K R G ρ x dx ∧ g dx = some z ∧ KD K R b σ s.env G H ρ s z Q
def rDL (g : List D → Option D) : List V → Hp → VK → Prop := fun xs H Q => ∃ b G ρ σ s ds z, Rel K R b G ρ σ H s ∧ RDs K R G ρ xs ds ∧ g ds = some z ∧ KD K R b σ s.env G H ρ s z Q
def rOL (g : List D → Option (List D)) : List V → Hp → VK → Prop := fun xs H Q => ∃ b G ρ σ s ds z, Rel K R b G ρ σ H s ∧ RDs K R G ρ xs ds ∧ g ds = some z ∧ KO K R b σ s.env G H ρ s z Q
def rO2 (g : D → D → Option (List D)) : R2 := fun x y H Q => ∃ b G ρ σ s dx dy z, Rel K R b G ρ σ H s ∧ RD K R G ρ x dx ∧ RD K R G ρ y dy ∧ g dx dy = some z ∧ KO K R b σ s.env G H ρ s z Q
end
/-! ### what is computed -/
def fVar (i : Nat) : FD := fun s => match s.env[i]? with
  | some (some (.d x)) => some (x, s)
  | some (some (.ol ds)) => some (.lst ds, ⟨s.env.set i (some (.d (.lst ds))), s.cs⟩)
  | some (some (.od ks ds)) => some (.dic ks ds, ⟨s.env.set i (some (.d (.dic ks ds))), s.cs⟩)
  | _ => none
def fC (x : D) : FD := fun s => some (x, s)
def fBin (g : D → D → Option D) (fa fb : FD) : FD := fun s => (fa s).bind fun p => (fb p.2).bind fun q => (g p.1 q.1).map fun z => (z, q.2)
def fBinO (g : D → D → Option (List D)) (fa fb : FD) : FO := fun s => (fa s).bind fun p => (fb p.2).bind fun q => (g p.1 q.1).map fun z => (z, q.2)
def fUn (g : D → Option D) (fa : FD) : FD := fun s => (fa s).bind fun p => (g p.1).map fun z => (z, p.2)
def fNil : FO := fun s => some ([], s)
def fCons (fa : FD) (fr : FO) : FO := fun s => (fa s).bind fun p => (fr p.2).bind fun q => some (p.1 :: q.1, q.2)
def fTup (fl : FO) : FD := fun s => (fl s).bind fun p => if p.1.length ≤ 100000 then some (.tup p.1, p.2) else none
def fLstO (fl : FO) : FO := fun s => (fl s).bind fun p => if p.1.length ≤ 100000 then some p else none
/-- a new list, read from now on -/
def fFz (fo : FO) : FD := fun s => (fo s).map fun p => (.lst p.1, p.2)
def fIf (ft : FT) (fa fb : FD) : FD := fun s => (ft s).bind fun p => if p.1 = true then fa p.2 else fb p.2
def fIfO (ft : FT) (fa fb : FO) : FO := fun s => (ft s).bind fun p => if p.1 = true then fa p.2 else fb p.2
def fTst (fa : FD) : FT := fun s => (fa s).bind fun p => match p.1 with
  | .bl c => some (c, p.2)
  | _ => none
def fAnd (fa fb : FT) : FT := fun s => (fa s).bind fun p => if p.1 = true then fb p.2 else some (false, p.2)
def fOr (fa fb : FT) : FT := fun s => (fa s).bind fun p => if p.1 = true then some (true, p.2) else fb p.2
def fNot (fa : FT) : FT := fun s => (fa s).map fun p => (!p.1, p.2)
def fAndV (fa fb : FD) : FD := fun s => (fa s).bind fun p => match p.1 with
  | .bl true => fb p.2
  | .bl false => some (.bl false, p.2)
  | _ => none
def fOrV (fa fb : FD) : FD := fun s => (fa s).bind fun p => match p.1 with
  | .bl false => fb p.2
  | .bl true => some (.bl true, p.2)
  | _ => none
def fNotV (fa : FD) : FD := fun s => (fa s).bind fun p => match p.1 with
  | .bl c => some (.bl (!c), p.2)
  | _ => none
def fCall (g : List D → Option D) (fl : FO) : FD := fun s => (fl s).bind fun p => (g p.1).map fun z => (z, p.2)
def fCallO (g : List D → Option (List D)) (fl : FO) : FO := fun s => (fl s).bind fun p => (g p.1).map fun z => (z, p.2)
/-- a < b < c -/
def fChain (g g' : D → D → Option D) (fa fb fc : FD) : FD := fun s => (fa s).bind fun p => (fb p.2).bind fun q => (g p.1 q.1).bind fun z => match z with
  | .bl true => (fc q.2).bind fun t => (g' q.1 t.1).bind fun y => match y with
    | .bl c => some (.bl c, t.2)
    | _ => none
  | .bl false => some (.bl false, q.2)
  | _ => none
section
variable {X : Cx} {R : OR} {e a c a' : Expr} {es : List Expr} {rest : List Expr} {t ta tb : TE} {fa fb fc f : FD} {fo fl : FO} {ft fu : FT} {pos : Pos}
theorem pd_w (h : PE X e t) (k : ∀ σ H Q, ta σ H Q → t σ H Q) : PE X e ta := ⟨fun pins s σ H Q I q => h.run pins s σ H Q I (k σ H Q q)⟩
theorem pt_w {tt tu : TT} (h : PT X e tt) (k : ∀ σ H Q, tu σ H Q → tt σ H Q) : PT X e tu := ⟨fun pins s σ H Q I q => h.run pins s σ H Q I (k σ H Q q)⟩
theorem pw_w {tt tu : TT} (h : PW X e tt) (k : ∀ σ H Q, tu σ H Q → tt σ H Q) : PW X e tu := ⟨fun wh pins s σ H Q I q => h.run wh pins s σ H Q I (k σ H Q q)⟩
theorem pa_w {tt tu : TA} (h : PA X es tt) (k : ∀ σ H Q, tu σ H Q → tt σ H Q) : PA X es tu := ⟨fun ps pins s σ H Q I q => h.run ps pins s σ H Q I (k σ H Q q)⟩
theorem bind_some' {α β : Type} {o : Option α} {k : α → Option β} {y : β} (h : o.bind k = some y) : ∃ x, o = some x ∧ k x = some y := Option.bind_eq_some_iff.mp h
theorem map_some' {α β : Type} {o : Option α} {k : α → β} {y : β} (h : o.map k = some y) : ∃ x, o = some x ∧ k x = y := Option.map_eq_some_iff.mp h
variable (hR : RMono R)
include hR
theorem pd_var {i : Nat} {x : Str} (hN : X.N[i]? = some x) (hv : Vis X.env.scope x) (hd : (x == ("__debug__" : Str)) = false := by decide) (hcd : (x == ("__classdict__" : Str)) = false := by decide) : PE X (.Name x pos) (tD X.K R (fVar i)) := by
  refine pd_w (pe_var hN hv hd hcd) fun σ H Q ⟨b, G, ρ, s, r, s', rl, e, k⟩ => ?_
  unfold fVar at e
  split at e
  · rename_i x q
    cases e
    obtain ⟨v, h1, h2⟩ := rl.env i _ q
    exact ⟨v, h1, k v G ρ H rl .refl h2⟩
  · rename_i ds q
    cases e
    obtain ⟨v, h1, a, xs, rfl, h3, h4, h5, h6, h7⟩ := rl.env i _ q
    have hx : RD X.K R (upd G a (.lst xs)) ρ (.ref a) (.lst ds) := .lst upd_same (h7.mono hR (same_upd h4) (List.prefix_refl _))
    obtain ⟨r1, f1⟩ := rl.freeze hR q rfl h1 h6 hx
    exact ⟨_, h1, k _ _ _ _ r1 f1 hx⟩
  · rename_i ks ds q
    cases e
    obtain ⟨v, h1, a, xs, rfl, h3, h4, h5, h6, h6', h7⟩ := rl.env i _ q
    have hx : RD X.K R (upd G a (.dK (ks.zip xs))) ρ (.ref a) (.dic ks ds) := .dic upd_same h6' (h7.mono hR (same_upd h4) (List.prefix_refl _))
    obtain ⟨r1, f1⟩ := rl.freeze hR q rfl h1 h6 hx
    exact ⟨_, h1, k _ _ _ _ r1 f1 hx⟩
  · cases e
omit hR in
theorem pd_c {v : V} {x : D} (h : PE X e (tC v)) (hx : ∀ G ρ, RD X.K R G ρ v x) : PE X e (tD X.K R (fC x)) := by
  refine pd_w h fun σ H Q ⟨b, G, ρ, s, r, s', rl, e, k⟩ => ?_
  cases e
  exact k v G ρ H rl .refl (hx G ρ)
omit hR in
theorem pd_int {i j} : PE X (.Constant (.int i) j pos) (tD X.K R (fC (.int i))) := pd_c pe_int fun _ _ => .int i
omit hR in
theorem pd_bl {i j} : PE X (.Constant (.bool i) j pos) (tD X.K R (fC (.bl i))) := pd_c pe_bl fun _ _ => .bl i
omit hR in
theorem pd_non {j} : PE X (.Constant .none j pos) (tD X.K R (fC .non)) := pd_c pe_non fun _ _ => .non
omit hR in
theorem pd_str {x j} : PE X (.Constant (.str x) j pos) (tD X.K R (fC (.str x))) := pd_c pe_str fun _ _ => .str x
theorem pd_bin {op : Operator} {g : D → D → Option D} (ho : OpR X (binaryOp op) (rD2 X.K R g)) (ha : PE X a (tD X.K R fa)) (hb : PE X c (tD X.K R fb)) : PE X (.BinOp a op c pos) (tD X.K R (fBin g fa fb)) := by
  refine pd_w (pe_op ho ha hb) fun σ H Q ⟨b, G, ρ, s, r, s', rl, e, k⟩ => ?_
  obtain ⟨⟨x, s1⟩, e1, e⟩ := bind_some' e
  obtain ⟨⟨y, s2⟩, e2, e⟩ := bind_some' e
  obtain ⟨z, e3, e⟩ := map_some' e
  cases e
  refine ⟨b, G, ρ, s, x, s1, rl, e1, fun v G1 ρ1 H1 r1 f1 d1 => ⟨b, G1, ρ1, s1, y, s2, r1, e2, fun w G2 ρ2 H2 r2 f2 d2 => ?_⟩⟩
  exact ⟨b, G2, ρ2, σ, s2, x, y, _, r2, d1.mono hR f2.gg f2.prf, d2, e3, fun u G3 ρ3 H3 r3 f3 d3 => k u G3 ρ3 H3 r3 ((f1.trans f2).trans f3) d3⟩
theorem pd_binO {op : Operator} {g : D → D → Option (List D)} (ho : OpR X (binaryOp op) (rO2 X.K R g)) (ha : PE X a (tD X.K R fa)) (hb : PE X c (tD X.K R fb)) : PE X (.BinOp a op c pos) (tO X.K R (fBinO g fa fb)) := by
  refine pd_w (pe_op ho ha hb) fun σ H Q ⟨b, G, ρ, s, r, s', rl, e, k⟩ => ?_
  obtain ⟨⟨x, s1⟩, e1, e⟩ := bind_some' e
  obtain ⟨⟨y, s2⟩, e2, e⟩ := bind_some' e
  obtain ⟨z, e3, e⟩ := map_some' e
  cases e
  refine ⟨b, G, ρ, s, x, s1, rl, e1, fun v G1 ρ1 H1 r1 f1 d1 => ⟨b, G1, ρ1, s1, y, s2, r1, e2, fun w G2 ρ2 H2 r2 f2 d2 => ?_⟩⟩
  refine ⟨b, G2, ρ2, σ, s2, x, y, _, r2, d1.mono hR f2.gg f2.prf, d2, e3, fun u xs G3 ρ3 H3 r3 f3 n0 n1 n2 n3 n4 n5 d3 => k u xs G3 ρ3 H3 r3 ((f1.trans f2).trans f3) n0 ?_ n2 n3 n4 n5 d3⟩
  cases q : H u with
  | none => rfl
  | some o => exact absurd n1 ((f1.trans f2).there u (some_ne q))
theorem pd_un {op : UnaryOp} {g : D → Option D} (ho : UnR X (unaryOp op) (rD1 X.K R g)) (ha : PE X a (tD X.K R fa)) : PE X (.UnaryOp op a pos) (tD X.K R (fUn g fa)) := by
  refine pd_w (pe_un ho ha) fun σ H Q ⟨b, G, ρ, s, r, s', rl, e, k⟩ => ?_
  obtain ⟨⟨x, s1⟩, e1, e⟩ := bind_some' e
  obtain ⟨z, e3, e⟩ := map_some' e
  cases e
  refine ⟨b, G, ρ, s, x, s1, rl, e1, fun v G1 ρ1 H1 r1 f1 d1 => ?_⟩
  exact ⟨b, G1, ρ1, σ, s1, x, _, r1, d1, e3, fun u G3 ρ3 H3 r3 f3 d3 => k u G3 ρ3 H3 r3 (f1.trans f3) d3⟩
theorem pd_cmp {op : CmpOp} {g : D → D → Option D} (ho : OpR X (compareOp op) (rD2 X.K R g)) (ha : PE X a (tD X.K R fa)) (hb : PE X c (tD X.K R fb)) (hm : behindInMarks op c = false) : PE X (.Compare a [op] [c] pos) (tD X.K R (fBin g fa fb)) := by
  refine pd_w (pe_cmpR ho ha hb hm) fun σ H Q ⟨b, G, ρ, s, r, s', rl, e, k⟩ => ?_
  obtain ⟨⟨x, s1⟩, e1, e⟩ := bind_some' e
  obtain ⟨⟨y, s2⟩, e2, e⟩ := bind_some' e
  obtain ⟨z, e3, e⟩ := map_some' e
  cases e
  refine ⟨b, G, ρ, s, x, s1, rl, e1, fun v G1 ρ1 H1 r1 f1 d1 => ⟨b, G1, ρ1, s1, y, s2, r1, e2, fun w G2 ρ2 H2 r2 f2 d2 => ?_⟩⟩
  exact ⟨b, G2, ρ2, σ, s2, x, y, _, r2, d1.mono hR f2.gg f2.prf, d2, e3, fun u G3 ρ3 H3 r3 f3 d3 => k u G3 ρ3 H3 r3 ((f1.trans f2).trans f3) d3⟩
/-- a test of a value -/
theorem RD.bl_v {K : PySem.W.Frag} {G : Hp} {ρ : List Addr} {v : V} {c : Bool} (h : RD K R G ρ v (.bl c)) : v = .bl c := by cases h; rfl
theorem pt_cmp {op : CmpOp} {g : D → D → Option D} (ho : OpR X (compareOp op) (rD2 X.K R g)) (ha : PE X a (tD X.K R fa)) (hb : PE X c (tD X.K R fb)) (hm : behindInMarks op c = false) : PT X (.Compare a [op] [c] pos) (tTs X.K R (fTst (fBin g fa fb))) := by
  refine pt_w (pt_cmpR ho ha hb hm) fun σ H Q ⟨b, G, ρ, s, r, s', rl, e, k⟩ => ?_
  obtain ⟨⟨z, s2'⟩, e, e4⟩ := bind_some' e
  obtain ⟨⟨x, s1⟩, e1, e⟩ := bind_some' e
  obtain ⟨⟨y, s2⟩, e2, e⟩ := bind_some' e
  obtain ⟨z', e3, e⟩ := map_some' e
  cases e
  dsimp only at e4
  split at e4
  · rename_i cc
    cases e4
    refine ⟨b, G, ρ, s, x, s1, rl, e1, fun v G1 ρ1 H1 r1 f1 d1 => ⟨b, G1, ρ1, s1, y, _, r1, e2, fun w G2 ρ2 H2 r2 f2 d2 => ?_⟩⟩
    exact ⟨b, G2, ρ2, σ, _, x, y, _, r2, d1.mono hR f2.gg f2.prf, d2, e3, fun u G3 ρ3 H3 r3 f3 d3 => ⟨_, RD.bl_v hR d3, k G3 ρ3 H3 r3 ((f1.trans f2).trans f3)⟩⟩
  · cases e4
omit hR in
theorem pd_tst (h : PE X e (tD X.K R f)) (he : ∀ whole, isTrue e X.env whole = (do let v ← whole; standAt e.pos; holding [v] (truthy v)) := by intro _; rfl) : PT X e (tTs X.K R (fTst f)) := by
  refine pt_w (pt_val h he) fun σ H Q ⟨b, G, ρ, s, r, s', rl, e, k⟩ => ?_
  obtain ⟨⟨z, s2'⟩, e, e4⟩ := bind_some' e
  dsimp only at e4
  split at e4
  · cases e4
    exact ⟨b, G, ρ, s, _, _, rl, e, fun v G1 ρ1 H1 r1 f1 d1 => ⟨_, by cases d1; rfl, k G1 ρ1 H1 r1 f1⟩⟩
  · cases e4
omit hR in
theorem pd_not (h : PT X a (tTs X.K R ft)) : PT X (.UnaryOp .Not a pos) (tTs X.K R (fNot ft)) := by
  refine pt_w (pt_not h) fun σ H Q ⟨b, G, ρ, s, r, s', rl, e, k⟩ => ?_
  obtain ⟨⟨z, s1⟩, e1, e⟩ := map_some' e
  cases e
  exact ⟨b, G, ρ, s, z, s1, rl, e1, k⟩
omit hR in
theorem pdw_and1 (h : PT X a (tTs X.K R ft)) : PW X (.BoolOp .And [a] pos) (tTs X.K R ft) := pw_and1 h
omit hR in
theorem pdw_or1 (h : PT X a (tTs X.K R ft)) : PW X (.BoolOp .Or [a] pos) (tTs X.K R ft) := pw_or1 h
omit hR in
theorem pdw_and (h : PT X a (tTs X.K R ft)) (h2 : PW X (.BoolOp .And (c :: rest) pos) (tTs X.K R fu)) : PW X (.BoolOp .And (a :: c :: rest) pos) (tTs X.K R (fAnd ft fu)) := by
  refine pw_w (pw_and h h2) fun σ H Q ⟨b, G, ρ, s, r, s', rl, e, k⟩ => ?_
  obtain ⟨⟨z, s1⟩, e1, e⟩ := bind_some' e
  refine ⟨b, G, ρ, s, z, s1, rl, e1, fun G1 ρ1 H1 r1 f1 => ?_⟩
  cases z with
  | true => exact ⟨b, G1, ρ1, s1, r, s', r1, e, fun G2 ρ2 H2 r2 f2 => k G2 ρ2 H2 r2 (f1.trans f2)⟩
  | false => cases e; exact k G1 ρ1 H1 r1 f1
omit hR in
theorem pdw_or (h : PT X a (tTs X.K R ft)) (h2 : PW X (.BoolOp .Or (c :: rest) pos) (tTs X.K R fu)) : PW X (.BoolOp .Or (a :: c :: rest) pos) (tTs X.K R (fOr ft fu)) := by
  refine pw_w (pw_or h h2) fun σ H Q ⟨b, G, ρ, s, r, s', rl, e, k⟩ => ?_
  obtain ⟨⟨z, s1⟩, e1, e⟩ := bind_some' e
  refine ⟨b, G, ρ, s, z, s1, rl, e1, fun G1 ρ1 H1 r1 f1 => ?_⟩
  cases z with
  | false => exact ⟨b, G1, ρ1, s1, r, s', r1, e, fun G2 ρ2 H2 r2 f2 => k G2 ρ2 H2 r2 (f1.trans f2)⟩
  | true => cases e; exact k G1 ρ1 H1 r1 f1
omit hR in
theorem pd_one {op} (h : PE X a (tD X.K R f)) : PE X (.BoolOp op [a] pos) (tD X.K R f) := pe_one h
omit hR in
theorem pd_and (h : PE X a (tD X.K R fa)) (h2 : PE X (.BoolOp .And (c :: rest) pos) (tD X.K R fb)) : PE X (.BoolOp .And (a :: c :: rest) pos) (tD X.K R (fAndV fa fb)) := by
  refine pd_w (pe_and h h2) fun σ H Q ⟨b, G, ρ, s, r, s', rl, e, k⟩ => ?_
  obtain ⟨⟨z, s1⟩, e1, e⟩ := bind_some' e
  refine ⟨b, G, ρ, s, z, s1, rl, e1, fun v G1 ρ1 H1 r1 f1 d1 => ?_⟩
  dsimp only at e
  split at e
  · cases d1
    exact ⟨true, rfl, ⟨b, G1, ρ1, s1, r, s', r1, e, fun v G2 ρ2 H2 r2 f2 d2 => k v G2 ρ2 H2 r2 (f1.trans f2) d2⟩⟩
  · cases d1
    cases e
    exact ⟨false, rfl, k _ G1 ρ1 H1 r1 f1 (.bl false)⟩
  · cases e
omit hR in
theorem pd_or (h : PE X a (tD X.K R fa)) (h2 : PE X (.BoolOp .Or (c :: rest) pos) (tD X.K R fb)) : PE X (.BoolOp .Or (a :: c :: rest) pos) (tD X.K R (fOrV fa fb)) := by
  refine pd_w (pe_or h h2) fun σ H Q ⟨b, G, ρ, s, r, s', rl, e, k⟩ => ?_
  obtain ⟨⟨z, s1⟩, e1, e⟩ := bind_some' e
  refine ⟨b, G, ρ, s, z, s1, rl, e1, fun v G1 ρ1 H1 r1 f1 d1 => ?_⟩
  dsimp only at e
  split at e
  · cases d1
    exact ⟨false, rfl, ⟨b, G1, ρ1, s1, r, s', r1, e, fun v G2 ρ2 H2 r2 f2 d2 => k v G2 ρ2 H2 r2 (f1.trans f2) d2⟩⟩
  · cases d1
    cases e
    exact ⟨true, rfl, k _ G1 ρ1 H1 r1 f1 (.bl true)⟩
  · cases e
omit hR in
theorem pd_notV (h : PE X a (tD X.K R fa)) : PE X (.UnaryOp .Not a pos) (tD X.K R (fNotV fa)) := by
  refine pd_w (pe_not h) fun σ H Q ⟨b, G, ρ, s, r, s', rl, e, k⟩ => ?_
  obtain ⟨⟨z, s1⟩, e1, e⟩ := bind_some' e
  refine ⟨b, G, ρ, s, z, s1, rl, e1, fun v G1 ρ1 H1 r1 f1 d1 => ?_⟩
  dsimp only at e
  split at e
  · rename_i cc
    cases d1
    cases e
    exact ⟨cc, rfl, k _ G1 ρ1 H1 r1 f1 (.bl _)⟩
  · cases e
omit hR in
theorem pd_if (h : PT X c (tTs X.K R ft)) (ha : PE X a (tD X.K R fa)) (hb : PE X a' (tD X.K R fb)) : PE X (.IfExp c a a' pos) (tD X.K R (fIf ft fa fb)) := by
  refine pd_w (pe_ifExp h ha hb) fun σ H Q ⟨b, G, ρ, s, r, s', rl, e, k⟩ => ?_
  obtain ⟨⟨z, s1⟩, e1, e⟩ := bind_some' e
  refine ⟨b, G, ρ, s, z, s1, rl, e1, fun G1 ρ1 H1 r1 f1 => ?_⟩
  cases z with
  | true => exact ⟨b, G1, ρ1, s1, r, s', r1, e, fun v G2 ρ2 H2 r2 f2 d2 => k v G2 ρ2 H2 r2 (f1.trans f2) d2⟩
  | false => exact ⟨b, G1, ρ1, s1, r, s', r1, e, fun v G2 ρ2 H2 r2 f2 d2 => k v G2 ρ2 H2 r2 (f1.trans f2) d2⟩
omit hR in
theorem pdl_nil : PA X [] (tL X.K R fNil) := by
  refine pa_w pa_nil fun σ H Q ⟨b, G, ρ, s, r, s', rl, e, k⟩ => ?_
  cases e
  exact k [] G ρ H rl .refl .nil
theorem pdl_cons (h : PE X e (tD X.K R fa)) (h2 : PA X es (tL X.K R fl)) (hs : starEach (e :: es) X.env = (false, eval e X.env) :: starEach es X.env := by rfl) : PA X (e :: es) (tL X.K R (fCons fa fl)) := by
  refine pa_w (pa_cons h h2 hs) fun σ H Q ⟨b, G, ρ, s, r, s', rl, e, k⟩ => ?_
  obtain ⟨⟨x, s1⟩, e1, e⟩ := bind_some' e
  obtain ⟨⟨xs, s2⟩, e2, e⟩ := bind_some' e
  cases e
  refine ⟨b, G, ρ, s, x, s1, rl, e1, fun v G1 ρ1 H1 r1 f1 d1 => ⟨b, G1, ρ1, s1, xs, s2, r1, e2, fun vs G2 ρ2 H2 r2 f2 d2 => ?_⟩⟩
  exact k _ G2 ρ2 H2 r2 (f1.trans f2) (.cons (d1.mono hR f2.gg f2.prf) d2)
theorem pd_tup {x1} (h : PA X es (tL X.K R fl)) : PE X (.Tuple es x1 pos) (tD X.K R (fTup fl)) := by
  refine pd_w (pe_tup h) fun σ H Q ⟨b, G, ρ, s, r, s', rl, e, k⟩ => ?_
  obtain ⟨⟨xs, s1⟩, e1, e⟩ := bind_some' e
  dsimp only at e
  split at e
  · rename_i hl
    cases e
    refine ⟨b, G, ρ, s, xs, _, rl, e1, fun vs G1 ρ1 H1 r1 f1 d1 => ⟨le_line (by rw [d1.len]; exact hl), fun p hp => ?_⟩⟩
    obtain ⟨r2, f2⟩ := r1.new hR (.tup vs) hp
    exact k _ _ _ _ r2 (f1.trans f2) (.tup (SqT.of upd_same) (d1.mono hR f2.gg f2.prf))
  · cases e
theorem pd_lstO (h : PA X es (tL X.K R fl)) : PE X (.List es pos) (tO X.K R (fLstO fl)) := by
  refine pd_w (pe_lst h) fun σ H Q ⟨b, G, ρ, s, r, s', rl, e, k⟩ => ?_
  obtain ⟨⟨xs, s1⟩, e1, e⟩ := bind_some' e
  dsimp only at e
  split at e
  · rename_i hl
    cases e
    refine ⟨b, G, ρ, s, _, _, rl, e1, fun vs G1 ρ1 H1 r1 f1 d1 => ⟨le_line (by rw [d1.len]; exact hl), fun p hp => ?_⟩⟩
    have gp := r1.sub.free hp
    obtain ⟨r2, f2⟩ := r1.pure hR (G' := G1) (fun _ _ h => h) (r1.sub.trans (same_upd hp)) (same_upd hp) (fun _ h => .inl h) (r1.cells.tups.new (o := .lst vs) hp rfl)
    refine k p vs _ _ _ r2 (f1.trans f2) ?_ ?_ gp (fun q => (r1.cells.some q).1 hp) (fun q => (r1.ownB q).2.2.2 hp) upd_same d1
    · cases z : b.H p with
      | none => rfl
      | some o => exact absurd hp (r1.le.there p (some_ne z))
    · cases z : H p with
      | none => rfl
      | some o => exact absurd hp (f1.there p (some_ne z))
  · cases e
/-- a list that nobody else has, from now on read alone -/
theorem Rel.fz {K : PySem.W.Frag} {b : Bs} {G H : Hp} {ρ : List Addr} {σ : L2.St} {s : S} {a : Addr} {xs : List V} {ds : List D} (r : Rel K R b G ρ σ H s) (h0 : b.H a = none) (h1 : G a = none) (h2 : a ∉ ρ) (h3 : ¬ Own s.env σ a) (h4 : H a = some (.lst xs)) (h5 : RDs K R G ρ xs ds) :
    Rel K R b (upd G a (.lst xs)) ρ σ H s ∧ Same G (upd G a (.lst xs)) ∧ RD K R (upd G a (.lst xs)) ρ (.ref a) (.lst ds) := by
  have gg : Same G (upd G a (.lst xs)) := same_upd h1
  refine ⟨⟨⟨r.le.gg.trans gg, r.le.keep, r.le.there, fun c h => ?_, r.le.pre⟩, fun c o h => ?_, r.cells.go hR gg (fun c u h ht => gg _ _ (r.cells.tups c u h ht)) fun c hc => ⟨rfl, ?_⟩, r.el, fun i x e => ?_, r.sep⟩, gg, .lst upd_same (h5.mono hR gg (List.prefix_refl _))⟩
  · by_cases hc : c = a
    · subst hc; exact .inr h0
    · rw [upd_ne hc] at h; exact r.le.gnew c h
  · by_cases hc : c = a
    · subst hc; rw [upd_same] at h; cases h; exact h4
    · rw [upd_ne hc] at h; exact r.sub c o h
  · rw [upd_ne fun q => h2 (by rw [← q]; exact hc)]
    exact (r.cells.some hc).2
  · obtain ⟨v, e1, e2⟩ := r.env i x e
    refine ⟨v, e1, e2.go hR gg (List.prefix_refl _) fun c ec hx => ?_⟩
    subst ec
    have ow : Own s.env σ c := ⟨i, x, e, hx, e1⟩
    obtain ⟨_, v2, v3, _⟩ := r.ownB ow
    exact ⟨rfl, by rw [upd_ne fun q => h3 (by rw [← q]; exact ow)]; exact v2, v3⟩
theorem pd_fz (h : PE X e (tO X.K R fo)) : PE X e (tD X.K R (fFz fo)) := by
  refine pd_w h fun σ H Q ⟨b, G, ρ, s, r, s', rl, e, k⟩ => ?_
  obtain ⟨⟨xs, s1⟩, e1, e⟩ := map_some' e
  cases e
  refine ⟨b, G, ρ, s, xs, s1, rl, e1, fun a vs G1 ρ1 H1 r1 f1 n0 n1 n2 n3 n4 n5 d1 => ?_⟩
  obtain ⟨r2, gg, d2⟩ := r1.fz hR n0 n2 n3 n4 n5 d1
  refine k _ _ _ _ r2 ⟨f1.gg.trans gg, f1.keep, f1.there, fun c h => ?_, f1.pre, f1.own⟩ d2
  by_cases hc : c = a
  · subst hc; exact .inr (.inl n1)
  · rw [upd_ne hc] at h; exact f1.gnew c h
omit hR in
theorem pd_ifO (h : PT X c (tTs X.K R ft)) (ha : PE X a (tO X.K R fo)) (hb : PE X a' (tO X.K R fl)) : PE X (.IfExp c a a' pos) (tO X.K R (fIfO ft fo fl)) := by
  refine pd_w (pe_ifExp h ha hb) fun σ H Q ⟨b, G, ρ, s, r, s', rl, e, k⟩ => ?_
  obtain ⟨⟨z, s1⟩, e1, e⟩ := bind_some' e
  refine ⟨b, G, ρ, s, z, s1, rl, e1, fun G1 ρ1 H1 r1 f1 => ?_⟩
  have bk : ∀ {c : Addr}, H1 c = none → H c = none := fun {c} n => by
    cases q : H c with
    | none => rfl
    | some o => exact absurd n (f1.there c (some_ne q))
  cases z with
  | true => exact ⟨b, G1, ρ1, s1, r, s', r1, e, fun v xs G2 ρ2 H2 r2 f2 n0 n1 n2 n3 n4 n5 d2 => k v xs G2 ρ2 H2 r2 (f1.trans f2) n0 (bk n1) n2 n3 n4 n5 d2⟩
  | false => exact ⟨b, G1, ρ1, s1, r, s', r1, e, fun v xs G2 ρ2 H2 r2 f2 n0 n1 n2 n3 n4 n5 d2 => k v xs G2 ρ2 H2 r2 (f1.trans f2) n0 (bk n1) n2 n3 n4 n5 d2⟩
theorem pd_call {x : Str} {id : String} {g : List D → Option D} {p : Pos} (hc : CallR X (.builtin id) (rDL X.K R g)) (hg : Gl X x) (hm : X.mg x = none) (hv : bootBuiltins x = some (.builtin id)) (ha : PA X (e :: es) (tL X.K R fl)) (hn : x ≠ "__name__" := by decide) (hdb : (x == ("__debug__" : Str)) = false := by decide)
    (he : starEach (e :: es) X.env = (false, eval e X.env) :: starEach es X.env := by rfl) (hpl : (backTo pos (starEach es X.env)).any (·.1) = false := by rfl) : PE X (.Call (.Name x p) (e :: es) [] pos) (tD X.K R (fCall g fl)) := by
  refine pd_w (pe_callB hc hg hm hv ha hn hdb he hpl) fun σ H Q ⟨b, G, ρ, s, r, s', rl, e, k⟩ => ?_
  obtain ⟨⟨xs, s1⟩, e1, e⟩ := bind_some' e
  obtain ⟨z, e2, e⟩ := map_some' e
  cases e
  exact ⟨b, G, ρ, s, xs, s1, rl, e1, fun vs G1 ρ1 H1 r1 f1 d1 => ⟨b, G1, ρ1, σ, s1, xs, _, r1, d1, e2, fun v G2 ρ2 H2 r2 f2 d2 => k v G2 ρ2 H2 r2 (f1.trans f2) d2⟩⟩
theorem pd_callTy {x : Str} {T : String} {g : List D → Option D} {p : Pos} (hc : CallR X (.type T) (rDL X.K R g)) (hg : Gl X x) (hm : X.mg x = none) (hv : bootBuiltins x = some (.type T)) (ha : PA X (e :: es) (tL X.K R fl)) (hn : x ≠ "__name__" := by decide) (hdb : (x == ("__debug__" : Str)) = false := by decide)
    (he : starEach (e :: es) X.env = (false, eval e X.env) :: starEach es X.env := by rfl) (hpl : (backTo pos (starEach es X.env)).any (·.1) = false := by rfl) : PE X (.Call (.Name x p) (e :: es) [] pos) (tD X.K R (fCall g fl)) := by
  refine pd_w (pe_callTy hc hg hm hv ha hn hdb he hpl) fun σ H Q ⟨b, G, ρ, s, r, s', rl, e, k⟩ => ?_
  obtain ⟨⟨xs, s1⟩, e1, e⟩ := bind_some' e
  obtain ⟨z, e2, e⟩ := map_some' e
  cases e
  exact ⟨b, G, ρ, s, xs, s1, rl, e1, fun vs G1 ρ1 H1 r1 f1 d1 => ⟨b, G1, ρ1, σ, s1, xs, _, r1, d1, e2, fun v G2 ρ2 H2 r2 f2 d2 => k v G2 ρ2 H2 r2 (f1.trans f2) d2⟩⟩
theorem pd_callTyO {x : Str} {T : String} {g : List D → Option (List D)} {p : Pos} (hc : CallR X (.type T) (rOL X.K R g)) (hg : Gl X x) (hm : X.mg x = none) (hv : bootBuiltins x = some (.type T)) (ha : PA X (e :: es) (tL X.K R fl)) (hn : x ≠ "__name__" := by decide) (hdb : (x == ("__debug__" : Str)) = false := by decide)
    (he : starEach (e :: es) X.env = (false, eval e X.env) :: starEach es X.env := by rfl) (hpl : (backTo pos (starEach es X.env)).any (·.1) = false := by rfl) : PE X (.Call (.Name x p) (e :: es) [] pos) (tO X.K R (fCallO g fl)) := by
  refine pd_w (pe_callTy hc hg hm hv ha hn hdb he hpl) fun σ H Q ⟨b, G, ρ, s, r, s', rl, e, k⟩ => ?_
  obtain ⟨⟨xs, s1⟩, e1, e⟩ := bind_some' e
  obtain ⟨z, e2, e⟩ := map_some' e
  cases e
  refine ⟨b, G, ρ, s, xs, s1, rl, e1, fun vs G1 ρ1 H1 r1 f1 d1 => ⟨b, G1, ρ1, σ, s1, xs, _, r1, d1, e2, fun u xs G3 ρ3 H3 r3 f3 n0 n1 n2 n3 n4 n5 d3 => k u xs G3 ρ3 H3 r3 (f1.trans f3) n0 ?_ n2 n3 n4 n5 d3⟩⟩
  cases q : H u with
  | none => rfl
  | some o => exact absurd n1 (f1.there u (some_ne q))
theorem pd_callBO {x : Str} {id : String} {g : List D → Option (List D)} {p : Pos} (hc : CallR X (.builtin id) (rOL X.K R g)) (hg : Gl X x) (hm : X.mg x = none) (hv : bootBuiltins x = some (.builtin id)) (ha : PA X (e :: es) (tL X.K R fl)) (hn : x ≠ "__name__" := by decide) (hdb : (x == ("__debug__" : Str)) = false := by decide)
    (he : starEach (e :: es) X.env = (false, eval e X.env) :: starEach es X.env := by rfl) (hpl : (backTo pos (starEach es X.env)).any (·.1) = false := by rfl) : PE X (.Call (.Name x p) (e :: es) [] pos) (tO X.K R (fCallO g fl)) := by
  refine pd_w (pe_callB hc hg hm hv ha hn hdb he hpl) fun σ H Q ⟨b, G, ρ, s, r, s', rl, e, k⟩ => ?_
  obtain ⟨⟨xs, s1⟩, e1, e⟩ := bind_some' e
  obtain ⟨z, e2, e⟩ := map_some' e
  cases e
  refine ⟨b, G, ρ, s, xs, s1, rl, e1, fun vs G1 ρ1 H1 r1 f1 d1 => ⟨b, G1, ρ1, σ, s1, xs, _, r1, d1, e2, fun u xs G3 ρ3 H3 r3 f3 n0 n1 n2 n3 n4 n5 d3 => k u xs G3 ρ3 H3 r3 (f1.trans f3) n0 ?_ n2 n3 n4 n5 d3⟩⟩
  cases q : H u with
  | none => rfl
  | some o => exact absurd n1 (f1.there u (some_ne q))
theorem pd_chain {op op' : CmpOp} {g g' : D → D → Option D} (ho : OpR X (compareOp op) (rD2 X.K R g)) (ho' : OpR X (compareOp op') (rD2 X.K R g')) (ha : PE X a (tD X.K R fa)) (hb : PE X c (tD X.K R fb)) (hc : PE X a' (tD X.K R fc))
    (hm : lastMarks [op, op'] [c, a'] = false := by with_unfolding_all rfl) : PE X (.Compare a [op, op'] [c, a'] pos) (tD X.K R (fChain g g' fa fb fc)) := by
  refine pd_w (pe_chain ho ho' ha hb hc hm) fun σ H Q ⟨b, G, ρ, s, r, s', rl, e, k⟩ => ?_
  obtain ⟨⟨x, s1⟩, e1, e⟩ := bind_some' e
  obtain ⟨⟨y, s2⟩, e2, e⟩ := bind_some' e
  obtain ⟨z, e3, e⟩ := bind_some' e
  refine ⟨b, G, ρ, s, x, s1, rl, e1, fun v G1 ρ1 H1 r1 f1 d1 => ⟨b, G1, ρ1, s1, y, s2, r1, e2, fun w G2 ρ2 H2 r2 f2 d2 => ?_⟩⟩
  refine ⟨b, G2, ρ2, σ, s2, x, y, _, r2, d1.mono hR f2.gg f2.prf, d2, e3, fun u G3 ρ3 H3 r3 f3 d3 => ?_⟩
  split at e
  · cases d3
    obtain ⟨⟨w', s3⟩, e4, e⟩ := bind_some' e
    obtain ⟨y', e5, e⟩ := bind_some' e
    split at e
    · cases e
      refine ⟨true, rfl, ?_⟩
      rw [if_pos rfl]
      refine ⟨b, G3, ρ3, s2, w', s3, r3, e4, fun v' G4 ρ4 H4 r4 f4 d4 => ?_⟩
      exact ⟨b, G4, ρ4, σ, s3, y, w', _, r4, d2.mono hR (f3.gg.trans f4.gg) (f3.trans f4).prf, d4, e5, fun u G5 ρ5 H5 r5 f5 d5 => by cases d5; exact k _ _ _ _ r5 ((((f1.trans f2).trans f3).trans f4).trans f5) (.bl _)⟩
    · cases e
  · cases d3
    cases e
    refine ⟨false, rfl, ?_⟩
    rw [if_neg Bool.false_ne_true]
    exact k _ _ _ _ r3 ((f1.trans f2).trans f3) (.bl false)
  · cases e
end
end PL
end

section
namespace PL
open PySem PySem.Spec PyProof.Rows L2 Ev
section
variable {K : PySem.W.Frag} {R : OR} {b : Bs} {G H : Hp} {ρ : List Addr} {σ : L2.St} {s : S} {r : D} {Q : VK}
theorem KD.imm (k : KD K R b σ s.env G H ρ s r Q) (rl : Rel K R b G ρ σ H s) {v : V} (h : RD K R G ρ v r) : Q v H := k v G ρ H rl .refl h
theorem KD.new (hR : RMono R) (k : KD K R b σ s.env G H ρ s r Q) (rl : Rel K R b G ρ σ H s) {p : Addr} {o : HO} (hp : H p = none) (h : RD K R (upd G p o) ρ (.ref p) r) : Q (.ref p) (upd H p o) := by
  obtain ⟨r2, f2⟩ := rl.new hR o hp
  exact k _ _ _ _ r2 f2 h
theorem Rel.gnew (rl : Rel K R b G ρ σ H s) {p : Addr} (hp : H p = none) : Same G (upd G p o) := same_upd (rl.sub.free hp)
theorem KO.new (hR : RMono R) {ds : List D} (k : KO K R b σ s.env G H ρ s ds Q) (rl : Rel K R b G ρ σ H s) {p : Addr} {xs : List V} (hp : H p = none) (h : RDs K R G ρ xs ds) : Q (.ref p) (upd H p (.lst xs)) := by
  obtain ⟨r2, f2⟩ := rl.pure hR (G' := G) (fun _ _ h => h) (rl.sub.trans (same_upd hp)) (same_upd hp) (fun _ h => .inl h) (rl.cells.tups.new (o := .lst xs) hp rfl)
  refine k p xs _ _ _ r2 f2 ?_ hp (rl.sub.free hp) (fun q => (rl.cells.some q).1 hp) (fun q => (rl.ownB q).2.2.2 hp) upd_same h
  cases z : b.H p with
  | none => rfl
  | some o => exact absurd hp (rl.le.there p (some_ne z))
theorem RDs.ints {ns : List Int} : RDs K R G ρ (ns.map V.int) (ns.map D.int) := by
  induction ns with
  | nil => exact .nil
  | cons a l ih => exact .cons (.int a) ih
theorem RDs.strs {ns : List Str} : RDs K R G ρ (ns.map V.str) (ns.map D.str) := by
  induction ns with
  | nil => exact .nil
  | cons a l ih => exact .cons (.str a) ih
theorem RDs.at_ {vs : List V} {ds : List D} {i : Int} {d : D} (h : RDs K R G ρ vs ds) (e : atI ds i = some d) : ∃ v, atI vs i = some v ∧ RD K R G ρ v d := by
  unfold atI at e ⊢
  rw [h.len]
  cases q : ixN ds.length i with
  | none => rw [q] at e; cases e
  | some j =>
    rw [q] at e
    exact h.at (i := j) e
theorem RDs.cut {vs : List V} {ds : List D} {lo hi : Option Int} (h : RDs K R G ρ vs ds) : RDs K R G ρ (cutV vs lo hi) ((ds.drop (HT.sIx ds.length 0 lo)).take (HT.sIx ds.length ds.length hi - HT.sIx ds.length 0 lo)) := by
  unfold cutV
  rw [h.len]
  exact h.drop.take
theorem RDs.allStr : ∀ {vs : List V} {zs : List Str}, RDs K R G ρ vs (zs.map D.str) → vs = zs.map V.str
  | [], [], _ => rfl
  | [], _ :: _, h => by cases h
  | _ :: _, [], h => by cases h
  | v :: vs, z :: zs, h => by
    cases h with
    | cons h t =>
      cases h
      rw [RDs.allStr t]
      rfl
theorem RDs.allInt : ∀ {vs : List V} {zs : List Int}, RDs K R G ρ vs (zs.map D.int) → vs = zs.map V.int
  | [], [], _ => rfl
  | [], _ :: _, h => by cases h
  | _ :: _, [], h => by cases h
  | v :: vs, z :: zs, h => by
    cases h with
    | cons h t =>
      cases h
      rw [RDs.allInt t]
      rfl
theorem RDs.allBl : ∀ {vs : List V} {zs : List Bool}, RDs K R G ρ vs (zs.map D.bl) → vs = zs.map V.bl
  | [], [], _ => rfl
  | [], _ :: _, h => by cases h
  | _ :: _, [], h => by cases h
  | v :: vs, z :: zs, h => by
    cases h with
    | cons h t =>
      cases h
      rw [RDs.allBl t]
      rfl
end
/-! ### operators on values without places -/
def D.isStr : D → Option Str
  | .str x => some x
  | _ => none
def D.isInt : D → Option Int
  | .int x => some x
  | _ => none
def D.isBl : D → Option Bool
  | .bl x => some x
  | _ => none
def allOf {α : Type} (f : D → Option α) : List D → Option (List α)
  | [] => some []
  | d :: r => (f d).bind fun x => (allOf f r).map (x :: ·)
theorem allOf_str : ∀ {ds : List D} {zs : List Str}, allOf D.isStr ds = some zs → ds = zs.map D.str
  | [], zs, h => by cases h; rfl
  | d :: r, zs, h => by
    obtain ⟨x, e1, h⟩ := bind_some' h
    obtain ⟨y, e2, rfl⟩ := map_some' h
    cases d <;> cases e1
    rw [allOf_str e2]
    rfl
theorem allOf_int : ∀ {ds : List D} {zs : List Int}, allOf D.isInt ds = some zs → ds = zs.map D.int
  | [], zs, h => by cases h; rfl
  | d :: r, zs, h => by
    obtain ⟨x, e1, h⟩ := bind_some' h
    obtain ⟨y, e2, rfl⟩ := map_some' h
    cases d <;> cases e1
    rw [allOf_int e2]
    rfl
theorem allOf_bl : ∀ {ds : List D} {zs : List Bool}, allOf D.isBl ds = some zs → ds = zs.map D.bl
  | [], zs, h => by cases h; rfl
  | d :: r, zs, h => by
    obtain ⟨x, e1, h⟩ := bind_some' h
    obtain ⟨y, e2, rfl⟩ := map_some' h
    cases d <;> cases e1
    rw [allOf_bl e2]
    rfl
theorem allOf_map {α : Type} (f : D → Option α) (g : α → D) (h : ∀ a, f (g a) = some a) : ∀ l : List α, allOf f (l.map g) = some l
  | [] => rfl
  | a :: l => by
    show (f (g a)).bind _ = _
    rw [h a]
    show (allOf f (l.map g)).map _ = _
    rw [allOf_map f g h l]
    rfl
def dAdd : D → D → Option D
  | .int i, .int j => some (.int (i + j))
  | .str x, .str y => if x.length + y.length ≤ 100000 then some (.str (x ++ y)) else none
  | .lst x, .lst y => if x.length + y.length ≤ 100000 then some (.lst (x ++ y)) else none
  | .tup x, .tup y => if x.length + y.length ≤ 100000 then some (.tup (x ++ y)) else none
  | _, _ => none
def dCatO : D → D → Option (List D)
  | .lst x, .lst y => if x.length + y.length ≤ 100000 then some (x ++ y) else none
  | _, _ => none
def dSub : D → D → Option D
  | .int i, .int j => some (.int (i - j))
  | _, _ => none
def dMul : D → D → Option D
  | .int i, .int j => if i.natAbs.log2 + j.natAbs.log2 < 1000000 then some (.int (i * j)) else none
  | .lst x, .int j => if j ≤ 1000 ∧ -1000 ≤ j ∧ x.length ≤ 100 then some (.lst (List.replicate j.toNat x).flatten) else none
  | .tup x, .int j => if 2 ≤ j ∧ j ≤ 1000 ∧ x.length ≤ 1000 ∧ 1 ≤ x.length then some (.tup (List.replicate j.toNat x).flatten) else if j = 1 then some (.tup x) else none
  | .str x, .int j => if 0 ≤ j ∧ j ≤ 1000 ∧ x.length ≤ 1000 then some (.str (repS x j.toNat)) else none
  | _, _ => none
def dMod : D → D → Option D
  | .int i, .int j => if 0 < j then some (.int (i % j)) else none
  | _, _ => none
def dFdiv : D → D → Option D
  | .int i, .int j => if 0 < j ∧ j.natAbs.log2 < 9000 then some (.int (i / j)) else none
  | _, _ => none
def dPow : D → D → Option D
  | .int i, .int j => if 0 ≤ j ∧ j ≤ 1000 ∧ i.natAbs.log2 < 100000 then some (.int (i ^ j.toNat)) else none
  | _, _ => none
def dLt : D → D → Option D
  | .int i, .int j => some (.bl (decide (i < j)))
  | .str x, .str y => some (.bl (decide (x.cps.toList < y.cps.toList)))
  | _, _ => none
def dLe : D → D → Option D
  | .int i, .int j => some (.bl (decide (i ≤ j)))
  | _, _ => none
def dGt : D → D → Option D
  | .int i, .int j => some (.bl (decide (j < i)))
  | _, _ => none
def dGe : D → D → Option D
  | .int i, .int j => some (.bl (decide (j ≤ i)))
  | _, _ => none
def dEq (x y : D) : Option D := x.py.bind fun p => y.py.bind fun q => if SeqAt.shaped p = true ∧ SeqAt.shaped q = true then some (.bl (PyData.eqv p q)) else none
def dNe (x y : D) : Option D := x.py.bind fun p => y.py.bind fun q => if SeqAt.shaped p = true ∧ SeqAt.shaped q = true then some (.bl (!PyData.eqv p q)) else none
def D.isNon : D → Bool
  | .non => true
  | _ => false
def dIs : D → D → Option D
  | x, .non => some (.bl x.isNon)
  | _, _ => none
def dIsNot : D → D → Option D
  | x, .non => some (.bl (!x.isNon))
  | _, _ => none
def dNeg : D → Option D
  | .int i => some (.int (-i))
  | _ => none
/-- x in y, y a list or a tuple of texts -/
def dInS : D → D → Option D
  | .str z, .lst ds => (allOf D.isStr ds).map fun zs => .bl (decide (z ∈ zs))
  | .str z, .tup ds => (allOf D.isStr ds).map fun zs => .bl (decide (z ∈ zs))
  | _, _ => none
def dNotInS : D → D → Option D
  | .str z, .lst ds => (allOf D.isStr ds).map fun zs => .bl (!decide (z ∈ zs))
  | .str z, .tup ds => (allOf D.isStr ds).map fun zs => .bl (!decide (z ∈ zs))
  | _, _ => none
def dIx : D → D → Option D
  | .lst ds, .int i => atI ds i
  | .tup ds, .int i => atI ds i
  | .scr ns, .int i => (atI ns i).map .int
  | .str z, .int i => if z.length ≤ 100000 then (atI z.cps.toList i).map fun c => .str ⟨#[c]⟩ else none
  | _, _ => none
section
variable {X : Cx} {R : OR} (hR : RMono R)
include hR
theorem od_add : OpR X (binaryOp .Add) (rD2 X.K R dAdd) := by
  intro pins s σ H x y v u Q I rx ry ⟨b, G, ρ, σ', st, dx, dy, z, rl, hx, hy, e, k⟩
  unfold dAdd at e
  split at e
  · cases e; cases hx; cases hy
    exact op_add pins s σ H _ _ v u Q I rx ry ⟨_, _, rfl, rfl, k.imm rl (.int _)⟩
  · split at e
    · rename_i hl
      cases e; cases hx; cases hy
      exact op_add_str pins s σ H _ _ v u Q I rx ry ⟨_, _, rfl, rfl, le_line hl, k.imm rl (.str _)⟩
    · cases e
  · split at e
    · rename_i hl
      cases e
      cases hx with
      | lst h1 t1 =>
        cases hy with
        | lst h2 t2 =>
          refine op_cat pins s σ H _ _ v u Q I rx ry ⟨_, _, _, _, rfl, rfl, rl.sub _ _ h1, rl.sub _ _ h2, le_line (by rw [t1.len, t2.len]; exact hl), fun p hp => k.new hR rl hp (.lst upd_same ?_)⟩
          exact (t2.app t1).mono hR (rl.gnew hp) (List.prefix_refl _)
    · cases e
  · split at e
    · rename_i hl
      cases e
      cases hx with
      | tup h1 t1 =>
        cases hy with
        | tup h2 t2 =>
          refine op_catA pins s σ H _ _ v u Q I rx ry ⟨_, _, _, _, rfl, rfl, rl.sub.sqt h1, rl.sub.sqt h2, le_line (by rw [t1.len, t2.len]; exact hl), fun e => ?_, fun _ e => ?_, fun _ _ p hp => k.new hR rl hp (.tup (SqT.of upd_same) ?_)⟩
          · subst e; cases t1; exact k.imm rl (.tup h2 t2)
          · subst e; cases t2; rw [List.append_nil] at k; exact k.imm rl (.tup h1 t1)
          · exact (t2.app t1).mono hR (rl.gnew hp) (List.prefix_refl _)
    · cases e
  · cases e
theorem od_catO : OpR X (binaryOp .Add) (rO2 X.K R dCatO) := by
  intro pins s σ H x y v u Q I rx ry ⟨b, G, ρ, σ', st, dx, dy, z, rl, hx, hy, e, k⟩
  unfold dCatO at e
  split at e
  · split at e
    · rename_i hl
      cases e
      cases hx with
      | lst h1 t1 =>
        cases hy with
        | lst h2 t2 =>
          exact op_cat pins s σ H _ _ v u Q I rx ry ⟨_, _, _, _, rfl, rfl, rl.sub _ _ h1, rl.sub _ _ h2, le_line (by rw [t1.len, t2.len]; exact hl), fun p hp => k.new hR rl hp (t2.app t1)⟩
    · cases e
  · cases e
omit hR in
theorem od_sub : OpR X (binaryOp .Sub) (rD2 X.K R dSub) := by
  intro pins s σ H x y v u Q I rx ry ⟨b, G, ρ, σ', st, dx, dy, z, rl, hx, hy, e, k⟩
  unfold dSub at e
  split at e
  · cases e; cases hx; cases hy
    exact op_sub pins s σ H _ _ v u Q I rx ry ⟨_, _, rfl, rfl, k.imm rl (.int _)⟩
  · cases e
theorem RDs.reps {K : PySem.W.Frag} {G : Hp} {ρ : List Addr} {vs : List V} {ds : List D} (h : RDs K R G ρ vs ds) : ∀ n : Nat, RDs K R G ρ (List.replicate n vs).flatten (List.replicate n ds).flatten
  | 0 => .nil
  | n + 1 => by
    rw [List.replicate_succ, List.replicate_succ, List.flatten_cons, List.flatten_cons]
    exact RDs.app (RDs.reps h n) h
theorem od_mul : OpR X (binaryOp .Mult) (rD2 X.K R dMul) := by
  intro pins s σ H x y v u Q I rx ry ⟨b, G, ρ, σ', st, dx, dy, z, rl, hx, hy, e, k⟩
  unfold dMul at e
  split at e
  · split at e
    · rename_i hl
      cases e; cases hx; cases hy
      exact op_mulW pins s σ H _ _ v u Q I rx ry ⟨_, _, rfl, rfl, hl, k.imm rl (.int _)⟩
    · cases e
  · split at e
    · rename_i x' j hl
      cases e; cases hy
      cases hx with
      | lst h1 t1 =>
        refine op_rep pins s σ H _ _ v u Q I rx ry ⟨_, _, _, rfl, rfl, rl.sub _ _ h1, by omega, by omega, le_line ?_, fun p hp => k.new hR rl hp (.lst upd_same ((RDs.reps hR t1 _).mono hR (rl.gnew hp) (List.prefix_refl _)))⟩
        rw [t1.len]
        have a1 : x'.length ≤ 100 := hl.2.2
        have a2 : j.toNat ≤ 1000 := by omega
        have := Nat.mul_le_mul a1 a2
        omega
    · cases e
  · split at e
    · rename_i x' j hl
      cases e; cases hy
      cases hx with
      | tup h1 t1 =>
        refine op_repT pins s σ H _ _ v u Q I rx ry ⟨_, _, _, rfl, rfl, rl.sub.sqt h1, fun q => ?_, hl.1, hl.2.1, by rw [t1.len]; exact hl.2.2.1, fun p hp => k.new hR rl hp (.tup (SqT.of upd_same) ((RDs.reps hR t1 _).mono hR (rl.gnew hp) (List.prefix_refl _)))⟩
        subst q
        have := t1.len
        have := hl.2.2.2
        simp at *
        omega
    · split at e
      · rename_i hj
        subst hj
        cases e; cases hy
        cases hx with
        | tup h1 t1 => exact op_repT1 pins s σ H _ _ v u Q I rx ry ⟨_, _, rfl, rfl, rl.sub.sqt h1, k.imm rl (.tup h1 t1)⟩
      · cases e
  · split at e
    · rename_i z' j hl
      cases e; cases hx; cases hy
      refine op_mulS pins s σ H _ _ v u Q I rx ry ⟨_, j.toNat, rfl, by rw [Int.toNat_of_nonneg hl.1], by omega, hl.2.2, k.imm rl (.str _)⟩
    · cases e
  · cases e
omit hR in
theorem od_mod : OpR X (binaryOp .Mod) (rD2 X.K R dMod) := by
  intro pins s σ H x y v u Q I rx ry ⟨b, G, ρ, σ', st, dx, dy, z, rl, hx, hy, e, k⟩
  unfold dMod at e
  split at e
  · split at e
    · rename_i hl
      cases e; cases hx; cases hy
      exact op_mod pins s σ H _ _ v u Q I rx ry ⟨_, _, rfl, rfl, hl, k.imm rl (.int _)⟩
    · cases e
  · cases e
omit hR in
theorem od_fdiv : OpR X (binaryOp .FloorDiv) (rD2 X.K R dFdiv) := by
  intro pins s σ H x y v u Q I rx ry ⟨b, G, ρ, σ', st, dx, dy, z, rl, hx, hy, e, k⟩
  unfold dFdiv at e
  split at e
  · split at e
    · rename_i hl
      cases e; cases hx; cases hy
      exact op_fdivW pins s σ H _ _ v u Q I rx ry ⟨_, _, rfl, rfl, hl, k.imm rl (.int _)⟩
    · cases e
  · cases e
omit hR in
theorem od_pow : OpR X (binaryOp .Pow) (rD2 X.K R dPow) := by
  intro pins s σ H x y v u Q I rx ry ⟨b, G, ρ, σ', st, dx, dy, z, rl, hx, hy, e, k⟩
  unfold dPow at e
  split at e
  · split at e
    · rename_i i j hl
      cases e; cases hx; cases hy
      obtain ⟨t, rfl⟩ := rx
      obtain ⟨t', rfl⟩ := ry
      refine pow_int hl.1 ?_ ⟨.int _, H, I.tok _, ⟨_, rfl⟩, k.imm rl (.int _)⟩
      have h1 : Builtin.Int.intBits i ≤ 100000 := by
        unfold Builtin.Int.intBits
        split <;> omega
      have h2 : (Builtin.Int.intBits i : Int) ≤ 100000 := by omega
      have := Int.mul_le_mul h2 hl.2.1 hl.1 (by omega)
      omega
    · cases e
  · cases e
omit hR in
theorem od_lt : OpR X (compareOp .Lt) (rD2 X.K R dLt) := by
  intro pins s σ H x y v u Q I rx ry ⟨b, G, ρ, σ', st, dx, dy, z, rl, hx, hy, e, k⟩
  unfold dLt at e
  split at e
  · cases e; cases hx; cases hy
    exact op_lt pins s σ H _ _ v u Q I rx ry ⟨_, _, rfl, rfl, k.imm rl (.bl _)⟩
  · cases e; cases hx; cases hy
    exact op_lt_str pins s σ H _ _ v u Q I rx ry ⟨_, _, rfl, rfl, k.imm rl (.bl _)⟩
  · cases e
omit hR in
theorem od_le : OpR X (compareOp .LtE) (rD2 X.K R dLe) := by
  intro pins s σ H x y v u Q I rx ry ⟨b, G, ρ, σ', st, dx, dy, z, rl, hx, hy, e, k⟩
  unfold dLe at e
  split at e
  · cases e; cases hx; cases hy
    exact op_le pins s σ H _ _ v u Q I rx ry ⟨_, _, rfl, rfl, k.imm rl (.bl _)⟩
  · cases e
omit hR in
theorem od_gt : OpR X (compareOp .Gt) (rD2 X.K R dGt) := by
  intro pins s σ H x y v u Q I rx ry ⟨b, G, ρ, σ', st, dx, dy, z, rl, hx, hy, e, k⟩
  unfold dGt at e
  split at e
  · cases e; cases hx; cases hy
    exact op_gt pins s σ H _ _ v u Q I rx ry ⟨_, _, rfl, rfl, k.imm rl (.bl _)⟩
  · cases e
omit hR in
theorem od_ge : OpR X (compareOp .GtE) (rD2 X.K R dGe) := by
  intro pins s σ H x y v u Q I rx ry ⟨b, G, ρ, σ', st, dx, dy, z, rl, hx, hy, e, k⟩
  unfold dGe at e
  split at e
  · cases e; cases hx; cases hy
    exact op_ge pins s σ H _ _ v u Q I rx ry ⟨_, _, rfl, rfl, k.imm rl (.bl _)⟩
  · cases e
omit hR in
theorem od_eq (hu : X.A.units + 64 < cLine) : OpR X (compareOp .Eq) (rD2 X.K R dEq) := by
  intro pins s σ H x y v u Q I rx ry ⟨b, G, ρ, σ', st, dx, dy, z, rl, hx, hy, e, k⟩
  obtain ⟨p, e1, e⟩ := bind_some' e
  obtain ⟨q, e2, e⟩ := bind_some' e
  split at e
  · rename_i hs
    cases e
    exact op_eqD hu pins s σ H _ _ v u Q I rx ry ⟨p, q, rl.sub.dp (hx.dp e1), rl.sub.dp (hy.dp e2), hs.1, hs.2, k.imm rl (.bl _)⟩
  · cases e
omit hR in
theorem od_ne (hu : X.A.units + 64 < cLine) : OpR X (compareOp .NotEq) (rD2 X.K R dNe) := by
  intro pins s σ H x y v u Q I rx ry ⟨b, G, ρ, σ', st, dx, dy, z, rl, hx, hy, e, k⟩
  obtain ⟨p, e1, e⟩ := bind_some' e
  obtain ⟨q, e2, e⟩ := bind_some' e
  split at e
  · rename_i hs
    cases e
    exact op_neD hu pins s σ H _ _ v u Q I rx ry ⟨p, q, rl.sub.dp (hx.dp e1), rl.sub.dp (hy.dp e2), hs.1, hs.2, k.imm rl (.bl _)⟩
  · cases e
omit hR in
theorem RD.isNon {K : PySem.W.Frag} {G : Hp} {ρ : List Addr} {v : V} {d : D} (h : RD K R G ρ v d) : decide (v = V.non) = d.isNon := by cases h <;> rfl
omit hR in
theorem od_is : OpR X (compareOp .Is) (rD2 X.K R dIs) := by
  intro pins s σ H x y v u Q I rx ry ⟨b, G, ρ, σ', st, dx, dy, z, rl, hx, hy, e, k⟩
  unfold dIs at e
  split at e
  · cases e; cases hy
    refine op_isN pins s σ H _ _ v u Q I rx ry ⟨rfl, ?_⟩
    rw [hx.isNon]
    exact k.imm rl (.bl _)
  · cases e
omit hR in
theorem od_isnot : OpR X (compareOp .IsNot) (rD2 X.K R dIsNot) := by
  intro pins s σ H x y v u Q I rx ry ⟨b, G, ρ, σ', st, dx, dy, z, rl, hx, hy, e, k⟩
  unfold dIsNot at e
  split at e
  · cases e; cases hy
    refine op_notN pins s σ H _ _ v u Q I rx ry ⟨rfl, ?_⟩
    rw [hx.isNon]
    exact k.imm rl (.bl _)
  · cases e
omit hR in
theorem ud_neg : UnR X (unaryOp .USub) (rD1 X.K R dNeg) := by
  intro pins s σ H x v Q I rx ⟨b, G, ρ, σ', st, dx, z, rl, hx, e, k⟩
  unfold dNeg at e
  split at e
  · cases e; cases hx
    exact un_neg pins s σ H _ v Q I rx ⟨_, rfl, k.imm rl (.int _)⟩
  · cases e
omit hR in
theorem od_inS : OpR X (compareOp .In) (rD2 X.K R dInS) := by
  intro pins s σ H x y v u Q I rx ry ⟨b, G, ρ, σ', st, dx, dy, z, rl, hx, hy, e, k⟩
  unfold dInS at e
  split at e
  · obtain ⟨zs, e1, e⟩ := map_some' e
    cases e
    have e1 := allOf_str e1
    subst e1
    cases hx
    cases hy with
    | lst h1 t1 =>
      have := t1.allStr
      subst this
      refine op_in_seq pins s σ H _ _ v u Q I rx ry ⟨_, _, rfl, .inl (SqL.of (rl.sub _ _ h1)), rfl, flat_strs _, ?_⟩
      show Q (.bl (inV _ _)) H
      rw [inV_str]
      exact k.imm rl (.bl _)
  · obtain ⟨zs, e1, e⟩ := map_some' e
    cases e
    have e1 := allOf_str e1
    subst e1
    cases hx
    cases hy with
    | tup h1 t1 =>
      have := t1.allStr
      subst this
      refine op_in_seq pins s σ H _ _ v u Q I rx ry ⟨_, _, rfl, .inr (rl.sub.sqt h1), rfl, flat_strs _, ?_⟩
      show Q (.bl (inV _ _)) H
      rw [inV_str]
      exact k.imm rl (.bl _)
  · cases e
/-! ### subscripts -/
theorem ixd : IxR X (rD2 X.K R dIx) := by
  intro value slice pins s σ H x y v u Q I rx ry ⟨b, G, ρ, σ', st, dx, dy, z, rl, hx, hy, e, k⟩ hs
  unfold dIx at e
  split at e
  · cases hy
    cases hx with
    | lst h1 t1 =>
      obtain ⟨w, e2, e3⟩ := t1.at_ e
      exact ix_list value slice pins s σ H _ _ v u Q I rx ry ⟨_, _, _, w, rfl, rfl, SqL.of (rl.sub _ _ h1), e2, k.imm rl e3⟩ hs
  · cases hy
    cases hx with
    | tup h1 t1 =>
      obtain ⟨w, e2, e3⟩ := t1.at_ e
      exact ix_tup value slice pins s σ H _ _ v u Q I rx ry ⟨_, _, _, w, rfl, rfl, rl.sub.sqt h1, e2, k.imm rl e3⟩ hs
  · obtain ⟨n, e1, e⟩ := map_some' e
    cases e
    cases hy
    cases hx with
    | scr h1 =>
      refine ix_list value slice pins s σ H _ _ v u Q I rx ry ⟨_, _, _, .int n, rfl, rfl, rl.sub.seq h1, ?_, k.imm rl (.int n)⟩ hs
      unfold atI at e1 ⊢
      rw [List.length_map]
      cases q : ixN _ _ with
      | none => rw [q] at e1; cases e1
      | some j =>
        rw [q] at e1
        show (List.map V.int _)[j]? = _
        rw [List.getElem?_map]
        exact congrArg (Option.map V.int) e1
  · split at e
    · rename_i hl
      obtain ⟨c, e1, e⟩ := map_some' e
      cases e
      cases hx; cases hy
      exact ix_str value slice pins s σ H _ _ v u Q I rx ry ⟨_, _, c, rfl, rfl, le_line hl, e1, k.imm rl (.str _)⟩ hs
    · cases e
  · cases e
end
section
variable {X : Cx} {R : OR} {e a c : Expr} {fa fb : FD} {pos : Pos} (hR : RMono R)
include hR
theorem pd_ix {g : D → D → Option D} (hr : IxR X (rD2 X.K R g)) (ha : PE X a (tD X.K R fa)) (hb : PE X c (tD X.K R fb)) (hs : PlainIx c) : PE X (.Subscript a c pos) (tD X.K R (fBin g fa fb)) := by
  refine pd_w (pe_ix hr ha hb hs) fun σ H Q ⟨b, G, ρ, s, r, s', rl, e, k⟩ => ?_
  obtain ⟨⟨x, s1⟩, e1, e⟩ := bind_some' e
  obtain ⟨⟨y, s2⟩, e2, e⟩ := bind_some' e
  obtain ⟨z, e3, e⟩ := map_some' e
  cases e
  refine ⟨b, G, ρ, s, x, s1, rl, e1, fun v G1 ρ1 H1 r1 f1 d1 => ⟨b, G1, ρ1, s1, y, s2, r1, e2, fun w G2 ρ2 H2 r2 f2 d2 => ?_⟩⟩
  exact ⟨b, G2, ρ2, σ, s2, x, y, _, r2, d1.mono hR f2.gg f2.prf, d2, e3, fun u G3 ρ3 H3 r3 f3 d3 => k u G3 ρ3 H3 r3 ((f1.trans f2).trans f3) d3⟩
/-- pot[i]: a cell is read -/
def fIxC (fa fb : FD) : FD := fun s => (fa s).bind fun p => (fb p.2).bind fun q => match p.1, q.1 with
  | .cell i, .int j => (q.2.cs[i]?).bind fun ds => (atI ds j).map fun z => (z, q.2)
  | _, _ => none
theorem pd_ixC (ha : PE X a (tD X.K R fa)) (hb : PE X c (tD X.K R fb)) (hs : PlainIx c) : PE X (.Subscript a c pos) (tD X.K R (fIxC fa fb)) := by
  refine pd_w (pe_ix ix_list ha hb hs) fun σ H Q ⟨b, G, ρ, s, r, s', rl, e, k⟩ => ?_
  obtain ⟨⟨x, s1⟩, e1, e⟩ := bind_some' e
  obtain ⟨⟨y, s2⟩, e2, e⟩ := bind_some' e
  dsimp only at e
  split at e
  · obtain ⟨ds, e3, e⟩ := bind_some' e
    obtain ⟨z, e4, e⟩ := map_some' e
    cases e
    refine ⟨b, G, ρ, s, _, s1, rl, e1, fun v G1 ρ1 H1 r1 f1 d1 => ⟨b, G1, ρ1, s1, _, _, r1, e2, fun w G2 ρ2 H2 r2 f2 d2 => ?_⟩⟩
    have d1 := d1.mono hR f2.gg f2.prf
    cases d2
    cases d1 with
    | cell h1 =>
      obtain ⟨_, xs, h2, h3⟩ := r2.cells.at_ _ _ ds h1 e3
      obtain ⟨w, e5, e6⟩ := h3.at_ e4
      exact ⟨_, _, _, w, rfl, rfl, SqL.of h2, e5, k w G2 ρ2 H2 r2 (f1.trans f2) e6⟩
  · cases e
/-! ### slices -/
def fNoPart : S → Option (Option Int × S) := fun s => some (none, s)
def fPart (fa : FD) : S → Option (Option Int × S) := fun s => (fa s).bind fun p => match p.1 with
  | .int i => some (some i, p.2)
  | _ => none
def tPt (K : PySem.W.Frag) (R : OR) (f : S → Option (Option Int × S)) : TO := fun σ H Q => ∃ b G ρ s r s', Rel K R b G ρ σ H s ∧ f s = some (r, s') ∧ KT K R b σ s.env G H ρ s' (Q r)
omit hR in
theorem po_w {e : Option Expr} {t u : TO} (h : PO X e t) (k : ∀ σ H Q, u σ H Q → t σ H Q) : PO X e u := ⟨fun pins s σ H Q I q => h.run pins s σ H Q I (k σ H Q q)⟩
omit hR in
theorem pdo_none : PO X none (tPt X.K R fNoPart) := by
  refine po_w po_none fun σ H Q ⟨b, G, ρ, s, r, s', rl, e, k⟩ => ?_
  cases e
  exact k G ρ H rl .refl
omit hR in
theorem pdo_some (h : PE X e (tD X.K R fa)) : PO X (some e) (tPt X.K R (fPart fa)) := by
  refine po_w (po_some h) fun σ H Q ⟨b, G, ρ, s, r, s', rl, e, k⟩ => ?_
  obtain ⟨⟨x, s1⟩, e1, e⟩ := bind_some' e
  dsimp only at e
  split at e
  · cases e
    exact ⟨b, G, ρ, s, _, _, rl, e1, fun v G1 ρ1 H1 r1 f1 d1 => ⟨_, by cases d1; rfl, k G1 ρ1 H1 r1 f1⟩⟩
  · cases e
def cutD (ds : List D) (lo hi : Option Int) : List D := (ds.drop (HT.sIx ds.length 0 lo)).take (HT.sIx ds.length ds.length hi - HT.sIx ds.length 0 lo)
def dSl (x : D) (lo hi : Option Int) : Option D := match x with
  | .lst ds => some (.lst (cutD ds lo hi))
  | .tup ds => some (.tup (cutD ds lo hi))
  | .str z => if z.length ≤ 100000 then some (.str (cutS z lo hi)) else none
  | _ => none
def fSl (fa : FD) (fl fh : S → Option (Option Int × S)) : FD := fun s => (fa s).bind fun p => (fl p.2).bind fun q => (fh q.2).bind fun t => (dSl p.1 q.1 t.1).map fun z => (z, t.2)
def rSlD (K : PySem.W.Frag) (R : OR) : V → Option Int → Option Int → Hp → VK → Prop := fun x lo hi H Q => ∃ b G ρ σ s dx z, Rel K R b G ρ σ H s ∧ RD K R G ρ x dx ∧ dSl dx lo hi = some z ∧ KD K R b σ s.env G H ρ s z Q
theorem sld : SlR X (rSlD X.K R) := by
  intro pins s σ H x v vl vu lo hi sl Q I rx hs pl pu ⟨b, G, ρ, σ', st, dx, z, rl, hx, e, k⟩
  unfold dSl at e
  split at e
  · cases e
    cases hx with
    | lst h1 t1 => exact sl_list pins s σ H _ v vl vu lo hi sl Q I rx hs pl pu ⟨_, _, rfl, SqL.of (rl.sub _ _ h1), fun p hp => k.new hR rl hp (.lst upd_same (t1.cut.mono hR (rl.gnew hp) (List.prefix_refl _)))⟩
  · cases e
    cases hx with
    | tup h1 t1 =>
      rename_i xs
      refine sl_tupA pins s σ H _ v vl vu lo hi sl Q I rx hs pl pu ⟨_, _, rfl, rl.sub.sqt h1, fun hw => k.imm rl (.tup h1 ?_), fun _ p hp => k.new hR rl hp (.tup (SqT.of upd_same) (t1.cut.mono hR (rl.gnew hp) (List.prefix_refl _)))⟩
      unfold cutD
      rw [← t1.len, hw.1, hw.2, t1.len]
      simp only [List.drop_zero, Nat.sub_zero, List.take_length]
      exact t1
  · split at e
    · rename_i hl
      cases e; cases hx
      exact sl_str pins s σ H _ v vl vu lo hi sl Q I rx hs pl pu ⟨_, rfl, le_line hl, k.imm rl (.str _)⟩
    · cases e
  · cases e
theorem pd_sl {lo hi : Option Expr} {fl fh : S → Option (Option Int × S)} {p2 : Pos} (ha : PE X a (tD X.K R fa)) (hl : PO X lo (tPt X.K R fl)) (hh : PO X hi (tPt X.K R fh)) : PE X (.Subscript a (.Slice lo hi none p2) pos) (tD X.K R (fSl fa fl fh)) := by
  refine pd_w (pe_slice (sld hR) ha hl hh) fun σ H Q ⟨b, G, ρ, s, r, s', rl, e, k⟩ => ?_
  obtain ⟨⟨x, s1⟩, e1, e⟩ := bind_some' e
  obtain ⟨⟨l, s2⟩, e2, e⟩ := bind_some' e
  obtain ⟨⟨h, s3⟩, e3, e⟩ := bind_some' e
  obtain ⟨z, e4, e⟩ := map_some' e
  cases e
  refine ⟨b, G, ρ, s, x, s1, rl, e1, fun v G1 ρ1 H1 r1 f1 d1 => ⟨b, G1, ρ1, s1, l, s2, r1, e2, fun G2 ρ2 H2 r2 f2 => ⟨b, G2, ρ2, s2, h, s3, r2, e3, fun G3 ρ3 H3 r3 f3 => ?_⟩⟩⟩
  exact ⟨b, G3, ρ3, σ, s3, x, _, r3, d1.mono hR (f2.trans f3).gg (f2.trans f3).prf, e4, fun u G4 ρ4 H4 r4 f4 d4 => k u G4 ρ4 H4 r4 (((f1.trans f2).trans f3).trans f4) d4⟩
end
end PL
end

section
namespace PL
open PySem PySem.Spec PyProof.Rows L2 Ev
inductive Out where
  | nx (s : S) | bk (s : S) | ct (s : S) | rt (r : D) (s : S) | ro (r : List D) (s : S)
abbrev FS := S → Option Out
section
variable (K : PySem.W.Frag) (R : OR)
def KE (b : Bs) (G : Hp) (ρ : List Addr) (Dd : Ends) : Out → Prop
  | .nx s' => ∀ σ' G' ρ' H', Rel K R b G' ρ' σ' H' s' → Same G G' → ρ <+: ρ' → Dd.nx σ' H'
  | .bk s' => ∀ σ' G' ρ' H', Rel K R b G' ρ' σ' H' s' → Same G G' → ρ <+: ρ' → Dd.bk σ' H'
  | .ct s' => ∀ σ' G' ρ' H', Rel K R b G' ρ' σ' H' s' → Same G G' → ρ <+: ρ' → Dd.ct σ' H'
  | .rt r s' => ∀ v σ' G' ρ' H', Rel K R b G' ρ' σ' H' s' → RD K R G' ρ' v r → Dd.rt v H'
  | .ro r s' => ∀ a xs σ' G' ρ' H', Rel K R b G' ρ' σ' H' s' → b.H a = none → G' a = none → a ∉ ρ' → H' a = some (.lst xs) → RDs K R G' ρ' xs r → Dd.rt (.ref a) H'
def sS (F : FS) : TS := fun Dd σ H => ∃ b G ρ s o, Rel K R b G ρ σ H s ∧ F s = some o ∧ KE K R b G ρ Dd o
/-- targets -/
def gS (sl : List Nat) (g : D → S → Option S) : TG := fun v σ H Q => ∃ b G ρ s d s', Rel K R b G ρ σ H s ∧ RD K R G ρ v d ∧ g d s = some s' ∧ ∀ σ', Rel K R b G ρ σ' H s' → (∀ a, Own s'.env σ' a → Own s.env σ a) → σ'.length = σ.length → (∀ i, i ∉ sl → σ'[i]? = σ[i]?) → Q σ' H
def gSs (sl : List Nat) (g : List D → S → Option S) : TGs := fun vs σ H Q => ∃ b G ρ s ds s', Rel K R b G ρ σ H s ∧ RDs K R G ρ vs ds ∧ g ds s = some s' ∧ ∀ σ', Rel K R b G ρ σ' H s' → (∀ a, Own s'.env σ' a → Own s.env σ a) → σ'.length = σ.length → (∀ i, i ∉ sl → σ'[i]? = σ[i]?) → Q σ' H
/-- what a loop goes over, as data -/
abbrev DW (G : Hp) (ρ : List Addr) (J : It) (ds : List D) : Prop := ∃ (Gd : Hp → Prop) (Y : Nat → Hp → V → Hp → Prop), Walk J ds.length Gd Y ∧ (∀ H, Same G H → Gd H) ∧
  ∀ i x H1 H2 d, ds[i]? = some d → Same G H1 → Y i H1 x H2 → (H2 = H1 ∧ RD K R G ρ x d) ∨ ∃ p xs es, x = .ref p ∧ H1 p = none ∧ H2 = upd H1 p (.tup xs) ∧ d = .tup es ∧ RDs K R G ρ xs es
def iD (fi : FO) : TI := fun σ H Q => ∃ b G ρ s ds s', Rel K R b G ρ σ H s ∧ fi s = some (ds, s') ∧ ∀ G' ρ' H' J, Rel K R b G' ρ' σ H' s' → Fr σ s.env G H ρ s'.env G' H' ρ' → DW K R G' ρ' J ds → Q J H'
end
/-! ### what is computed -/
def fSet (i : Nat) (fa : FD) : FS := fun s => (fa s).map fun p => .nx ⟨p.2.env.set i (some (.d p.1)), p.2.cs⟩
def fSetO (i : Nat) (fo : FO) : FS := fun s => (fo s).map fun p => .nx ⟨p.2.env.set i (some (.ol p.1)), p.2.cs⟩
def fSeq (F G : FS) : FS := fun s => (F s).bind fun o => match o with
  | .nx s1 => G s1
  | o => some o
def fIfS (ft : FT) (F G : FS) : FS := fun s => (ft s).bind fun p => if p.1 = true then F p.2 else G p.2
def fRet (fa : FD) : FS := fun s => (fa s).map fun p => .rt p.1 p.2
def fRetO (fo : FO) : FS := fun s => (fo s).map fun p => .ro p.1 p.2
def fRetN : FS := fun s => some (.rt .non s)
def fPass : FS := fun s => some (.nx s)
def fBrk : FS := fun s => some (.bk s)
def fCnt : FS := fun s => some (.ct s)
def fNo : FS := fun _ => none
def fExp (fa : FD) : FS := fun s => (fa s).map fun p => .nx p.2
def gNm (i : Nat) : D → S → Option S := fun d s => some ⟨s.env.set i (some (.d d)), s.cs⟩
def gNl : List D → S → Option S := fun ds s => match ds with
  | [] => some s
  | _ => none
def gCn (g : D → S → Option S) (gs : List D → S → Option S) : List D → S → Option S := fun ds s => match ds with
  | [] => none
  | d :: r => (g d s).bind (gs r)
def gTp (n : Nat) (gs : List D → S → Option S) : D → S → Option S := fun d s => match d with
  | .tup es => if es.length = n then gs es s else none
  | _ => none
def fAsg (fa : FD) (g : D → S → Option S) : FS := fun s => (fa s).bind fun p => (g p.1 p.2).map .nx
def fPar (i j : Nat) (fl : FO) : FS := fun s => (fl s).bind fun p => match p.1 with
  | [x, y] => some (.nx ⟨(p.2.env.set i (some (.d x))).set j (some (.d y)), p.2.cs⟩)
  | _ => none
def forGo (g : D → S → Option S) (body : FS) : List D → FS
  | [], s => some (.nx s)
  | d :: r, s => (g d s).bind fun s1 => (body s1).bind fun o => match o with
    | .nx s2 => forGo g body r s2
    | .ct s2 => forGo g body r s2
    | .bk s2 => some (.nx s2)
    | .rt x s2 => some (.rt x s2)
    | .ro x s2 => some (.ro x s2)
def fFor (fi : FO) (g : D → S → Option S) (body : FS) : FS := fun s => (fi s).bind fun p => forGo g body p.1 p.2
def whGo (ft : FT) (body : FS) : Nat → FS
  | 0, _ => none
  | n + 1, s => (ft s).bind fun p => if p.1 = true then (body p.2).bind fun o => match o with
    | .nx s2 => whGo ft body n s2
    | .ct s2 => whGo ft body n s2
    | .bk s2 => some (.nx s2)
    | .rt x s2 => some (.rt x s2)
    | .ro x s2 => some (.ro x s2)
    else some (.nx p.2)
def fWh (n : Nat) (ft : FT) (body : FS) : FS := whGo ft body n
/-- comprehensions: the slots vs are its own -/
def wipeE (e : Env) : List Nat → Env
  | [] => e
  | v :: vs => (wipeE e vs).set v none
def onlyD : Option Sl → Option Sl
  | some (.d x) => some (.d x)
  | _ => none
/-- the slots vs as they were -/
def backE (e0 e : Env) (vs : List Nat) : Env := (List.range e.length).map fun i => if i ∈ vs then onlyD (e0.getD i none) else e.getD i none
def lcGo (e0 : Env) (vs : List Nat) (g : D → S → Option S) (ft : FT) (fe : FD) : List D → S → Option (List D × S)
  | [], s => some ([], s)
  | d :: r, s => (g d ⟨wipeE s.env vs, s.cs⟩).bind fun s1 => (ft s1).bind fun p => if p.1 = true then (fe p.2).bind fun q => (lcGo e0 vs g ft fe r ⟨backE e0 q.2.env vs, q.2.cs⟩).map fun t => (q.1 :: t.1, t.2)
    else lcGo e0 vs g ft fe r ⟨backE e0 p.2.env vs, p.2.cs⟩
def fLc (vs : List Nat) (fi : FO) (g : D → S → Option S) (ft : FT) (fe : FD) : FO := fun s => (fi s).bind fun p => if p.1.length < 100000 then lcGo p.2.env vs g ft fe p.1 p.2 else none
def fYes : FT := fun s => some (true, s)
/-- x.append(e), x a slot that owns its list -/
def fApp (i : Nat) (fe : FD) : FS := fun s => match s.env[i]? with
  | some (some (.ol _)) => (fe s).bind fun p => match p.2.env[i]? with
    | some (some (.ol ds)) => if ds.length < 100000 then some (.nx ⟨p.2.env.set i (some (.ol (ds ++ [p.1]))), p.2.cs⟩) else none
    | _ => none
  | _ => none
def fExt (i : Nat) (fe : FD) : FS := fun s => match s.env[i]? with
  | some (some (.ol _)) => (fe s).bind fun p => match p.1, p.2.env[i]? with
    | .lst es, some (some (.ol ds)) => if ds.length + es.length ≤ 100000 then some (.nx ⟨p.2.env.set i (some (.ol (ds ++ es))), p.2.cs⟩) else none
    | _, _ => none
  | _ => none
/-- x.pop(e) -/
def fPop (i : Nat) (fe : FD) : FD := fun s => match s.env[i]? with
  | some (some (.ol _)) => (fe s).bind fun p => match p.1, p.2.env[i]? with
    | .int j, some (some (.ol ds)) => if 0 ≤ j ∧ j < ds.length ∧ ds.length ≤ 100000 then (ds[j.toNat]?).map fun z => (z, ⟨p.2.env.set i (some (.ol (ds.eraseIdx j.toNat))), p.2.cs⟩) else none
    | _, _ => none
  | _ => none
/-- pot[i] = e -/
def fPutC (fo fi fe : FD) : FS := fun s => (fe s).bind fun p => (fo p.2).bind fun q => (fi q.2).bind fun t => match q.1, t.1 with
  | .cell i, .int j => (t.2.cs[i]?).bind fun ds => if 0 ≤ j ∧ j < ds.length then some (.nx ⟨t.2.env, t.2.cs.set i (ds.set j.toNat p.1)⟩) else none
  | _, _ => none
/-- a new list, written by others too -/
def fCell (fo : FO) : FD := fun s => (fo s).map fun p => (.cell p.2.cs.length, ⟨p.2.env, p.2.cs ++ [p.1]⟩)

section
variable {X : Cx} {R : OR} {e a c a' : Expr} {st : Stmt} {sts rest : List Stmt} {es : List Expr} {t u : TS} {fa fb fe f : FD} {fo fl fi : FO} {ft : FT} {F G' : FS} {pos pos' : Pos}
theorem ps_w (h : PS X st t) (k : ∀ Dd σ H, u Dd σ H → t Dd σ H) : PS X st u := ⟨fun pins s σ H Dd I q => h.run pins s σ H Dd I (k Dd σ H q)⟩
theorem pss_w (h : PSs X sts t) (k : ∀ Dd σ H, u Dd σ H → t Dd σ H) : PSs X sts u := ⟨fun pins s σ H Dd I q => h.run pins s σ H Dd I (k Dd σ H q)⟩
theorem pi_w {tg : Expr} {wi wj : TI} (h : PI X tg e wi) (k : ∀ σ H Q, wj σ H Q → wi σ H Q) : PI X tg e wj := ⟨fun pins s σ H Q I q => h.run pins s σ H Q I (k σ H Q q)⟩
theorem pg_w {tg : Expr} {g g' : TG} (h : PG X tg g) (k : ∀ v σ H Q, g' v σ H Q → g v σ H Q) : PG X tg g' := ⟨fun pins s σ H v w Q I r q => h.run pins s σ H v w Q I r (k v σ H Q q)⟩
theorem pgs_w {tg : List Expr} {g g' : TGs} (h : PGs X tg g) (k : ∀ v σ H Q, g' v σ H Q → g v σ H Q) : PGs X tg g' := ⟨fun pins s σ H v w Q I r q => h.run pins s σ H v w Q I r (k v σ H Q q)⟩
/-- the wishes behind a later state -/
theorem KE.later {K : PySem.W.Frag} {b : Bs} {G G1 : Hp} {ρ ρ1 : List Addr} {Dd : Ends} {o : Out} (k : KE K R b G ρ Dd o) (gg : Same G G1) (p : ρ <+: ρ1) : KE K R b G1 ρ1 Dd o := by
  cases o with
  | nx s' => exact fun σ' G' ρ' H' r g q => k σ' G' ρ' H' r (gg.trans g) (p.trans q)
  | bk s' => exact fun σ' G' ρ' H' r g q => k σ' G' ρ' H' r (gg.trans g) (p.trans q)
  | ct s' => exact fun σ' G' ρ' H' r g q => k σ' G' ρ' H' r (gg.trans g) (p.trans q)
  | rt r s' => exact k
  | ro r s' => exact k
theorem pds_nil : PSs X [] (sS X.K R fPass) := by
  refine pss_w pss_nil fun Dd σ H ⟨b, G, ρ, s, o, rl, e, k⟩ => ?_
  cases e
  exact k σ G ρ H rl (fun _ _ h => h) (List.prefix_refl _)
theorem pds_one (h : PS X st (sS X.K R F)) : PSs X [st] (sS X.K R F) := pss_one h
theorem pds_cons (h : PS X st (sS X.K R F)) (h2 : PSs X rest (sS X.K R G')) : PSs X (st :: rest) (sS X.K R (fSeq F G')) := by
  refine pss_w (pss_cons h h2) fun Dd σ H ⟨b, G, ρ, s, o, rl, e, k⟩ => ?_
  obtain ⟨o1, e1, e⟩ := bind_some' e
  refine ⟨b, G, ρ, s, o1, rl, e1, ?_⟩
  cases o1 with
  | nx s1 => exact fun σ' G' ρ' H' r1 gg p => ⟨b, G', ρ', s1, o, r1, e, k.later gg p⟩
  | bk s1 => cases e; exact k
  | ct s1 => cases e; exact k
  | rt r s1 => cases e; exact k
  | ro r s1 => cases e; exact k
theorem pds_pass : PS X (.Pass pos) (sS X.K R fPass) := by
  refine ps_w ps_pass fun Dd σ H ⟨b, G, ρ, s, o, rl, e, k⟩ => ?_
  cases e
  exact k σ G ρ H rl (fun _ _ h => h) (List.prefix_refl _)
theorem pds_doc {x j} : PS X (.Expr (.Constant (.str x) j pos) pos') (sS X.K R fPass) := by
  refine ps_w ps_doc fun Dd σ H ⟨b, G, ρ, s, o, rl, e, k⟩ => ?_
  cases e
  exact k σ G ρ H rl (fun _ _ h => h) (List.prefix_refl _)
theorem pds_brk : PS X (.Break pos) (sS X.K R fBrk) := by
  refine ps_w ps_break fun Dd σ H ⟨b, G, ρ, s, o, rl, e, k⟩ => ?_
  cases e
  exact k σ G ρ H rl (fun _ _ h => h) (List.prefix_refl _)
theorem pds_cnt : PS X (.Continue pos) (sS X.K R fCnt) := by
  refine ps_w ps_continue fun Dd σ H ⟨b, G, ρ, s, o, rl, e, k⟩ => ?_
  cases e
  exact k σ G ρ H rl (fun _ _ h => h) (List.prefix_refl _)
theorem pds_no : PS X st (sS X.K R fNo) := by
  refine ps_w ps_never fun Dd σ H ⟨b, G, ρ, s, o, rl, e, k⟩ => ?_
  cases e
theorem pds_if (hc : PT X c (tTs X.K R ft)) (ha : PSs X sts (sS X.K R F)) (hb : PSs X rest (sS X.K R G')) : PS X (.If c sts rest pos) (sS X.K R (fIfS ft F G')) := by
  refine ps_w (ps_if hc ha hb) fun Dd σ H ⟨b, G, ρ, s, o, rl, e, k⟩ => ?_
  obtain ⟨⟨z, s1⟩, e1, e⟩ := bind_some' e
  refine ⟨b, G, ρ, s, z, s1, rl, e1, fun G1 ρ1 H1 r1 f1 => ?_⟩
  cases z with
  | true => exact ⟨b, G1, ρ1, s1, o, r1, e, k.later f1.gg f1.prf⟩
  | false => exact ⟨b, G1, ρ1, s1, o, r1, e, k.later f1.gg f1.prf⟩
theorem pds_ret (h : PE X e (tD X.K R fa)) : PS X (.Return (some e) pos) (sS X.K R (fRet fa)) := by
  refine ps_w (ps_ret h) fun Dd σ H ⟨b, G, ρ, s, o, rl, e, k⟩ => ?_
  obtain ⟨⟨z, s1⟩, e1, e⟩ := map_some' e
  cases e
  exact ⟨b, G, ρ, s, z, s1, rl, e1, fun v G1 ρ1 H1 r1 f1 d1 => k v σ G1 ρ1 H1 r1 d1⟩
theorem pds_retO (h : PE X e (tO X.K R fo)) : PS X (.Return (some e) pos) (sS X.K R (fRetO fo)) := by
  refine ps_w (ps_ret h) fun Dd σ H ⟨b, G, ρ, s, o, rl, e, k⟩ => ?_
  obtain ⟨⟨z, s1⟩, e1, e⟩ := map_some' e
  cases e
  exact ⟨b, G, ρ, s, z, s1, rl, e1, fun v xs G1 ρ1 H1 r1 f1 n0 n1 n2 n3 n4 n5 d1 => k v xs σ G1 ρ1 H1 r1 n0 n2 n3 n5 d1⟩
theorem pds_retN : PS X (.Return none pos) (sS X.K R fRetN) := by
  refine ps_w ps_retN fun Dd σ H ⟨b, G, ρ, s, o, rl, e, k⟩ => ?_
  cases e
  exact k .non σ G ρ H rl .non
theorem pds_exp (he : PE X e (tD X.K R fa)) (hs : swapsWith e none pos.line X.env = pure false := by rfl) : PS X (.Expr e pos) (sS X.K R (fExp fa)) := by
  refine ps_w (ps_expr he hs) fun Dd σ H ⟨b, G, ρ, s, o, rl, e, k⟩ => ?_
  obtain ⟨⟨z, s1⟩, e1, e⟩ := map_some' e
  cases e
  exact ⟨b, G, ρ, s, z, s1, rl, e1, fun v G1 ρ1 H1 r1 f1 d1 => k σ G1 ρ1 H1 r1 f1.gg f1.prf⟩
theorem pds_set {i : Nat} {x : Str} (hN : X.N.Nodup) (hi : X.N[i]? = some x) (hx : Loc X.env.scope x) (he : PE X e (tD X.K R fa)) (hs : swapsWith e (some (.Name x pos')) pos.line X.env = pure false := by rfl) (hf : X.fn x = true ∨ X.env.scope.names.lookup x = some .local := by first | exact .inl rfl | exact .inr rfl | assumption) :
    PS X (.Assign [.Name x pos'] e pos) (sS X.K R (fSet i fa)) := by
  refine ps_w (ps_set hN hi hx he hs hf) fun Dd σ H ⟨b, G, ρ, s, o, rl, e, k⟩ => ?_
  obtain ⟨⟨z, s1⟩, e1, e⟩ := map_some' e
  cases e
  exact ⟨b, G, ρ, s, z, s1, rl, e1, fun v G1 ρ1 H1 r1 f1 d1 => k _ G1 ρ1 H1 (r1.setD i d1) f1.gg f1.prf⟩
theorem pds_setO {i : Nat} {x : Str} (hN : X.N.Nodup) (hi : X.N[i]? = some x) (hx : Loc X.env.scope x) (he : PE X e (tO X.K R fo)) (hs : swapsWith e (some (.Name x pos')) pos.line X.env = pure false := by rfl) (hf : X.fn x = true ∨ X.env.scope.names.lookup x = some .local := by first | exact .inl rfl | exact .inr rfl | assumption) :
    PS X (.Assign [.Name x pos'] e pos) (sS X.K R (fSetO i fo)) := by
  refine ps_w (ps_set hN hi hx he hs hf) fun Dd σ H ⟨b, G, ρ, s, o, rl, e, k⟩ => ?_
  obtain ⟨⟨z, s1⟩, e1, e⟩ := map_some' e
  cases e
  exact ⟨b, G, ρ, s, z, s1, rl, e1, fun v xs G1 ρ1 H1 r1 f1 n0 n1 n2 n3 n4 n5 d1 => k _ G1 ρ1 H1 (r1.setO i (x := .ol z) ⟨v, xs, rfl, n0, n2, n3, n5, d1⟩ rfl n4) f1.gg f1.prf⟩
/-! targets -/
theorem pgd_name {i : Nat} {x : Str} (h : PG X (.Name x pos) (gName i)) : PG X (.Name x pos) (gS X.K R [i] (gNm i)) := by
  refine pg_w h fun v σ H Q ⟨b, G, ρ, s, d, s', rl, hd, e, k⟩ => ?_
  cases e
  refine k _ (rl.setD i hd) (fun a ⟨j, y, h1, h2, h3⟩ => ?_) (List.length_set ..) fun j hj => set_off fun e => hj (by simp [e])
  rcases set_get h1 with ⟨rfl, q⟩ | ⟨n, q⟩
  · cases q; cases h2
  · exact ⟨j, y, q, h2, by rw [set_off n] at h3; exact h3⟩
theorem pgsd_nil : PGs X [] (gSs X.K R [] gNl) := by
  refine pgs_w pgs_nil fun v σ H Q ⟨b, G, ρ, s, d, s', rl, hd, e, k⟩ => ?_
  cases hd with
  | nil => cases e; exact ⟨rfl, k _ rl (fun _ h => h) rfl fun _ _ => rfl⟩
  | cons _ _ => cases e
theorem pgsd_cons {x : Expr} {xs : List Expr} {l1 l2 : List Nat} {g : D → S → Option S} {gs : List D → S → Option S} (h : PG X x (gS X.K R l1 g)) (h2 : PGs X xs (gSs X.K R l2 gs)) (hs : (assignEach (x :: xs) X.env).map (·.2) = assign x X.env :: (assignEach xs X.env).map (·.2) := by rfl) : PGs X (x :: xs) (gSs X.K R (l1 ++ l2) (gCn g gs)) := by
  refine pgs_w (pgs_cons h h2 hs) fun v σ H Q ⟨b, G, ρ, s, d, s', rl, hd, e, k⟩ => ?_
  cases hd with
  | nil => cases e
  | cons h t =>
    obtain ⟨s1, e1, e⟩ := bind_some' e
    exact ⟨_, _, rfl, b, G, ρ, s, _, s1, rl, h, e1, fun σ1 r1 o1 z1 w1 => ⟨b, G, ρ, s1, _, s', r1, t, e, fun σ2 r2 o2 z2 w2 => k σ2 r2 (fun a q => o1 a (o2 a q)) (z2.trans z1) fun i hi => (w2 i fun q => hi (List.mem_append_right _ q)).trans (w1 i fun q => hi (List.mem_append_left _ q))⟩⟩
theorem pgd_tup {n : Nat} {sl : List Nat} {tg : Expr} {gs : List D → S → Option S} (h : PG X tg (gTup X.K n (gSs X.K R sl gs))) : PG X tg (gS X.K R sl (gTp n gs)) := by
  refine pg_w h fun v σ H Q ⟨b, G, ρ, s, d, s', rl, hd, e, k⟩ => ?_
  unfold gTp at e
  split at e
  · split at e
    · rename_i hl
      cases hd with
      | tup h1 t1 => exact ⟨_, _, rfl, rl.sub.sqt h1, by rw [t1.len]; exact hl, b, G, ρ, s, _, s', rl, t1, e, k⟩
    · cases e
  · cases e
theorem pds_asg {tg : Expr} {sl : List Nat} {g : D → S → Option S} {p : Pos} (h : PS X (.Assign [tg] e pos) (tAsg (tD X.K R fa) (gS X.K R sl g))) : PS X (.Assign [tg] e pos) (sS X.K R (fAsg fa g)) := by
  refine ps_w h fun Dd σ H ⟨b, G, ρ, s, o, rl, e, k⟩ => ?_
  obtain ⟨⟨z, s1⟩, e1, e⟩ := bind_some' e
  obtain ⟨s2, e2, e⟩ := map_some' e
  cases e
  exact ⟨b, G, ρ, s, z, s1, rl, e1, fun v G1 ρ1 H1 r1 f1 d1 => ⟨b, G1, ρ1, s1, z, s2, r1, d1, e2, fun σ2 r2 _ _ _ => k σ2 G1 ρ1 H1 r2 f1.gg f1.prf⟩⟩
theorem pds_par {i j : Nat} (h : PS X st (tPar i j (tL X.K R fl))) : PS X st (sS X.K R (fPar i j fl)) := by
  refine ps_w h fun Dd σ H ⟨b, G, ρ, s, o, rl, e, k⟩ => ?_
  obtain ⟨⟨z, s1⟩, e1, e⟩ := bind_some' e
  dsimp only at e
  split at e
  · cases e
    refine ⟨b, G, ρ, s, _, s1, rl, e1, fun vs G1 ρ1 H1 r1 f1 d1 => ?_⟩
    cases d1 with
    | cons h1 t1 =>
      cases t1 with
      | cons h2 t2 =>
        cases t2
        exact ⟨_, _, rfl, k _ G1 ρ1 H1 ((r1.setD i h1).setD j h2) f1.gg f1.prf⟩
  · cases e
end
/-! ### loops -/
section
variable {X : Cx} {R : OR} {e a c tg iter : Expr} {sts rest : List Stmt} {fa fe f : FD} {fo fl fi : FO} {ft : FT} {F : FS} {pos pos' : Pos} {g : D → S → Option S} (hR : RMono R)
include hR
/-- an item has come -/
theorem DW.turn {K : PySem.W.Frag} {b : Bs} {G G1 H1 H2 : Hp} {ρ ρ1 : List Addr} {σ : L2.St} {s : S} {x : V} {d : D} (rl : Rel K R b G1 ρ1 σ H1 s) (gg : Same G G1) (p : ρ <+: ρ1)
    (y : (H2 = H1 ∧ RD K R G ρ x d) ∨ ∃ p xs es, x = .ref p ∧ H1 p = none ∧ H2 = upd H1 p (.tup xs) ∧ d = .tup es ∧ RDs K R G ρ xs es) :
    ∃ G2, Rel K R b G2 ρ1 σ H2 s ∧ Fr σ s.env G1 H1 ρ1 s.env G2 H2 ρ1 ∧ RD K R G2 ρ1 x d := by
  rcases y with ⟨rfl, h⟩ | ⟨q, xs, es, rfl, hq, rfl, rfl, h⟩
  · exact ⟨G1, rl, .refl, h.mono hR gg p⟩
  · obtain ⟨r2, f2⟩ := rl.new hR (.tup xs) hq
    exact ⟨_, r2, f2, .tup (SqT.of upd_same) (h.mono hR (gg.trans f2.gg) p)⟩
theorem get_cons {l : List D} {i : Nat} {d : D} (h : l[i]? = some d) : l.drop i = d :: l.drop (i + 1) := by
  rw [List.drop_eq_getElem_cons (List.getElem?_eq_some_iff.mp h).1, (List.getElem?_eq_some_iff.mp h).2]
theorem pds_for (hi : PI X tg iter (iD X.K R fi)) {sl : List Nat} (hg : PG X tg (gS X.K R sl g)) (hb : PSs X sts (sS X.K R F)) (hc : X.calm = true) (hp : PassesOwn (model X.prog X.w) X.A X.env X.xe) (hs : ∀ x, foldedSetIterable iter X.env x = pure x := by intro _; rfl) :
    PS X (.For tg iter sts [] pos) (sS X.K R (fFor fi g F)) := by
  refine ps_w (ps_for hp hc hi hg hb hs) fun Dd σ H ⟨b, G, ρ, s, o, rl, e, k⟩ => ?_
  obtain ⟨⟨ds, s1⟩, e1, e⟩ := bind_some' e
  refine ⟨b, G, ρ, s, ds, s1, rl, e1, fun G1 ρ1 H1 J r1 f1 ⟨Gd, Y, wk, gd, yd⟩ => ?_⟩
  have k1 := k.later f1.gg f1.prf
  refine for_it wk (fun i σ' H' => ∃ G2 ρ2 s2, Rel X.K R b G2 ρ2 σ' H' s2 ∧ Same G1 G2 ∧ ρ1 <+: ρ2 ∧ forGo g F (ds.drop i) s2 = some o) ⟨G1, ρ1, s1, r1, fun _ _ h => h, List.prefix_refl _, e⟩ (fun i σ' H' _ ⟨G2, ρ2, s2, r2, g2, _⟩ => gd H' (g2.trans r2.sub)) ?_ ?_
  · rintro i x σ' H2 H3 hi ⟨G2, ρ2, s2, r2, g2, p2, e2⟩ y
    have hd : ds[i]? = some (ds[i]'hi) := List.getElem?_eq_getElem hi
    rw [get_cons hR hd] at e2
    obtain ⟨s3, e3, e2⟩ := bind_some' e2
    obtain ⟨o', e4, e2⟩ := bind_some' e2
    obtain ⟨G3, r3, f3, d3⟩ := DW.turn hR r2 g2 p2 (yd i x H2 H3 _ hd (g2.trans r2.sub) y)
    refine ⟨b, G3, ρ2, s2, _, s3, r3, d3, e3, fun σ4 r4 _ _ _ => ⟨b, G3, ρ2, s3, o', r4, e4, ?_⟩⟩
    have g3 := g2.trans f3.gg
    cases o' with
    | nx s5 => exact fun σ5 G5 ρ5 H5 r5 g5 p5 => ⟨G5, ρ5, s5, r5, g3.trans g5, p2.trans p5, e2⟩
    | ct s5 => exact fun σ5 G5 ρ5 H5 r5 g5 p5 => ⟨G5, ρ5, s5, r5, g3.trans g5, p2.trans p5, e2⟩
    | bk s5 => cases e2; exact fun σ5 G5 ρ5 H5 r5 g5 p5 => k1 σ5 G5 ρ5 H5 r5 (g3.trans g5) (p2.trans p5)
    | rt z s5 => cases e2; exact k1
    | ro z s5 => cases e2; exact k1
  · rintro σ' H2 ⟨G2, ρ2, s2, r2, g2, p2, e2⟩
    rw [List.drop_length] at e2
    cases e2
    exact k1 σ' G2 ρ2 H2 r2 g2 p2
omit hR in
theorem pds_wh {n : Nat} (hc : PT X c (tTs X.K R ft)) (hb : PSs X sts (sS X.K R F)) (hp : PassesOwn (model X.prog X.w) X.A X.env X.xe) : PS X (.While c sts [] pos) (sS X.K R (fWh n ft F)) := by
  refine ps_w (ps_while hp (pt_mono hc) hb) fun Dd σ H ⟨b, G, ρ, s, o, rl, e, k⟩ => ?_
  refine while_ix (fun m σ' H' => ∃ G2 ρ2 s2, Rel X.K R b G2 ρ2 σ' H' s2 ∧ Same G G2 ∧ ρ <+: ρ2 ∧ whGo ft F m s2 = some o) n ⟨G, ρ, s, rl, fun _ _ h => h, List.prefix_refl _, e⟩ ?_
  rintro m σ' H' ⟨G2, ρ2, s2, r2, g2, p2, e2⟩
  cases m with
  | zero => cases e2
  | succ m =>
    obtain ⟨⟨z, s3⟩, e3, e2⟩ := bind_some' e2
    refine ⟨b, G2, ρ2, s2, z, s3, r2, e3, fun G3 ρ3 H3 r3 f3 => ?_⟩
    cases z with
    | true =>
      obtain ⟨o', e4, e2⟩ := bind_some' e2
      rw [if_pos rfl]
      refine ⟨b, G3, ρ3, s3, o', r3, e4, ?_⟩
      have k1 := k.later (g2.trans f3.gg) (p2.trans f3.prf)
      cases o' with
      | nx s5 => exact fun σ5 G5 ρ5 H5 r5 g5 p5 => ⟨m, Nat.lt_succ_self m, G5, ρ5, s5, r5, (g2.trans f3.gg).trans g5, (p2.trans f3.prf).trans p5, e2⟩
      | ct s5 => exact fun σ5 G5 ρ5 H5 r5 g5 p5 => ⟨m, Nat.lt_succ_self m, G5, ρ5, s5, r5, (g2.trans f3.gg).trans g5, (p2.trans f3.prf).trans p5, e2⟩
      | bk s5 => cases e2; exact k1
      | rt z s5 => cases e2; exact k1
      | ro z s5 => cases e2; exact k1
    | false =>
      cases e2
      rw [if_neg Bool.false_ne_true]
      exact k σ' G3 ρ3 H3 r3 (g2.trans f3.gg) (p2.trans f3.prf)
end
end PL
end

section
namespace PL
open PySem PySem.Spec PyProof.Rows L2 Ev
theorem wipe_off {σ : L2.St} {i : Nat} : ∀ {vs : List Nat}, i ∉ vs → (wipe σ vs)[i]? = σ[i]?
  | [], _ => rfl
  | v :: vs, h => by
    rw [List.mem_cons, not_or] at h
    show ((wipe σ vs).set v none)[i]? = _
    rw [List.getElem?_set_ne (fun e => h.1 e.symm)]
    exact wipe_off h.2
theorem wipe_in {σ : L2.St} {i : Nat} : ∀ {vs : List Nat}, i ∈ vs → (wipe σ vs)[i]? = if i < σ.length then some none else none
  | v :: vs, h => by
    show ((wipe σ vs).set v none)[i]? = _
    by_cases hv : v = i
    · subst hv
      by_cases hl : v < σ.length
      · rw [if_pos hl, List.getElem?_set_self (by rw [wipe_length]; exact hl)]
      · rw [if_neg hl, List.getElem?_eq_none (by rw [List.length_set, wipe_length]; omega)]
    · rw [List.getElem?_set_ne hv]
      rcases List.mem_cons.mp h with e | h
      · exact absurd e.symm hv
      · exact wipe_in h
theorem wipe_eq {σ σ2 : L2.St} {vs : List Nat} (hl : σ2.length = σ.length) (h : ∀ i, i ∉ vs → σ2[i]? = σ[i]?) : wipe σ2 vs = wipe σ vs := by
  refine List.ext_getElem? fun i => ?_
  by_cases hi : i ∈ vs
  · rw [wipe_in hi, wipe_in hi, hl]
  · rw [wipe_off hi, wipe_off hi]
    exact h i hi
theorem wipeE_len {e : Env} : ∀ {vs : List Nat}, (wipeE e vs).length = e.length
  | [] => rfl
  | v :: vs => by
    show ((wipeE e vs).set v none).length = _
    rw [List.length_set, wipeE_len]
theorem wipeE_some {e : Env} {i : Nat} {x : Sl} : ∀ {vs : List Nat}, (wipeE e vs)[i]? = some (some x) → e[i]? = some (some x) ∧ i ∉ vs
  | [], h => ⟨h, by simp⟩
  | v :: vs, h => by
    have h : ((wipeE e vs).set v none)[i]? = some (some x) := h
    rcases set_get h with ⟨_, q⟩ | ⟨n, q⟩
    · cases q
    · obtain ⟨a, b⟩ := wipeE_some q
      exact ⟨a, by rw [List.mem_cons, not_or]; exact ⟨fun e => n e.symm, b⟩⟩
theorem backE_len {e0 e : Env} {vs : List Nat} : (backE e0 e vs).length = e.length := by simp [backE]
theorem backE_some {e0 e : Env} {vs : List Nat} {i : Nat} {x : Sl} (h : (backE e0 e vs)[i]? = some (some x)) : (i ∈ vs ∧ e0[i]? = some (some x) ∧ x.own = false) ∨ (i ∉ vs ∧ e[i]? = some (some x)) := by
  unfold backE at h
  rw [List.getElem?_map] at h
  cases q : (List.range e.length)[i]? with
  | none => rw [q] at h; cases h
  | some j =>
    rw [q] at h
    have hj := (List.getElem?_eq_some_iff.mp q)
    obtain ⟨hl, hj⟩ := hj
    rw [List.getElem_range] at hj
    subst hj
    have h : (if i ∈ vs then onlyD (e0.getD i none) else e.getD i none) = some x := Option.some.inj h
    by_cases hi : i ∈ vs
    · rw [if_pos hi] at h
      left
      rw [List.getD_eq_getElem?_getD] at h
      cases q2 : e0[i]? with
      | none => rw [q2] at h; cases h
      | some y =>
        rw [q2] at h
        cases y with
        | none => cases h
        | some y =>
          cases y with
          | d z => cases h; exact ⟨hi, rfl, rfl⟩
          | ol _ => cases h
          | od _ _ => cases h
    · rw [if_neg hi, List.getD_eq_getElem?_getD] at h
      right
      refine ⟨hi, ?_⟩
      cases q2 : e[i]? with
      | none => rw [q2] at h; cases h
      | some y => rw [q2] at h; exact congrArg some h
section
variable {K : PySem.W.Frag} {R : OR} {b : Bs} {G G0 H H0 G' H' : Hp} {ρ ρ0 ρ' : List Addr} {σ σ2 : L2.St} {s s0 : S} {e e' e2 e2' : Env} (hR : RMono R)
theorem Fr.conv (f : Fr σ2 e2 G H ρ e2' G' H' ρ') (h1 : ∀ a, Own e2 σ2 a → Own e σ a) (h2 : ∀ a, Own e' σ a → Own e2' σ2 a) : Fr σ e G H ρ e' G' H' ρ' :=
  ⟨f.gg, fun a o h n no => f.keep a o h n fun q => no (h1 a q), f.there, fun a h => by rcases f.gnew a h with h | h | h; exact .inl h; exact .inr (.inl h); exact .inr (.inr (h1 a h)), f.pre, fun a h => h1 a (f.own a (h2 a h))⟩
theorem Rel.other (r : Rel K R b G ρ σ H s) {a : Addr} {o : HO} (h0 : b.H a = none) (h1 : G a = none) (h2 : a ∉ ρ) (h3 : ¬ Own s.env σ a) (hnt : isTupH o = false) : Rel K R b G ρ σ (upd H a o) s := by
  refine ⟨⟨r.le.gg, fun c u h n => ?_, fun c h => ?_, r.le.gnew, r.le.pre⟩, fun c u h => ?_, ⟨fun c u h ht => by
    by_cases hc : c = a
    · subst hc; rw [upd_same] at h; cases h; rw [hnt] at ht; cases ht
    · rw [upd_ne hc] at h; exact r.cells.tups c u h ht, r.cells.nd, r.cells.cl, fun i c ds e1 e2 => ?_⟩, r.el, fun i x e1 => ?_, r.sep⟩
  · rw [upd_ne fun q => by rw [q, h0] at h; cases h]; exact r.le.keep c u h n
  · by_cases hc : c = a
    · subst hc; rw [upd_same]; exact nofun
    · rw [upd_ne hc]; exact r.le.there c h
  · rw [upd_ne fun q => by rw [q, h1] at h; cases h]; exact r.sub c u h
  · obtain ⟨q1, xs, q2, q3⟩ := r.cells.at_ i c ds e1 e2
    exact ⟨q1, xs, by rw [upd_ne fun q => h2 (by rw [← q]; exact List.mem_of_getElem? e1)]; exact q2, q3⟩
  · obtain ⟨v, q1, q2⟩ := r.env i x e1
    refine ⟨v, q1, ?_⟩
    cases x with
    | d x => exact q2
    | ol ds =>
      obtain ⟨c, xs, rfl, w⟩ := q2
      exact ⟨c, xs, rfl, w.1, w.2.1, w.2.2.1, by rw [upd_ne fun q => h3 (by rw [← q]; exact ⟨i, _, e1, rfl, q1⟩)]; exact w.2.2.2.1, w.2.2.2.2⟩
    | od ks ds =>
      obtain ⟨c, xs, rfl, w⟩ := q2
      exact ⟨c, xs, rfl, w.1, w.2.1, w.2.2.1, by rw [upd_ne fun q => h3 (by rw [← q]; exact ⟨i, _, e1, rfl, q1⟩)]; exact w.2.2.2.1, w.2.2.2.2⟩
theorem Fr.other (f : Fr σ e G H ρ e' G' H' ρ') {a : Addr} {o : HO} (h : H a = none) : Fr σ e G H ρ e' G' (upd H' a o) ρ' := by
  refine ⟨f.gg, fun c u h1 n no => ?_, fun c h1 => ?_, f.gnew, f.pre, f.own⟩
  · rw [upd_ne fun q => by rw [q, h] at h1; cases h1]; exact f.keep c u h1 n no
  · by_cases hc : c = a
    · subst hc; rw [upd_same]; exact nofun
    · rw [upd_ne hc]; exact f.there c h1
include hR
/-- behind a comprehension's turn -/
theorem Rel.unwipe (r : Rel K R b G ρ σ2 H s) {vs : List Nat} (hw : wipe σ2 vs = wipe σ vs) (r0 : Rel K R b G0 ρ0 σ H0 s0) (gg : Same G0 G) (p : ρ0 <+: ρ) :
    Rel K R b G ρ σ H ⟨backE s0.env s.env vs, s.cs⟩ ∧ ∀ a, Own (backE s0.env s.env vs) σ a → Own s.env σ2 a := by
  have off : ∀ {i : Nat}, i ∉ vs → σ2[i]? = σ[i]? := fun {i} h => by rw [← wipe_off h, hw, wipe_off h]
  have ow : ∀ (i : Nat) (x : Sl), (backE s0.env s.env vs)[i]? = some (some x) → x.own = true → i ∉ vs ∧ s.env[i]? = some (some x) := fun i x h h2 => by
    rcases backE_some h with ⟨_, _, q⟩ | q
    · rw [q] at h2; cases h2
    · exact q
  refine ⟨⟨r.le, r.sub, r.cells, ?_, fun i x e => ?_, fun i j x y a h1 h2 h3 h4 h5 h6 => ?_⟩, fun a ⟨i, x, h1, h2, h3⟩ => ?_⟩
  · show (backE s0.env s.env vs).length = _
    rw [backE_len, r.el]
    have := congrArg List.length hw
    rwa [wipe_length, wipe_length] at this
  · rcases backE_some e with ⟨h1, h2, h3⟩ | ⟨h1, h2⟩
    · obtain ⟨v, q1, q2⟩ := r0.env i x h2
      cases x with
      | d x => exact ⟨v, q1, RD.mono hR gg p q2⟩
      | ol _ => cases h3
      | od _ _ => cases h3
    · obtain ⟨v, q1, q2⟩ := r.env i x h2
      exact ⟨v, by rw [← off h1]; exact q1, q2⟩
  · obtain ⟨a1, a2⟩ := ow i x h1 h3
    obtain ⟨a3, a4⟩ := ow j y h2 h4
    exact r.sep i j x y a a2 a4 h3 h4 (by rw [off a1]; exact h5) (by rw [off a3]; exact h6)
  · obtain ⟨a1, a2⟩ := ow i x h1 h2
    exact ⟨i, x, a2, h2, by rw [off a1]; exact h3⟩
end
section
variable {X : Cx} {R : OR} {elt tg iter : Expr} {ifs : List Expr} {scope : Scope} {own : List (Str × Nat)} {fe : FD} {fi : FO} {ft : FT} {pos pos' : Pos} {g : D → S → Option S} (hR : RMono R)
include hR
theorem lc_ok {σ : L2.St} {H : Hp} {Q : VK} {vs sl : List Nat} (hsl : ∀ i ∈ sl, i ∈ vs) (h : tO X.K R (fLc vs fi g ft fe) σ H Q) : tLc (iD X.K R fi) (gS X.K R sl g) (tTs X.K R ft) (tD X.K R fe) vs σ H Q := by
  obtain ⟨b, G, ρ, s, r, s', rl, e, k⟩ := h
  obtain ⟨⟨ds, s1⟩, e1, e⟩ := bind_some' e
  dsimp only at e
  split at e
  case isFalse => cases e
  rename_i hlen
  refine ⟨b, G, ρ, s, ds, s1, rl, e1, fun G1 ρ1 H1 J r1 f1 ⟨Gd, Y, wk, gd, yd⟩ Dn hDn => ?_⟩
  have hb : b.H Dn = none := by
    cases z : b.H Dn with
    | none => rfl
    | some o => exact absurd hDn (r1.le.there Dn (some_ne z))
  have hH : H Dn = none := by
    cases z : H Dn with
    | none => rfl
    | some o => exact absurd hDn (f1.there Dn (some_ne z))
  have hG := r1.sub.free hDn
  have hρ : Dn ∉ ρ1 := fun q => (r1.cells.some q).1 hDn
  have hO : ¬ Own s1.env σ Dn := fun q => (r1.ownB q).2.2.2 hDn
  refine lc_it wk (fun i H' => ∃ G2 ρ2 s2 acc es rest, Rel X.K R b G2 ρ2 σ H' s2 ∧ Fr σ s1.env G1 H1 ρ1 s2.env G2 H' ρ2 ∧ H' Dn = some (.lst acc) ∧ RDs X.K R G2 ρ2 acc es ∧ acc.length ≤ i ∧ G2 Dn = none ∧ Dn ∉ ρ2 ∧ ¬ Own s2.env σ Dn ∧ lcGo s1.env vs g ft fe (ds.drop i) s2 = some (rest, s') ∧ r = es ++ rest) ?_ (fun i H' _ ⟨G2, ρ2, s2, _, _, _, r2, f2, _⟩ => gd H' (f2.gg.trans r2.sub)) ?_ ?_
  · exact ⟨G1, ρ1, s1, [], [], r, r1.other hb hG hρ hO rfl, Fr.refl.other hDn, upd_same, .nil, Nat.le_refl _, hG, hρ, hO, e, rfl⟩
  · rintro i x H2 H3 hi ⟨G2, ρ2, s2, acc, es, rest, r2, f2, hD, hacc, hal, g2, p2, o2, e2, er⟩ y
    have hd : ds[i]? = some (ds[i]'hi) := List.getElem?_eq_getElem hi
    rw [get_cons hR hd] at e2
    obtain ⟨s3, e3, e2⟩ := bind_some' e2
    obtain ⟨⟨c, s4⟩, e4, e2⟩ := bind_some' e2
    obtain ⟨G3, r3, f3, d3⟩ := DW.turn hR r2 f2.gg f2.prf (yd i x H2 H3 _ hd (f2.gg.trans r2.sub) y)
    have rw3 : Rel X.K R b G3 ρ2 (wipe σ vs) H3 ⟨wipeE s2.env vs, s2.cs⟩ := r3.drop (by rw [wipeE_len, wipe_length]; exact r3.el) fun i x e => ⟨(wipeE_some e).1, wipe_off (wipeE_some e).2⟩
    have ow3 : ∀ a, Own (wipeE s2.env vs) (wipe σ vs) a → Own s2.env σ a := fun a ⟨j, z, q1, q2, q3⟩ => ⟨j, z, (wipeE_some q1).1, q2, by rw [← wipe_off (wipeE_some q1).2]; exact q3⟩
    refine ⟨b, G3, ρ2, _, _, s3, rw3, d3, e3, fun σ2 r4 o4 l4 w4 => ?_⟩
    have hw : wipe σ2 vs = wipe σ vs := wipe_eq (l4.trans (wipe_length _ _)) fun i hi => (w4 i fun q => hi (hsl i q)).trans (wipe_off hi)
    have ow4 : ∀ a, Own s3.env σ2 a → Own s2.env σ a := fun a q => ow3 a (o4 a q)
    refine ⟨hw, b, G3, ρ2, s3, c, s4, r4, e4, fun G5 ρ5 H5 r5 f5 => ?_⟩
    have hD3 : H3 Dn = some (.lst acc) := f3.keep Dn _ hD p2 o2
    have f35 : Fr σ2 s3.env G3 H3 ρ2 s4.env G5 H5 ρ5 := f5
    -- behind the whole turn
    have fin : ∀ {s6 : S} {G6 H6 : Hp} {ρ6 : List Addr}, Rel X.K R b G6 ρ6 σ2 H6 s6 → Fr σ2 s3.env G3 H3 ρ2 s6.env G6 H6 ρ6 → Rel X.K R b G6 ρ6 σ H6 ⟨backE s1.env s6.env vs, s6.cs⟩ ∧ Fr σ s1.env G1 H1 ρ1 (backE s1.env s6.env vs) G6 H6 ρ6 ∧ H6 Dn = some (.lst acc) ∧ RDs X.K R G6 ρ6 acc es ∧ G6 Dn = none ∧ Dn ∉ ρ6 ∧ ¬ Own (backE s1.env s6.env vs) σ Dn := fun {s6 G6 H6 ρ6} r6 f6 => by
      obtain ⟨r7, o7⟩ := r6.unwipe hR hw r1 ((f2.gg.trans f3.gg).trans f6.gg) ((f2.prf).trans f6.prf)
      have f7 : Fr σ s2.env G3 H3 ρ2 (backE s1.env s6.env vs) G6 H6 ρ6 := f6.conv ow4 o7
      have g3 : G3 Dn = none := by
        cases z : G3 Dn with
        | none => rfl
        | some o =>
          rcases f3.gnew Dn (some_ne z) with q | q | q
          · exact absurd g2 q
          · rw [hD] at q; cases q
          · exact absurd q o2
      refine ⟨r7, (f2.trans f3).trans f7, f7.keep Dn _ hD3 p2 o2, hacc.mono hR (f3.gg.trans f6.gg) (f3.prf.trans f6.prf), ?_, ?_, fun q => o2 (f7.own Dn q)⟩
      · cases z : G6 Dn with
        | none => rfl
        | some o =>
          rcases f7.gnew Dn (some_ne z) with q | q | q
          · exact absurd g3 q
          · rw [hD3] at q; cases q
          · exact absurd q o2
      · obtain ⟨t, et, ht⟩ := f7.pre
        rw [et]
        intro q
        rcases List.mem_append.mp q with q | q
        · exact p2 q
        · have := ht Dn q; rw [hD3] at this; cases this
    cases c with
    | false =>
      refine iteF ?_
      obtain ⟨r7, f7, h7, a7, n7, p7, o7⟩ := fin r5 f5
      exact ⟨G5, ρ5, _, acc, es, rest, r7, f7, h7, a7, by omega, n7, p7, o7, e2, er⟩
    | true =>
      refine iteT ?_
      obtain ⟨⟨z, s6⟩, e6, e2⟩ := bind_some' e2
      obtain ⟨⟨t, s7⟩, e7, e2⟩ := map_some' e2
      cases e2
      refine ⟨b, G5, ρ5, s4, z, s6, r5, e6, fun v G6 ρ6 H6 r6 f6 d6 => ?_⟩
      obtain ⟨r7, f7, h7, a7, n7, p7, o7⟩ := fin r6 (f5.trans f6)
      refine ⟨acc, h7, lt_line (by omega), G6, ρ6, _, acc ++ [v], es ++ [z], t, r7.other hb n7 p7 o7 rfl, f7.other hDn, upd_same, RDs.app (.cons d6 .nil) a7, by rw [List.length_append]; simp; omega, n7, p7, o7, e7, by rw [er, List.append_assoc]; rfl⟩
  · rintro H2 ⟨G2, ρ2, s2, acc, es, rest, r2, f2, hD, hacc, hal, g2, p2, o2, e2, er⟩
    rw [List.drop_length] at e2
    cases e2
    rw [List.append_nil] at er
    subst er
    exact k Dn acc G2 ρ2 H2 r2 (f1.trans f2) hb hH g2 p2 o2 hD hacc
theorem pd_lc {sl : List Nat} (hc : X.calm = true) (hN : X.N.Nodup) (hi : PI X tg iter (iD X.K R fi)) (ok : BlkOk X.N X.env.scope scope own)
    (hg : ∀ (s : Shared) (H : Hp) (C : Addr) (cl : List (Str × Addr)) (fp : List Addr), PG (X.blk s H scope (compEnvC scope cl C X.env) fp) tg (gS X.K R sl g)) (hsl : ∀ i ∈ sl, i ∈ own.map (·.2))
    (ht : ∀ (s : Shared) (H : Hp) (C : Addr) (cl : List (Str × Addr)) (fp : List Addr), PTs (X.blk s H scope (compEnvC scope cl C X.env) fp) ifs (tTs X.K R ft))
    (he : ∀ (s : Shared) (H : Hp) (C : Addr) (cl : List (Str × Addr)) (fp : List Addr), PE (X.blk s H scope (compEnvC scope cl C X.env) fp) elt (tD X.K R fe)) (hs : ∀ x, foldedSetIterable iter X.env x = pure x := by intro _; rfl) :
    PE X (.ListComp elt [⟨tg, iter, ifs, 0⟩] scope pos) (tO X.K R (fLc (own.map (·.2)) fi g ft fe)) :=
  pd_w (pe_lc hc hN hi ok hg ht he hs) fun σ H Q h => lc_ok hR hsl h
theorem pds_setLc {sl : List Nat} {i : Nat} {y : Str} {py spos : Pos} (hc : X.calm = true) (hN : X.N.Nodup) (hy : X.N[i]? = some y) (hyl : X.env.scope.names.lookup y = some .local)
    (hsw : swapsWith (.ListComp elt [⟨tg, iter, ifs, 0⟩] scope pos) (some (.Name y py)) spos.line X.env = pure true) (hi : PI X tg iter (iD X.K R fi)) (ok : BlkOk X.N X.env.scope scope own)
    (hg : ∀ (s : Shared) (H : Hp) (C : Addr) (cl : List (Str × Addr)) (fp : List Addr), PG (X.blk s H scope (compEnvC scope cl C X.env) fp) tg (gS X.K R sl g)) (hsl : ∀ i ∈ sl, i ∈ own.map (·.2))
    (ht : ∀ (s : Shared) (H : Hp) (C : Addr) (cl : List (Str × Addr)) (fp : List Addr), PTs (X.blk s H scope (compEnvC scope cl C X.env) fp) ifs (tTs X.K R ft))
    (he : ∀ (s : Shared) (H : Hp) (C : Addr) (cl : List (Str × Addr)) (fp : List Addr), PE (X.blk s H scope (compEnvC scope cl C X.env) fp) elt (tD X.K R fe)) (hs : ∀ x, foldedSetIterable iter X.env x = pure x := by intro _; rfl) :
    PS X (.Assign [.Name y py] (.ListComp elt [⟨tg, iter, ifs, 0⟩] scope pos) spos) (sS X.K R (fSetO i (fLc (own.map (·.2)) fi g ft fe))) := by
  refine ps_w (ps_setLc hc hN hy hyl hsw hi ok hg ht he hs) fun Dd σ H ⟨b, G, ρ, s, o, rl, e, k⟩ => ?_
  obtain ⟨⟨z, s1⟩, e1, e⟩ := map_some' e
  cases e
  refine lc_ok hR hsl ⟨b, G, ρ, s, z, s1, rl, e1, fun v xs G1 ρ1 H1 r1 f1 n0 n1 n2 n3 n4 n5 d1 => ?_⟩
  exact k _ G1 ρ1 H1 (r1.setO i (x := .ol z) ⟨v, xs, rfl, n0, n2, n3, n5, d1⟩ rfl n4) f1.gg f1.prf
theorem ptd_yes {sts : List Expr} (h : PTs X sts tYes) : PTs X sts (tTs X.K R fYes) := ⟨fun pins s σ H Q I ⟨b, G, ρ, s0, r, s', rl, e, k⟩ => h.run pins s σ H Q I (by
  cases e
  exact k G ρ H rl .refl)⟩
theorem ptd_one {c : Expr} (h : PT X c (tTs X.K R ft)) : PTs X [c] (tTs X.K R ft) := pts_one h
end
end PL
end

section
namespace PL
open PySem PySem.Spec PyProof.Rows L2 Ev
section
variable {X : Cx} {R : OR} {e a c o ie : Expr} {es : List Expr} {fa fb fe fp fx f : FD} {fo fl : FO} {pos pos' : Pos} (hR : RMono R)
include hR
theorem own_at {K : PySem.W.Frag} {b : Bs} {G H : Hp} {ρ : List Addr} {σ : L2.St} {s : S} {i : Nat} {ds : List D} (rl : Rel K R b G ρ σ H s) (h : s.env[i]? = some (some (.ol ds))) :
    ∃ a xs, σ[i]? = some (some (.ref a)) ∧ H a = some (.lst xs) ∧ RDs K R G ρ xs ds := by
  obtain ⟨v, e1, a, xs, rfl, h1, h2, h3, h4, h5⟩ := rl.env i _ h
  exact ⟨a, xs, e1, h4, h5⟩
/-- x.append(e) -/
theorem pds_app {i : Nat} (h : PS X (.Expr e pos) (tDrop (tBM X.K "list" rAppend (tVar i) (tCons (tD X.K R fe) tNil)))) : PS X (.Expr e pos) (sS X.K R (fApp i fe)) := by
  refine ps_w h fun Dd σ H ⟨b, G, ρ, s, o, rl, e, k⟩ => ?_
  unfold fApp at e
  split at e
  · rename_i d0 q0
    obtain ⟨⟨z, s1⟩, e1, e⟩ := bind_some' e
    dsimp only at e
    split at e
    · rename_i ds q1
      split at e
      · rename_i hl
        cases e
        obtain ⟨a, xs, h1, h2, h3⟩ := own_at hR rl q0
        refine ⟨_, h1, .inl ⟨rfl, _, SqL.of h2⟩, b, G, ρ, s, z, s1, rl, e1, fun v G1 ρ1 H1 r1 f1 d1 => ?_⟩
        obtain ⟨a', ys, h4, h5, h6⟩ := own_at hR r1 q1
        rw [h1] at h4
        cases h4
        refine ⟨a, ys, v, rfl, rfl, h5, lt_line (by rw [h6.len]; omega), ?_⟩
        obtain ⟨r2, f2⟩ := r1.write hR (z := .ol (ds ++ [z])) (o := .lst (ys ++ [v])) q1 rfl h1 rfl rfl fun w1 w2 w3 => ⟨a, _, rfl, w1, w2, w3, upd_same, RDs.app (.cons d1 .nil) h6⟩
        exact k σ G1 ρ1 _ r2 f1.gg f1.prf
      · cases e
    · cases e
  · cases e
theorem pds_ext {i : Nat} (h : PS X (.Expr e pos) (tDrop (tBM X.K "list" rExtend (tVar i) (tCons (tD X.K R fe) tNil)))) : PS X (.Expr e pos) (sS X.K R (fExt i fe)) := by
  refine ps_w h fun Dd σ H ⟨b, G, ρ, s, o, rl, e, k⟩ => ?_
  unfold fExt at e
  split at e
  · rename_i d0 q0
    obtain ⟨⟨z, s1⟩, e1, e⟩ := bind_some' e
    dsimp only at e
    split at e
    · rename_i zs ds q1
      split at e
      · rename_i hl
        cases e
        obtain ⟨a, xs, h1, h2, h3⟩ := own_at hR rl q0
        refine ⟨_, h1, .inl ⟨rfl, _, SqL.of h2⟩, b, G, ρ, s, _, s1, rl, e1, fun v G1 ρ1 H1 r1 f1 d1 => ?_⟩
        obtain ⟨a', ys, h4, h5, h6⟩ := own_at hR r1 q1
        rw [h1] at h4
        cases h4
        cases d1 with
        | lst g1 t1 =>
          refine ⟨a, _, ys, _, rfl, rfl, h5, r1.sub _ _ g1, le_line (by rw [h6.len, t1.len]; omega), ?_⟩
          obtain ⟨r2, f2⟩ := r1.write hR (z := .ol (ds ++ zs)) (o := .lst _) q1 rfl h1 rfl rfl fun w1 w2 w3 => ⟨a, _, rfl, w1, w2, w3, upd_same, RDs.app t1 h6⟩
          exact k σ G1 ρ1 _ r2 f1.gg f1.prf
      · cases e
    · cases e
  · cases e
/-- x.pop(e) -/
theorem pd_pop {i : Nat} (h : PE X e (tBM X.K "list" rPopAt (tVar i) (tCons (tD X.K R fe) tNil))) : PE X e (tD X.K R (fPop i fe)) := by
  refine pd_w h fun σ H Q ⟨b, G, ρ, s, r, s', rl, e, k⟩ => ?_
  unfold fPop at e
  split at e
  · rename_i d0 q0
    obtain ⟨⟨z, s1⟩, e1, e⟩ := bind_some' e
    dsimp only at e
    split at e
    · rename_i j ds q1
      split at e
      · rename_i hl
        obtain ⟨y, e2, e⟩ := map_some' e
        cases e
        obtain ⟨a, xs, h1, h2, h3⟩ := own_at hR rl q0
        refine ⟨_, h1, .inl ⟨rfl, _, SqL.of h2⟩, b, G, ρ, s, _, s1, rl, e1, fun v G1 ρ1 H1 r1 f1 d1 => ?_⟩
        obtain ⟨a', ys, h4, h5, h6⟩ := own_at hR r1 q1
        rw [h1] at h4
        cases h4
        cases d1
        obtain ⟨w, e3, e4⟩ := h6.at e2
        refine ⟨a, ys, j, j.toNat, w, rfl, rfl, h5, by omega, by omega, ?_, e3, ?_⟩
        · rw [seqIndex_of hl.1 (by rw [h6.len]; exact hl.2.1)]
        · obtain ⟨r2, f2⟩ := r1.write hR (z := .ol (ds.eraseIdx j.toNat)) (o := .lst (ys.eraseIdx j.toNat)) q1 rfl h1 rfl rfl fun w1 w2 w3 => ⟨a, _, rfl, w1, w2, w3, upd_same, h6.erase _⟩
          exact k w G1 ρ1 _ r2 (f1.trans f2) e4
      · cases e
    · cases e
  · cases e
/-- pot[i] = e -/
theorem pds_putC {o ie : Expr} {p : Pos} (h : PS X (.Assign [.Subscript o ie p] e pos) (tAsg (tD X.K R fe) (gSub (tD X.K R fp) (tD X.K R fx) rSetL))) : PS X (.Assign [.Subscript o ie p] e pos) (sS X.K R (fPutC fp fx fe)) := by
  refine ps_w h fun Dd σ H ⟨b, G, ρ, s, o, rl, e, k⟩ => ?_
  obtain ⟨⟨z, s1⟩, e1, e⟩ := bind_some' e
  obtain ⟨⟨y, s2⟩, e2, e⟩ := bind_some' e
  obtain ⟨⟨x, s3⟩, e3, e⟩ := bind_some' e
  dsimp only at e
  split at e
  · obtain ⟨ds, e4, e⟩ := bind_some' e
    split at e
    · rename_i hl
      cases e
      refine ⟨b, G, ρ, s, z, s1, rl, e1, fun v G1 ρ1 H1 r1 f1 d1 => ⟨b, G1, ρ1, s1, _, s2, r1, e2, fun v2 G2 ρ2 H2 r2 f2 d2 => ⟨b, G2, ρ2, s2, _, s3, r2, e3, fun v3 G3 ρ3 H3 r3 f3 d3 => ?_⟩⟩⟩
      have d2 := d2.mono hR f3.gg f3.prf
      have d1 := d1.mono hR (f2.trans f3).gg (f2.trans f3).prf
      cases d3
      cases d2 with
      | cell h1 =>
        obtain ⟨_, xs, h2, h3⟩ := r3.cells.at_ _ _ ds h1 e4
        have hx : ∀ {j' : Int}, 0 ≤ j' ∧ j' < ds.length → ixN xs.length j' = some j'.toNat := fun {j'} hl => by
          unfold ixN
          rw [if_pos hl.1, if_pos (by rw [h3.len]; exact hl.2)]
        refine ⟨_, xs, _, _, rfl, rfl, h2, hx hl, ?_⟩
        · refine k σ G3 ρ3 _ (r3.putC hR h1 (h3.set d1 _)) ((f1.trans f2).trans f3).gg ((f1.trans f2).trans f3).prf
    · cases e
  · cases e
/-- a list becomes a cell -/
theorem pd_cell (h : PE X e (tO X.K R fo)) : PE X e (tD X.K R (fCell fo)) := by
  refine pd_w h fun σ H Q ⟨b, G, ρ, s, r, s', rl, e, k⟩ => ?_
  obtain ⟨⟨ds, s1⟩, e1, e⟩ := map_some' e
  cases e
  refine ⟨b, G, ρ, s, ds, s1, rl, e1, fun a xs G1 ρ1 H1 r1 f1 n0 n1 n2 n3 n4 n5 d1 => ?_⟩
  have pr : ρ1 <+: ρ1 ++ [a] := List.prefix_append _ _
  have fr : Fr σ s.env G H ρ s1.env G1 H1 (ρ1 ++ [a]) := by
    obtain ⟨t, et, ht⟩ := f1.pre
    refine ⟨f1.gg, f1.keep, f1.there, f1.gnew, ⟨t ++ [a], by rw [et, List.append_assoc], fun c hc => ?_⟩, f1.own⟩
    rcases List.mem_append.mp hc with q | q
    · exact ht c q
    · rw [List.mem_singleton.mp q]; exact n1
  have rr : Rel X.K R b G1 (ρ1 ++ [a]) σ H1 ⟨s1.env, s1.cs ++ [ds]⟩ := by
    refine ⟨rl.leOf fr, r1.sub, ⟨r1.cells.tups, ?_, by rw [List.length_append, List.length_append, r1.cells.cl]; rfl, fun i c es h1 h2 => ?_⟩, r1.el, fun i x h1 => ?_, r1.sep⟩
    · rw [List.nodup_append]
      exact ⟨r1.cells.nd, by simp, fun x hx y hy z => n3 (by rw [List.mem_singleton.mp hy] at z; rw [← z]; exact hx)⟩
    · by_cases hi : i < ρ1.length
      · rw [List.getElem?_append_left hi] at h1
        rw [List.getElem?_append_left (by rw [r1.cells.cl]; exact hi)] at h2
        obtain ⟨q1, ys, q2, q3⟩ := r1.cells.at_ i c es h1 h2
        exact ⟨q1, ys, q2, q3.mono hR (fun _ _ h => h) pr⟩
      · have hi2 : i = ρ1.length := by
          have := (List.getElem?_eq_some_iff.mp h1).1
          rw [List.length_append] at this
          simp at this
          omega
        subst hi2
        rw [List.getElem?_append_right (Nat.le_refl _), Nat.sub_self] at h1
        rw [← r1.cells.cl, List.getElem?_append_right (Nat.le_refl _), Nat.sub_self] at h2
        cases h1
        cases h2
        exact ⟨n2, xs, n5, d1.mono hR (fun _ _ h => h) pr⟩
    · obtain ⟨v, q1, q2⟩ := r1.env i x h1
      refine ⟨v, q1, q2.go hR (fun _ _ h => h) pr fun d ed hx => ⟨rfl, ?_, ?_⟩⟩
      · subst ed; exact (r1.ownB ⟨i, x, h1, hx, q1⟩).2.1
      · subst ed
        have ow : Own s1.env σ d := ⟨i, x, h1, hx, q1⟩
        intro q
        rcases List.mem_append.mp q with q | q
        · exact (r1.ownB ow).2.2.1 q
        · rw [List.mem_singleton.mp q] at ow; exact n4 ow
  refine k (.ref a) G1 _ H1 rr fr (.cell ?_)
  rw [r1.cells.cl, List.getElem?_append_right (Nat.le_refl _), Nat.sub_self]
  rfl
end
/-! ### defs -/
def startE (n : Nat) (ds : List D) : Env := ds.map (fun d => some (.d d)) ++ List.replicate (n - ds.length) none
abbrev FF := List D → List (List D) → Option (D × List (List D))
abbrev FFO := List D → List (List D) → Option (List D × List (List D))
def runF (m n : Nat) (F : FS) : FF := fun ds cs => if ds.length = m then (F ⟨startE n ds, cs⟩).bind fun o => match o with
  | .rt r s => some (r, s.cs)
  | .nx s => some (.non, s.cs)
  | _ => none
  else none
def runO (m n : Nat) (F : FS) : FFO := fun ds cs => if ds.length = m then (F ⟨startE n ds, cs⟩).bind fun o => match o with
  | .ro r s => some (r, s.cs)
  | _ => none
  else none
def spD (K : PySem.W.Frag) (R : OR) (m : Nat) (F : FF) : Sp := fun vs H Q _ => ∃ G ρ ds cs r cs', ds.length = m ∧ Same G H ∧ Cells K R G ρ H cs ∧ RDs K R G ρ vs ds ∧ F ds cs = some (r, cs') ∧
  ∀ v G' ρ' H', Le G H ρ G' H' ρ' → Same G' H' → Cells K R G' ρ' H' cs' → RD K R G' ρ' v r → Q v H'
def spO (K : PySem.W.Frag) (R : OR) (m : Nat) (F : FFO) : Sp := fun vs H Q _ => ∃ G ρ ds cs r cs', ds.length = m ∧ Same G H ∧ Cells K R G ρ H cs ∧ RDs K R G ρ vs ds ∧ F ds cs = some (r, cs') ∧
  ∀ a xs G' ρ' H', Le G H ρ G' H' ρ' → Same G' H' → Cells K R G' ρ' H' cs' → H a = none → G' a = none → a ∉ ρ' → H' a = some (.lst xs) → RDs K R G' ρ' xs r → Q (.ref a) H'
theorem startE_get {n : Nat} {ds : List D} {i : Nat} {x : Sl} (h : (startE n ds)[i]? = some (some x)) : ∃ d, ds[i]? = some d ∧ x = .d d := by
  unfold startE at h
  by_cases hi : i < ds.length
  · rw [List.getElem?_append_left (by rw [List.length_map]; exact hi), List.getElem?_map] at h
    cases q : ds[i]? with
    | none => rw [q] at h; cases h
    | some d => rw [q] at h; cases h; exact ⟨d, rfl, rfl⟩
  · rw [List.getElem?_append_right (by rw [List.length_map]; omega)] at h
    have := List.mem_of_getElem? h
    rw [List.mem_replicate] at this
    cases this.2
theorem start_rel {K : PySem.W.Frag} {R : OR} {G H : Hp} {ρ : List Addr} {vs : List V} {ds : List D} {cs : List (List D)} {N : List Str} (h1 : Same G H) (h2 : Cells K R G ρ H cs) (h3 : RDs K R G ρ vs ds) : Rel K R ⟨G, H, ρ⟩ G ρ (L2.start N vs) H ⟨startE N.length ds, cs⟩ := by
  refine ⟨.refl, h1, h2, ?_, fun i x e => ?_, fun i j x y a e1 e2 e3 => ?_⟩
  · simp [startE, L2.start, h3.len]
  · obtain ⟨d, q1, rfl⟩ := startE_get e
    obtain ⟨v, q2, q3⟩ := h3.at q1
    refine ⟨v, ?_, q3⟩
    unfold L2.start
    rw [List.getElem?_append_left (by rw [List.length_map]; exact (List.getElem?_eq_some_iff.mp q2).1), List.getElem?_map, q2]
    rfl
  · obtain ⟨d, q1, rfl⟩ := startE_get e1
    cases e3
section
variable {P : Program} {w : World} {K : PySem.W.Frag} {mg : Str → Option Value} {base : Heap} {R : OR}
theorem fd_ok {x qual : Str} {st : Stmt} {f : Addr} {fd : FuncData} {N ps : List Str} {k m n : Nat} {F : FS} (T : Fun K x qual st f fd) (Sc : FnScope N ps (defScope st)) (hm : ps.length = m) (hn : N.length = n)
    (hbody : ∀ (cdv : Value) (A : Around) (outer : List PySem.Env) (s : Shared) (H : Hp) (E : XK), Room k (A.deeper (envOfC qual (defScope st) s.heap.objs.size f cdv)) → PSs (cxOf CX0 P w K mg base N qual (defScope st) f cdv A outer s H E).nox (defBody st) (sS K R F)) :
    FnOk P w K mg base CX0 (k + 1) f fd ps (spD K R m (runF m n F)) := by
  subst hm hn
  refine T.ok Sc (fun vs H Q E ⟨G, ρ, ds, cs, r, cs', h1, _, _, h2, _⟩ => by rw [h2.len, h1]) fun cdv A outer s H vs Q E hr ⟨G, ρ, ds, cs, r, cs', h0, h1, h2, h3, e, k⟩ => ⟨_, hbody cdv A outer s H E hr, ?_⟩
  unfold runF at e
  rw [if_pos h0] at e
  obtain ⟨o, e1, e⟩ := bind_some' e
  refine ⟨⟨G, H, ρ⟩, G, ρ, _, o, start_rel h1 h2 h3, e1, ?_⟩
  cases o with
  | rt z s1 => cases e; exact fun v σ' G' ρ' H' r1 d1 => k v G' ρ' H' r1.le r1.sub r1.cells d1
  | nx s1 => cases e; exact fun σ' G' ρ' H' r1 _ _ => k .non G' ρ' H' r1.le r1.sub r1.cells .non
  | bk s1 => cases e
  | ct s1 => cases e
  | ro z s1 => cases e
theorem fd_okO {x qual : Str} {st : Stmt} {f : Addr} {fd : FuncData} {N ps : List Str} {k m n : Nat} {F : FS} (T : Fun K x qual st f fd) (Sc : FnScope N ps (defScope st)) (hm : ps.length = m) (hn : N.length = n)
    (hbody : ∀ (cdv : Value) (A : Around) (outer : List PySem.Env) (s : Shared) (H : Hp) (E : XK), Room k (A.deeper (envOfC qual (defScope st) s.heap.objs.size f cdv)) → PSs (cxOf CX0 P w K mg base N qual (defScope st) f cdv A outer s H E).nox (defBody st) (sS K R F)) :
    FnOk P w K mg base CX0 (k + 1) f fd ps (spO K R m (runO m n F)) := by
  subst hm hn
  refine T.ok Sc (fun vs H Q E ⟨G, ρ, ds, cs, r, cs', h1, _, _, h2, _⟩ => by rw [h2.len, h1]) fun cdv A outer s H vs Q E hr ⟨G, ρ, ds, cs, r, cs', h0, h1, h2, h3, e, k⟩ => ⟨_, hbody cdv A outer s H E hr, ?_⟩
  unfold runO at e
  rw [if_pos h0] at e
  obtain ⟨o, e1, e⟩ := bind_some' e
  refine ⟨⟨G, H, ρ⟩, G, ρ, _, o, start_rel h1 h2 h3, e1, ?_⟩
  cases o with
  | ro z s1 => cases e; exact fun a xs σ' G' ρ' H' r1 n0 n1 n2 n3 d1 => k a xs G' ρ' H' r1.le r1.sub r1.cells n0 n1 n2 n3 d1
  | rt z s1 => cases e
  | nx s1 => cases e
  | bk s1 => cases e
  | ct s1 => cases e
end
def fFn (F : FF) (fl : FO) : FD := fun s => (fl s).bind fun p => (F p.1 p.2.cs).map fun q => (q.1, ⟨p.2.env, q.2⟩)
def fFnO (F : FFO) (fl : FO) : FO := fun s => (fl s).bind fun p => (F p.1 p.2.cs).map fun q => (q.1, ⟨p.2.env, q.2⟩)
section
variable {X : Cx} {R : OR} {e : Expr} {fl : FO} {f : Addr} (hR : RMono R)
include hR
theorem pd_fn {m : Nat} {F : FF} {E : XK} (hl : ∀ (ds : List D) cs r, F ds cs = some r → ds.length = m) (h : PE X e (tCall (spD X.K R m F) [] E (tL X.K R fl))) : PE X e (tD X.K R (fFn F fl)) := by
  refine pd_w h fun σ H Q ⟨b, G, ρ, s, r, s', rl, e, k⟩ => ?_
  obtain ⟨⟨ds, s1⟩, e1, e⟩ := bind_some' e
  obtain ⟨⟨z, cs'⟩, e2, e⟩ := map_some' e
  cases e
  refine ⟨b, G, ρ, s, ds, s1, rl, e1, fun vs G1 ρ1 H1 r1 f1 d1 => ?_⟩
  refine ⟨G1, ρ1, ds, s1.cs, z, cs', hl _ _ _ e2, r1.sub, r1.cells, by rw [List.append_nil]; exact d1, e2, fun v G2 ρ2 H2 le gh c2 d2 => ?_⟩
  obtain ⟨r2, f2⟩ := r1.call hR le gh c2
  exact k v G2 ρ2 H2 r2 (f1.trans f2) d2
theorem pd_fnO {m : Nat} {F : FFO} {E : XK} (hl : ∀ (ds : List D) cs r, F ds cs = some r → ds.length = m) (h : PE X e (tCall (spO X.K R m F) [] E (tL X.K R fl))) : PE X e (tO X.K R (fFnO F fl)) := by
  refine pd_w h fun σ H Q ⟨b, G, ρ, s, r, s', rl, e, k⟩ => ?_
  obtain ⟨⟨ds, s1⟩, e1, e⟩ := bind_some' e
  obtain ⟨⟨z, cs'⟩, e2, e⟩ := map_some' e
  cases e
  refine ⟨b, G, ρ, s, ds, s1, rl, e1, fun vs G1 ρ1 H1 r1 f1 d1 => ?_⟩
  refine ⟨G1, ρ1, ds, s1.cs, z, cs', hl _ _ _ e2, r1.sub, r1.cells, by rw [List.append_nil]; exact d1, e2, fun a xs G2 ρ2 H2 le gh c2 n1 n2 n3 n4 d2 => ?_⟩
  obtain ⟨r2, f2⟩ := r1.call hR le gh c2
  refine k a xs G2 ρ2 H2 r2 (f1.trans f2) ?_ ?_ n2 n3 (fun q => (r1.ownB (f2.own a q)).2.2.2 n1) n4 d2
  · cases z : b.H a with
    | none => rfl
    | some o => exact absurd n1 (r1.le.there a (some_ne z))
  · cases z : H a with
    | none => rfl
    | some o => exact absurd n1 (f1.there a (some_ne z))
end
theorem runF_len {m n : Nat} {F : FS} : ∀ (ds : List D) cs r, runF m n F ds cs = some r → ds.length = m := fun ds cs r e => by
  unfold runF at e
  split at e
  · assumption
  · cases e
theorem runO_len {m n : Nat} {F : FS} : ∀ (ds : List D) cs r, runO m n F ds cs = some r → ds.length = m := fun ds cs r e => by
  unfold runO at e
  split at e
  · assumption
  · cases e
/-! ### what loops go over -/
def fItL (fa : FD) : FO := fun s => (fa s).bind fun p => match p.1 with
  | .lst ds => some (ds, p.2)
  | _ => none
def fItT (fa : FD) : FO := fun s => (fa s).bind fun p => match p.1 with
  | .tup ds => some (ds, p.2)
  | _ => none
def fItS (fa : FD) : FO := fun s => (fa s).bind fun p => match p.1 with
  | .str z => some (z.cps.toList.map fun c => .str ⟨#[c]⟩, p.2)
  | _ => none
def rngD (lo hi : Int) : List D := (List.range (hi - lo).toNat).map fun i => .int (lo + (i : Nat))
def fRg1 (fl : FO) : FO := fun s => (fl s).bind fun p => match p.1 with
  | [.int j] => if -(2 ^ 62) ≤ j ∧ j < 2 ^ 62 then some (rngD 0 j, p.2) else none
  | _ => none
def fRg2 (fl : FO) : FO := fun s => (fl s).bind fun p => match p.1 with
  | [.int i, .int j] => if -(2 ^ 62) ≤ i ∧ i < 2 ^ 62 ∧ -(2 ^ 62) ≤ j ∧ j < 2 ^ 62 then some (rngD i j, p.2) else none
  | _ => none
def D.seq : D → Option (Bool × List D)
  | .lst ds => some (false, ds)
  | .tup ds => some (true, ds)
  | _ => none
def enumD : Nat → List D → List D
  | _, [] => []
  | n, d :: r => .tup [.int (n : Nat), d] :: enumD (n + 1) r
def fEnum (fl : FO) : FO := fun s => (fl s).bind fun p => match p.1 with
  | [x] => x.seq.map fun q => (enumD 0 q.2, p.2)
  | _ => none
def zipD (xs ys : List D) : List D := (xs.zip ys).map fun p => .tup [p.1, p.2]
def fZip (fl : FO) : FO := fun s => (fl s).bind fun p => match p.1 with
  | [x, y] => x.seq.bind fun q => y.seq.map fun t => (zipD q.2 t.2, p.2)
  | _ => none
theorem enumD_get : ∀ (ds : List D) (n i : Nat), (enumD n ds)[i]? = (ds[i]?).map fun d => .tup [.int ((n + i : Nat) : Int), d]
  | [], _, _ => rfl
  | d :: r, n, 0 => rfl
  | d :: r, n, i + 1 => by
    show (enumD (n + 1) r)[i]? = (r[i]?).map _
    rw [enumD_get r (n + 1) i]
    congr 2
    funext d
    rw [show n + 1 + i = n + (i + 1) by omega]
theorem enumD_len : ∀ (ds : List D) (n : Nat), (enumD n ds).length = ds.length
  | [], _ => rfl
  | d :: r, n => congrArg (· + 1) (enumD_len r (n + 1))
section
variable {X : Cx} {R : OR} {e tg : Expr} {fa : FD} {fl : FO}
theorem RD.seq {K : PySem.W.Frag} {G : Hp} {ρ : List Addr} {v : V} {d : D} {q : Bool × List D} (h : RD K R G ρ v d) (e : d.seq = some q) : ∃ a xs, v = .ref a ∧ SqX K q.1 G a xs ∧ RDs K R G ρ xs q.2 := by
  unfold D.seq at e
  split at e
  · cases e
    cases h with
    | lst h t => exact ⟨_, _, rfl, SqL.of h, t⟩
  · cases e
    cases h with
    | tup h t => exact ⟨_, _, rfl, h, t⟩
  · cases e
theorem pid_list (h : PI X tg e (iList X.K (tD X.K R fa))) : PI X tg e (iD X.K R (fItL fa)) := by
  refine pi_w h fun σ H Q ⟨b, G, ρ, s, ds, s', rl, e, k⟩ => ?_
  obtain ⟨⟨z, s1⟩, e1, e⟩ := bind_some' e
  dsimp only at e
  split at e
  · cases e
    refine ⟨b, G, ρ, s, _, _, rl, e1, fun v G1 ρ1 H1 r1 f1 d1 => ?_⟩
    cases d1 with
    | @lst a xs _ h1 t1 =>
      have wk := walk_list (K := X.K) (a := a) (xs := xs)
      rw [t1.len] at wk
      refine ⟨_, rfl, ⟨_, SqL.of (r1.sub _ _ h1)⟩, k G1 ρ1 H1 _ r1 f1 ⟨_, _, wk, fun H' g => SqL.of (g _ _ h1), fun i x H2 H3 d hd g ⟨e1, e2⟩ => .inl ⟨e1, ?_⟩⟩⟩
      obtain ⟨d', q1, q2⟩ := t1.get e2
      rw [hd] at q1
      cases q1
      exact q2
  · cases e
theorem pid_tup (h : PI X tg e (iTup X.K (tD X.K R fa))) : PI X tg e (iD X.K R (fItT fa)) := by
  refine pi_w h fun σ H Q ⟨b, G, ρ, s, ds, s', rl, e, k⟩ => ?_
  obtain ⟨⟨z, s1⟩, e1, e⟩ := bind_some' e
  dsimp only at e
  split at e
  · cases e
    refine ⟨b, G, ρ, s, _, _, rl, e1, fun v G1 ρ1 H1 r1 f1 d1 => ?_⟩
    cases d1 with
    | @tup a xs _ h1 t1 =>
      have wk := walk_tup (K := X.K) (a := a) (xs := xs)
      rw [t1.len] at wk
      refine ⟨_, rfl, ⟨_, r1.sub.sqt h1⟩, k G1 ρ1 H1 _ r1 f1 ⟨_, _, wk, fun H' g => g.sqt h1, fun i x H2 H3 d hd g ⟨e1, e2⟩ => .inl ⟨e1, ?_⟩⟩⟩
      obtain ⟨d', q1, q2⟩ := t1.get e2
      rw [hd] at q1
      cases q1
      exact q2
  · cases e
theorem pid_str (h : PI X tg e (iStr (tD X.K R fa))) : PI X tg e (iD X.K R (fItS fa)) := by
  refine pi_w h fun σ H Q ⟨b, G, ρ, s, ds, s', rl, e, k⟩ => ?_
  obtain ⟨⟨z, s1⟩, e1, e⟩ := bind_some' e
  dsimp only at e
  split at e
  · rename_i zz
    cases e
    refine ⟨b, G, ρ, s, _, _, rl, e1, fun v G1 ρ1 H1 r1 f1 d1 => ?_⟩
    cases d1
    have wk := walk_str (z := zz)
    rw [← Array.length_toList, ← List.length_map (f := fun c => D.str ⟨#[c]⟩)] at wk
    refine ⟨_, rfl, k G1 ρ1 H1 _ r1 f1 ⟨_, _, wk, fun _ _ => trivial, fun i x H2 H3 d hd g ⟨e1, c, e2, e3⟩ => .inl ⟨e1, ?_⟩⟩⟩
    rw [List.getElem?_map, Array.getElem?_toList, e2] at hd
    cases hd
    subst e3
    exact .str _
  · cases e
theorem rngD_get {lo hi : Int} {i : Nat} {d : D} (h : (rngD lo hi)[i]? = some d) : d = .int (lo + (i : Nat)) := by
  unfold rngD at h
  rw [List.getElem?_map] at h
  cases q : (List.range (hi - lo).toNat)[i]? with
  | none => rw [q] at h; cases h
  | some j =>
    rw [q] at h
    cases h
    obtain ⟨hl, hj⟩ := List.getElem?_eq_some_iff.mp q
    rw [List.getElem_range] at hj
    rw [hj]
theorem pid_rg1 (h : PI X tg e (iRng1 (tL X.K R fl))) : PI X tg e (iD X.K R (fRg1 fl)) := by
  refine pi_w h fun σ H Q ⟨b, G, ρ, s, ds, s', rl, e, k⟩ => ?_
  obtain ⟨⟨z, s1⟩, e1, e⟩ := bind_some' e
  dsimp only at e
  split at e
  · split at e
    · rename_i j hl
      cases e
      refine ⟨b, G, ρ, s, _, _, rl, e1, fun vs G1 ρ1 H1 r1 f1 d1 => ?_⟩
      cases d1 with
      | cons h1 t1 =>
        cases t1
        cases h1
        have wk := walk_range (lo := 0) (n := j.toNat)
        rw [show j.toNat = (rngD 0 j).length by simp [rngD]] at wk
        refine ⟨_, rfl, hl.1, hl.2, ?_⟩
        rw [show j.toNat = (rngD 0 j).length by simp [rngD]]
        refine k G1 ρ1 H1 _ r1 f1 ⟨_, _, wk, fun _ _ => trivial, fun i x H2 H3 d hd g ⟨e1, e2⟩ => .inl ⟨e1, ?_⟩⟩
        rw [rngD_get hd, e2]
        exact .int _
    · cases e
  · cases e
theorem pid_rg2 (h : PI X tg e (iRng2 (tL X.K R fl))) : PI X tg e (iD X.K R (fRg2 fl)) := by
  refine pi_w h fun σ H Q ⟨b, G, ρ, s, ds, s', rl, e, k⟩ => ?_
  obtain ⟨⟨z, s1⟩, e1, e⟩ := bind_some' e
  dsimp only at e
  split at e
  · split at e
    · rename_i i0 j hl
      cases e
      refine ⟨b, G, ρ, s, _, _, rl, e1, fun vs G1 ρ1 H1 r1 f1 d1 => ?_⟩
      cases d1 with
      | cons h1 t1 =>
        cases t1 with
        | cons h2 t2 =>
          cases t2
          cases h1
          cases h2
          have wk := walk_range (lo := i0) (n := (j - i0).toNat)
          rw [show (j - i0).toNat = (rngD i0 j).length by simp [rngD]] at wk
          refine ⟨_, _, rfl, hl, ?_⟩
          rw [show (j - i0).toNat = (rngD i0 j).length by simp [rngD]]
          refine k G1 ρ1 H1 _ r1 f1 ⟨_, _, wk, fun _ _ => trivial, fun i x H2 H3 d hd g ⟨e1, e2⟩ => .inl ⟨e1, ?_⟩⟩
          rw [rngD_get hd, e2]
          exact .int _
    · cases e
  · cases e
theorem sqx_same {K : PySem.W.Frag} {f : Bool} {G H : Hp} {a : Addr} {xs : List V} (s : Same G H) (h : SqX K f G a xs) : SqX K f H a xs := s.sqx h
theorem pid_enum (h : PI X tg e (iEnX X.K (tL X.K R fl))) : PI X tg e (iD X.K R (fEnum fl)) := by
  refine pi_w h fun σ H Q ⟨b, G, ρ, s, ds, s', rl, e, k⟩ => ?_
  obtain ⟨⟨z, s1⟩, e1, e⟩ := bind_some' e
  dsimp only at e
  split at e
  · obtain ⟨q, e2, e⟩ := map_some' e
    cases e
    refine ⟨b, G, ρ, s, _, _, rl, e1, fun vs G1 ρ1 H1 r1 f1 d1 => ?_⟩
    cases d1 with
    | cons h1 t1 =>
      cases t1
      obtain ⟨a, xs, rfl, h2, h3⟩ := h1.seq e2
      have wk := walk_enX (K := X.K) (f := q.1) (a := a) (xs := xs)
      rw [h3.len, ← enumD_len q.2 0] at wk
      refine ⟨a, xs, q.1, rfl, sqx_same r1.sub h2, k G1 ρ1 H1 _ r1 f1 ⟨_, _, wk, fun H' g => sqx_same g h2, fun i x H2 H3 d hd g ⟨p, y1, y2, e3, e4, e5, e6, e7⟩ => .inr ?_⟩⟩
      · rw [enumD_get] at hd
        obtain ⟨d', q1, q2⟩ := h3.get e7
        rw [q1] at hd
        cases hd
        cases e6
        refine ⟨p, [.int (i : Nat), y2], _, e3, e4, e5, rfl, .cons ?_ (.cons q2 .nil)⟩
        rw [Nat.zero_add]
        exact .int _
  · cases e
theorem pid_zip (h : PI X tg e (iZipX X.K (tL X.K R fl))) : PI X tg e (iD X.K R (fZip fl)) := by
  refine pi_w h fun σ H Q ⟨b, G, ρ, s, ds, s', rl, e, k⟩ => ?_
  obtain ⟨⟨z, s1⟩, e1, e⟩ := bind_some' e
  dsimp only at e
  split at e
  · obtain ⟨q, e2, e⟩ := bind_some' e
    obtain ⟨t, e3, e⟩ := map_some' e
    cases e
    refine ⟨b, G, ρ, s, _, _, rl, e1, fun vs G1 ρ1 H1 r1 f1 d1 => ?_⟩
    cases d1 with
    | cons h1 t1 =>
      cases t1 with
      | cons h1' t1 =>
        cases t1
        obtain ⟨a, xs, rfl, h2, h3⟩ := h1.seq e2
        obtain ⟨a', ys, rfl, h4, h5⟩ := h1'.seq e3
        have wk := walk_zipX (K := X.K) (f := q.1) (g := t.1) (a := a) (b := a') (xs := xs) (ys := ys) (n := (zipD q.2 t.2).length) (by simp [zipD, h3.len, h5.len])
        refine ⟨a, a', xs, ys, q.1, t.1, rfl, sqx_same r1.sub h2, sqx_same r1.sub h4, k G1 ρ1 H1 _ r1 f1 ⟨_, _, wk, fun H' g => ⟨sqx_same g h2, sqx_same g h4⟩, fun i x H2 H3 d hd g ⟨p, y1, y2, e3, e4, e5, e6, e7⟩ => .inr ?_⟩⟩
        · obtain ⟨d1', q1, q2⟩ := h3.get e6
          obtain ⟨d2', q3, q4⟩ := h5.get e7
          unfold zipD at hd
          rw [List.getElem?_map, show (q.2.zip t.2)[i]? = some (d1', d2') from List.getElem?_zip_eq_some.mpr ⟨q1, q3⟩] at hd
          cases hd
          exact ⟨p, [y1, y2], _, e3, e4, e5, rfl, .cons q2 (.cons q4 .nil)⟩
  · cases e
end
end PL
end

section
namespace PL
open PySem PySem.Spec PyProof.Rows L2 Ev
/-! ### built-ins on values without places -/
def dLen : List D → Option D
  | [.str z] => if z.length ≤ 100000 then some (.int z.length) else none
  | [.lst ds] => some (.int ds.length)
  | [.tup ds] => some (.int ds.length)
  | [.scr ns] => some (.int ns.length)
  | _ => none
def dInt : List D → Option D
  | [.int i] => some (.int i)
  | [.bl k] => some (.int (if k then 1 else 0))
  | [.str z] => match PySem.intText? z with
    | some n => if z.length ≤ 640 then some (.int n) else none
    | none => none
  | _ => none
def dAbs : List D → Option D
  | [.int i] => some (.int (if i < 0 then -i else i))
  | _ => none
def dMax2 : List D → Option D
  | [.int i, .int j] => some (.int (if j > i then j else i))
  | _ => none
def dMin2 : List D → Option D
  | [.int i, .int j] => some (.int (if j < i then j else i))
  | _ => none
def dStr : List D → Option D
  | [.int i] => if i.natAbs.log2 < 1920 then some (.str (toString i)) else none
  | _ => none
def dAll : List D → Option D
  | [.lst ds] => (allOf D.isBl ds).map fun bs => .bl (bs.all id)
  | _ => none
def dAny : List D → Option D
  | [.lst ds] => (allOf D.isBl ds).map fun bs => .bl (bs.any id)
  | _ => none
def dSum : List D → Option D
  | [.lst ds] => (allOf D.isInt ds).map fun ns => .int ns.sum
  | _ => none
def dTup : List D → Option D
  | [.lst ds] => some (.tup ds)
  | [.tup ds] => some (.tup ds)
  | _ => none
def dList : List D → Option (List D)
  | [.lst ds] => some ds
  | [.tup ds] => some ds
  | [.scr ns] => some (ns.map .int)
  | _ => none
section
variable {X : Cx} {R : OR} {e a c o : Expr} {es : List Expr} {fa fb fe f : FD} {fo fl : FO} {pos pos' : Pos} (hR : RMono R)
omit hR
theorem cd_len : CallR X (.builtin "len") (rDL X.K R dLen) := by
  intro pins s σ H xs us Q I r ⟨b, G, ρ, σ', st, ds, z, rl, hd, e, k⟩
  unfold dLen at e
  split at e
  · split at e
    · rename_i hl
      cases e
      cases hd with | cons h t => cases t; cases h; exact call_len_str pins s σ H _ us Q I r ⟨_, rfl, le_line hl, k.imm rl (.int _)⟩
    · cases e
  · cases e
    cases hd with
    | cons h t =>
      cases t
      cases h with
      | lst h1 t1 => exact call_len_seq pins s σ H _ us Q I r ⟨_, _, rfl, .inl (SqL.of (rl.sub _ _ h1)), by rw [t1.len]; exact k.imm rl (.int _)⟩
  · cases e
    cases hd with
    | cons h t =>
      cases t
      cases h with
      | tup h1 t1 => exact call_len_seq pins s σ H _ us Q I r ⟨_, _, rfl, .inr (rl.sub.sqt h1), by rw [t1.len]; exact k.imm rl (.int _)⟩
  · cases e
    cases hd with
    | cons h t =>
      cases t
      cases h with
      | scr h1 => exact call_len_seq pins s σ H _ us Q I r ⟨_, _, rfl, .inl (rl.sub.seq h1), by rw [List.length_map]; exact k.imm rl (.int _)⟩
  · cases e
theorem cd_int : CallR X (.type "int") (rDL X.K R dInt) := by
  intro pins s σ H xs us Q I r ⟨b, G, ρ, σ', st, ds, z, rl, hd, e, k⟩
  unfold dInt at e
  split at e
  · cases e
    cases hd with | cons h t => cases t; cases h; exact call_int1 pins s σ H _ us Q I r (.inl ⟨_, rfl, k.imm rl (.int _)⟩)
  · cases e
    cases hd with | cons h t => cases t; cases h; exact call_int1 pins s σ H _ us Q I r (.inr ⟨_, rfl, k.imm rl (.int _)⟩)
  · split at e
    · split at e
      · rename_i hn hl
        cases e
        cases hd with | cons h t => cases t; cases h; exact call_int_str pins s σ H _ us Q I r ⟨_, _, rfl, hn, hl, k.imm rl (.int _)⟩
      · cases e
    · cases e
  · cases e
theorem cd_abs : CallR X (.builtin "abs") (rDL X.K R dAbs) := by
  intro pins s σ H xs us Q I r ⟨b, G, ρ, σ', st, ds, z, rl, hd, e, k⟩
  unfold dAbs at e
  split at e
  · cases e
    cases hd with | cons h t => cases t; cases h; exact call_abs pins s σ H _ us Q I r ⟨_, rfl, k.imm rl (.int _)⟩
  · cases e
theorem cd_max2 (hc : X.calm = true) : CallR X (.builtin "max") (rDL X.K R dMax2) := by
  intro pins s σ H xs us Q I r ⟨b, G, ρ, σ', st, ds, z, rl, hd, e, k⟩
  unfold dMax2 at e
  split at e
  · cases e
    cases hd with | cons h t => cases t with | cons h2 t => cases t; cases h; cases h2; exact call_max2 hc pins s σ H _ us Q I r ⟨_, _, rfl, k.imm rl (.int _)⟩
  · cases e
theorem cd_min2 (hc : X.calm = true) : CallR X (.builtin "min") (rDL X.K R dMin2) := by
  intro pins s σ H xs us Q I r ⟨b, G, ρ, σ', st, ds, z, rl, hd, e, k⟩
  unfold dMin2 at e
  split at e
  · cases e
    cases hd with | cons h t => cases t with | cons h2 t => cases t; cases h; cases h2; exact call_min2 hc pins s σ H _ us Q I r ⟨_, _, rfl, k.imm rl (.int _)⟩
  · cases e
theorem cd_str : CallR X (.type "str") (rDL X.K R dStr) := by
  intro pins s σ H xs us Q I r ⟨b, G, ρ, σ', st, ds, z, rl, hd, e, k⟩
  unfold dStr at e
  split at e
  · split at e
    · rename_i hl
      cases e
      cases hd with | cons h t => cases t; cases h; exact call_str_int pins s σ H _ us Q I r ⟨_, rfl, hl, k.imm rl (.str _)⟩
    · cases e
  · cases e
theorem cd_all (hc : X.calm = true) : CallR X (.builtin "all") (rDL X.K R dAll) := by
  intro pins s σ H xs us Q I r ⟨b, G, ρ, σ', st, ds, z, rl, hd, e, k⟩
  unfold dAll at e
  split at e
  · obtain ⟨bs, e1, e⟩ := map_some' e
    cases e
    have e1 := allOf_bl e1
    subst e1
    cases hd with
    | cons h t =>
      cases t
      cases h with
      | lst h1 t1 =>
        have := t1.allBl
        subst this
        exact cr_all hc pins s σ H _ us Q I r ⟨_, _, rfl, SqL.of (rl.sub _ _ h1), k.imm rl (.bl _)⟩
  · cases e
theorem cd_any (hc : X.calm = true) : CallR X (.builtin "any") (rDL X.K R dAny) := by
  intro pins s σ H xs us Q I r ⟨b, G, ρ, σ', st, ds, z, rl, hd, e, k⟩
  unfold dAny at e
  split at e
  · obtain ⟨bs, e1, e⟩ := map_some' e
    cases e
    have e1 := allOf_bl e1
    subst e1
    cases hd with
    | cons h t =>
      cases t
      cases h with
      | lst h1 t1 =>
        have := t1.allBl
        subst this
        exact cr_any hc pins s σ H _ us Q I r ⟨_, _, rfl, SqL.of (rl.sub _ _ h1), k.imm rl (.bl _)⟩
  · cases e
theorem cd_sum (hc : X.calm = true) : CallR X (.builtin "sum") (rDL X.K R dSum) := by
  intro pins s σ H xs us Q I r ⟨b, G, ρ, σ', st, ds, z, rl, hd, e, k⟩
  unfold dSum at e
  split at e
  · obtain ⟨bs, e1, e⟩ := map_some' e
    cases e
    have e1 := allOf_int e1
    subst e1
    cases hd with
    | cons h t =>
      cases t
      cases h with
      | lst h1 t1 =>
        have := t1.allInt
        subst this
        exact cr_sum hc pins s σ H _ us Q I r ⟨_, _, rfl, SqL.of (rl.sub _ _ h1), k.imm rl (.int _)⟩
  · cases e
include hR in
theorem cd_tup : CallR X (.type "tuple") (rDL X.K R dTup) := by
  intro pins s σ H xs us Q I r ⟨b, G, ρ, σ', st, ds, z, rl, hd, e, k⟩
  unfold dTup at e
  split at e
  · cases e
    cases hd with
    | cons h t =>
      cases t
      cases h with
      | lst h1 t1 => exact call_tuple_of pins s σ H _ us Q I r ⟨_, _, rfl, .inl ⟨SqL.of (rl.sub _ _ h1), fun p hp => k.new hR rl hp (.tup (SqT.of upd_same) (t1.mono hR (rl.gnew hp) (List.prefix_refl _)))⟩⟩
  · cases e
    cases hd with
    | cons h t =>
      cases t
      cases h with
      | tup h1 t1 => exact call_tuple_of pins s σ H _ us Q I r ⟨_, _, rfl, .inr ⟨rl.sub.sqt h1, k.imm rl (.tup h1 t1)⟩⟩
  · cases e
include hR in
theorem cd_list : CallR X (.type "list") (rOL X.K R dList) := by
  intro pins s σ H xs us Q I r ⟨b, G, ρ, σ', st, ds, z, rl, hd, e, k⟩
  unfold dList at e
  split at e
  · cases e
    cases hd with
    | cons h t =>
      cases t
      cases h with
      | lst h1 t1 => exact call_list_of pins s σ H _ us Q I r ⟨_, _, rfl, .inl (SqL.of (rl.sub _ _ h1)), fun p hp => k.new hR rl hp t1⟩
  · cases e
    cases hd with
    | cons h t =>
      cases t
      cases h with
      | tup h1 t1 => exact call_list_of pins s σ H _ us Q I r ⟨_, _, rfl, .inr (rl.sub.sqt h1), fun p hp => k.new hR rl hp t1⟩
  · cases e
    cases hd with
    | cons h t =>
      cases t
      cases h with
      | scr h1 => exact call_list_of pins s σ H _ us Q I r ⟨_, _, rfl, .inl (rl.sub.seq h1), fun p hp => k.new hR rl hp RDs.ints⟩
  · cases e
/-- list(range(e)) -/
def fLrg (fa : FD) : FO := fun s => (fa s).bind fun p => match p.1 with
  | .int j => if 0 ≤ j ∧ j ≤ 100000 then some (rngD 0 j, p.2) else none
  | _ => none
theorem rgV_D {K : PySem.W.Frag} {G : Hp} {ρ : List Addr} (j : Int) : RDs K R G ρ (rgV 0 j) (rngD 0 j) := by
  unfold rgV rngD
  generalize List.range (j - 0).toNat = l
  induction l with
  | nil => exact .nil
  | cons a r ih => exact .cons (.int _) ih
include hR in
theorem pd_lrg {p p' pos2 : Pos} (hc : X.calm = true) (hg : Gl X "list") (hm : X.mg "list" = none) (hg2 : Gl X "range") (hm2 : X.mg "range" = none) (h : PE X a (tD X.K R fa))
    (na : starEach [a] X.env = (false, eval a X.env) :: starEach [] X.env := by rfl) (na2 : starEach [.Call (.Name "range" p') [a] [] pos2] X.env = (false, eval (.Call (.Name "range" p') [a] [] pos2) X.env) :: starEach [] X.env := by rfl) :
    PE X (.Call (.Name "list" p) [.Call (.Name "range" p') [a] [] pos2] [] pos) (tO X.K R (fLrg fa)) := by
  refine pd_w (pe_listRg hc hg hm (prg_1 hg2 hm2 h na) na2) fun σ H Q ⟨b, G, ρ, s, r, s', rl, e, k⟩ => ?_
  obtain ⟨⟨z, s1⟩, e1, e⟩ := bind_some' e
  dsimp only at e
  split at e
  · split at e
    · rename_i j hj
      cases e
      refine ⟨b, G, ρ, s, _, _, rl, e1, fun v G1 ρ1 H1 r1 f1 d1 => ?_⟩
      cases d1
      refine ⟨_, rfl, RgOk.of_le (by omega) (by omega) (by omega) (by omega), fun q hq => ?_⟩
      exact KO.new hR (K := X.K) (σ := σ) (s := _) (b := b) (G := G1) (ρ := ρ1) (fun u xs G3 ρ3 H3 r3 f3 n0 n1 n2 n3 n4 n5 d3 => k u xs G3 ρ3 H3 r3 (f1.trans f3) n0 (by
        cases q : H u with
        | none => rfl
        | some o => exact absurd n1 (f1.there u (some_ne q))) n2 n3 n4 n5 d3) r1 hq (rgV_D j)
    · cases e
  · cases e
/-- sep.join(list) -/
def dJoin : D → D → Option D
  | .str z, .lst ds => (allOf D.isStr ds).bind fun ys => if (ys.map (·.length)).sum + ys.length * z.length ≤ 100000 then some (.str (Txt.join z ys)) else none
  | .str z, .tup ds => (allOf D.isStr ds).bind fun ys => if (ys.map (·.length)).sum + ys.length * z.length ≤ 100000 then some (.str (Txt.join z ys)) else none
  | _, _ => none
include hR in
theorem pd_join {apos : Pos} (ho : PE X o (tD X.K R fa)) (he : PE X e (tD X.K R fb)) (hs : starEach [e] X.env = [(false, eval e X.env)] := by rfl) (hbase : attributeBase o "join" X.env (eval o X.env) = eval o X.env := by rfl) (hline : (apos.endLine == pos.line) = true := by rfl) :
    PE X (.Call (.Attribute o "join" apos) [e] [] pos) (tD X.K R (fBin dJoin fa fb)) := by
  refine pd_w (pe_join ho he hs hbase hline) fun σ H Q ⟨b, G, ρ, s, r, s', rl, e, k⟩ => ?_
  obtain ⟨⟨x, s1⟩, e1, e⟩ := bind_some' e
  obtain ⟨⟨y, s2⟩, e2, e⟩ := bind_some' e
  obtain ⟨z, e3, e⟩ := map_some' e
  cases e
  dsimp only at e3
  unfold dJoin at e3
  split at e3
  · obtain ⟨ys, e4, e5⟩ := bind_some' e3
    clear e3
    have e4 := allOf_str e4
    subst e4
    split at e5
    · rename_i hl
      cases e5
      refine ⟨b, G, ρ, s, _, s1, rl, e1, fun v G1 ρ1 H1 r1 f1 d1 => ?_⟩
      cases d1
      refine ⟨⟨_, rfl⟩, b, G1, ρ1, s1, _, s2, r1, e2, fun w G2 ρ2 H2 r2 f2 d2 => ?_⟩
      cases d2 with
      | lst h1 t1 =>
        have := t1.allStr
        subst this
        exact ⟨_, _, ys, rfl, rfl, .inl (SqL.of (r2.sub _ _ h1)), by omega, k _ G2 ρ2 H2 r2 (f1.trans f2) (.str _)⟩
    · cases e5
  · obtain ⟨ys, e4, e5⟩ := bind_some' e3
    clear e3
    have e4 := allOf_str e4
    subst e4
    split at e5
    · rename_i hl
      cases e5
      refine ⟨b, G, ρ, s, _, s1, rl, e1, fun v G1 ρ1 H1 r1 f1 d1 => ?_⟩
      cases d1
      refine ⟨⟨_, rfl⟩, b, G1, ρ1, s1, _, s2, r1, e2, fun w G2 ρ2 H2 r2 f2 d2 => ?_⟩
      cases d2 with
      | tup h1 t1 =>
        have := t1.allStr
        subst this
        exact ⟨_, _, ys, rfl, rfl, .inr (r2.sub.sqt h1), by omega, k _ G2 ρ2 H2 r2 (f1.trans f2) (.str _)⟩
    · cases e5
  · cases e3
end
end PL
end

section
namespace PL
open PySem PySem.Spec PyProof.Rows L2 Ev
/-! ### defs that touch no cell -/
mutual
def D.noC : D → Bool
  | .cell _ => false
  | .tup ds => noCs ds
  | .lst ds => noCs ds
  | .dic _ ds => noCs ds
  | _ => true
def noCs : List D → Bool
  | [] => true
  | d :: r => d.noC && noCs r
end
def liftP (g : List D → Option D) : FF := fun ds cs => (g ds).map fun r => (r, cs)
def pureOf (F : FF) : List D → Option D := fun ds => if noCs ds = true then (F ds []).bind fun p => if p.1.noC = true then some p.1 else none else none
section
variable {K : PySem.W.Frag} {R : OR} {G : Hp} {ρ ρ' : List Addr}
mutual
theorem RD.noC : ∀ {v : V} {d : D}, RD K R G ρ v d → d.noC = true → RD K R G ρ' v d
  | _, _, .non, _ => .non
  | _, _, .bl b, _ => .bl b
  | _, _, .int i, _ => .int i
  | _, _, .str x, _ => .str x
  | _, _, .tup h t, e => .tup h (RDs.noC t e)
  | _, _, .lst h t, e => .lst h (RDs.noC t e)
  | _, _, .dic h l t, e => .dic h l (RDs.noC t e)
  | _, _, .brd h, _ => .brd h
  | _, _, .cell _, e => by cases e
  | _, _, .scr h, _ => .scr h
theorem RDs.noC : ∀ {vs : List V} {ds : List D}, RDs K R G ρ vs ds → noCs ds = true → RDs K R G ρ' vs ds
  | _, _, .nil, _ => .nil
  | _, _, .cons (d := d) (ds := ds) h t, e => by
    have e : (d.noC && noCs ds) = true := e
    rw [Bool.and_eq_true] at e
    exact .cons (RD.noC h e.1) (RDs.noC t e.2)
end
theorem lift_sp {m : Nat} {F : FF} (hl : ∀ (ds : List D) cs r, F ds cs = some r → ds.length = m) (hR : RMono R) : ∀ vs H Q E, spD K R m (liftP (pureOf F)) vs H Q E → spD K R m F vs H Q E := by
  rintro vs H Q E ⟨G, ρ, ds, cs, r, cs', h0, h1, h2, h3, e, k⟩
  obtain ⟨r', e1, e⟩ := map_some' e
  cases e
  unfold pureOf at e1
  split at e1
  · rename_i hn
    obtain ⟨⟨z, cs2⟩, e2, e1⟩ := bind_some' e1
    dsimp only at e1
    split at e1
    · rename_i hz
      cases e1
      refine ⟨G, [], ds, [], _, cs2, h0, h1, ⟨h2.tups, by simp, rfl, fun i a es q => by simp at q⟩, h3.noC hn, e2, fun v G' ρ' H' le gh c2 d2 => ?_⟩
      have kp : ∀ a o, H a = some o → H' a = some o := fun a o h => le.keep a o h (by simp)
      have gN : ∀ a, H a ≠ none → G a = none → G' a = none := fun a q1 q2 => by
        cases q : G' a with
        | none => rfl
        | some o =>
          rcases le.gnew a (some_ne q) with z | z
          · exact absurd q2 z
          · exact absurd z q1
      refine k v G' ρ H' ⟨le.gg, fun a o h _ => kp a o h, le.there, le.gnew, [], by simp, fun _ h => by cases h⟩ gh (h2.go hR le.gg c2.tups fun a ha => ?_) (d2.noC hz)
      obtain ⟨w1, w2⟩ := h2.some ha
      obtain ⟨o, eo⟩ := ne_some w1
      exact ⟨by rw [eo]; exact kp a o eo, gN a w1 w2⟩
    · cases e1
  · cases e1
theorem lift_len {m : Nat} {F : FF} (hl : ∀ (ds : List D) cs r, F ds cs = some r → ds.length = m) : ∀ (ds : List D) cs r, liftP (pureOf F) ds cs = some r → ds.length = m := fun ds cs r e => by
  obtain ⟨r', e1, e⟩ := map_some' e
  unfold pureOf at e1
  split at e1
  · obtain ⟨⟨z, cs2⟩, e2, e1⟩ := bind_some' e1
    exact hl _ _ _ e2
  · cases e1
end
/-! ### promises by hand, over the whole heap -/
/-- all that is new never changes from now on -/
def absorb (G H H' : Hp) : Hp := fun a => match H a with
  | none => H' a
  | some _ => G a
section
variable {K : PySem.W.Frag} {R : OR} {G H H' : Hp} {ρ : List Addr} {cs : List (List D)}
theorem absorb_new {a : Addr} (h : H a = none) : absorb G H H' a = H' a := by unfold absorb; rw [h]
theorem absorb_old {a : Addr} (h : H a ≠ none) : absorb G H H' a = G a := by
  obtain ⟨o, e⟩ := ne_some h
  unfold absorb; rw [e]
theorem absorb_ok (hR : RMono R) (gh : Same G H) (c : Cells K R G ρ H cs) (hh : Same H H') :
    Le G H ρ (absorb G H H') H' ρ ∧ Same (absorb G H H') H' ∧ Cells K R (absorb G H H') ρ H' cs := by
  have gg : Same G (absorb G H H') := fun a o e => by rw [absorb_old (some_ne (gh a o e))]; exact e
  have s2 : Same (absorb G H H') H' := fun a o e => by
    by_cases h : H a = none
    · rw [absorb_new h] at e; exact e
    · rw [absorb_old h] at e; exact hh a o (gh a o e)
  refine ⟨⟨gg, fun a o h _ => hh a o h, fun a h => by obtain ⟨o, e⟩ := ne_some h; exact some_ne (hh a o e), fun a h => ?_, [], by simp, fun _ h => by cases h⟩, s2, c.go hR gg (fun a o e t => ?_) fun a ha => ?_⟩
  · by_cases q : H a = none
    · exact .inr q
    · rw [absorb_old q] at h; exact .inl h
  · by_cases q : H a = none
    · rw [absorb_new q]; exact e
    · rw [absorb_old q]
      obtain ⟨u, eu⟩ := ne_some q
      have := hh a u eu
      rw [e] at this
      cases this
      exact c.tups a o eu t
  · obtain ⟨w1, w2⟩ := c.some ha
    obtain ⟨o, eo⟩ := ne_some w1
    exact ⟨by rw [eo]; exact hh a o eo, by rw [absorb_old w1]; exact w2⟩
theorem tups_sqt (t : Tups G H) {a : Addr} {xs : List V} (h : SqT K H a xs) : SqT K G a xs := by
  rcases h with (h | ⟨o, h⟩) | h
  · exact .inl (.inl (t a _ h rfl))
  · exact .inl (.inr ⟨o, t a _ h rfl⟩)
  · exact .inr h
end
mutual
/-- data as a value without places -/
def ofPy : PyData → D
  | .none => .non
  | .bool b => .bl b
  | .int i => .int i
  | .str x => .str x
  | .tuple ds => .tup (ofPys ds)
  | .list ds => .lst (ofPys ds)
  | .dict _ => .non
def ofPys : List PyData → List D
  | [] => []
  | d :: r => ofPy d :: ofPys r
end
section
variable {K : PySem.W.Frag} {R : OR} {G H : Hp} {ρ : List Addr}
mutual
theorem Dp.rd (t : Tups G H) : ∀ {v : V} {d : PyData}, Dp K H v d → noL d = true → RD K R G ρ v (ofPy d)
  | _, _, .non, _ => .non
  | _, _, .bl b, _ => .bl b
  | _, _, .int i, _ => .int i
  | _, _, .str x, _ => .str x
  | _, _, .lst h r, e => by cases e
  | _, _, .tup h r, e => .tup (tups_sqt t h) (DpAll.rd t r e)
theorem DpAll.rd (t : Tups G H) : ∀ {vs : List V} {ds : List PyData}, DpAll K H vs ds → noLs ds = true → RDs K R G ρ vs (ofPys ds)
  | _, _, .nil, _ => .nil
  | _, _, .cons (d := d) (ds := ds) h r, e => by
    have e : (noL d && noLs ds) = true := e
    rw [Bool.and_eq_true] at e
    exact .cons (Dp.rd t h e.1) (DpAll.rd t r e.2)
end
end
theorem ofPys_map {α : Type} (f : α → PyData) : ∀ l : List α, ofPys (l.map f) = l.map fun a => ofPy (f a)
  | [] => rfl
  | a :: r => congrArg (_ :: ·) (ofPys_map f r)
section
variable {X : Cx} {R : OR} {e : Expr} {fl : FO} {f : Addr} {pos : Pos} (hR : RMono R)
include hR
/-- f() -/
theorem pd_fn0 {F : FF} {E : XK} (hl : ∀ (ds : List D) cs r, F ds cs = some r → ds.length = 0) (h : PE X e (tCall (spD X.K R 0 F) [] E tNil)) : PE X e (tD X.K R (fFn F fNil)) := by
  refine pd_w h fun σ H Q ⟨b, G, ρ, s, r, s', rl, e, k⟩ => ?_
  obtain ⟨⟨ds, s1⟩, e1, e⟩ := bind_some' e
  obtain ⟨⟨z, cs'⟩, e2, e⟩ := map_some' e
  cases e
  cases e1
  refine ⟨G, ρ, [], s.cs, z, cs', rfl, rl.sub, rl.cells, .nil, e2, fun v G2 ρ2 H2 le gh c2 d2 => ?_⟩
  obtain ⟨r2, f2⟩ := rl.call hR le gh c2
  exact k v G2 ρ2 H2 r2 f2 d2
omit hR in
theorem pdv (hR : RMono R) (i : Nat) {x : Str} (hN : X.N[i]? = some x := by rfl) (hv : Vis X.env.scope x := by first | exact Or.inl rfl | exact Or.inr (Or.inl rfl) | exact Or.inr (Or.inr rfl)) (hd : (x == ("__debug__" : Str)) = false := by decide)
    (hcd : (x == ("__classdict__" : Str)) = false := by decide) : PE X (.Name x pos) (tD X.K R (fVar i)) := pd_var hR hN hv hd hcd
theorem ptd_chain {op op' : CmpOp} {a c a' : Expr} {fa fb fc : FD} {g g' : D → D → Option D} (ho : OpR X (compareOp op) (rD2 X.K R g)) (ho' : OpR X (compareOp op') (rD2 X.K R g')) (ha : PE X a (tD X.K R fa)) (hb : PE X c (tD X.K R fb)) (hc : PE X a' (tD X.K R fc))
    (hm : lastMarks [op, op'] [c, a'] = false := by with_unfolding_all rfl) : PT X (.Compare a [op, op'] [c, a'] pos) (tTs X.K R (fTst (fChain g g' fa fb fc))) := by
  refine pt_w (pt_chain ho ho' ha hb hc hm) fun σ H Q ⟨b, G, ρ, s, r, s', rl, e, k⟩ => ?_
  obtain ⟨⟨w, s0⟩, e, e9⟩ := bind_some' e
  obtain ⟨⟨x, s1⟩, e1, e⟩ := bind_some' e
  obtain ⟨⟨y, s2⟩, e2, e⟩ := bind_some' e
  obtain ⟨z, e3, e⟩ := bind_some' e
  refine ⟨b, G, ρ, s, x, s1, rl, e1, fun v G1 ρ1 H1 r1 f1 d1 => ⟨b, G1, ρ1, s1, y, s2, r1, e2, fun w G2 ρ2 H2 r2 f2 d2 => ?_⟩⟩
  refine ⟨b, G2, ρ2, σ, s2, x, y, z, r2, d1.mono hR f2.gg f2.prf, d2, e3, fun u G3 ρ3 H3 r3 f3 d3 => ?_⟩
  split at e
  · cases d3
    obtain ⟨⟨w', s3⟩, e4, e⟩ := bind_some' e
    obtain ⟨y', e5, e⟩ := bind_some' e
    split at e
    · cases e
      cases e9
      refine ⟨true, rfl, ?_⟩
      rw [if_pos rfl]
      refine ⟨b, G3, ρ3, s2, w', _, r3, e4, fun v' G4 ρ4 H4 r4 f4 d4 => ?_⟩
      exact ⟨b, G4, ρ4, σ, _, y, w', _, r4, d2.mono hR (f3.gg.trans f4.gg) (f3.trans f4).prf, d4, e5, fun u G5 ρ5 H5 r5 f5 d5 => by cases d5; exact ⟨_, rfl, k _ _ _ r5 ((((f1.trans f2).trans f3).trans f4).trans f5)⟩⟩
    · cases e
  · cases d3
    cases e
    cases e9
    refine ⟨false, rfl, ?_⟩
    rw [if_neg Bool.false_ne_true]
    exact ⟨_, rfl, k _ _ _ r3 ((f1.trans f2).trans f3)⟩
  · cases e
end
end PL
end

section
namespace Ev
open PySem PySem.Spec PyProof.Rows L2
def top (i : Nat) : Stmt := PySem.Challenge.pw_everypress_k15_buttons_that_wait_by_hand.main.body.getD i (.Pass ⟨0, 0, 0, 0⟩)
/-- a def of the text -/
structure DefF (K : PySem.W.Frag) (x qual : Str) (st : Stmt) (ps : List Str) where
  f : Addr
  fd : FuncData
  F : Fun K x qual st f fd
  b : Binds K fd ps []
/-- the class has no attributes of these names -/
def NoAttrs (K : PySem.W.Frag) (C : Addr) (l : List Str) : Prop := ∀ (i : Nat) (x : Str), l[i]? = some x → NoAttr K C x
abbrev s_is_integer : Stmt := top 14
theorem sc_is_integer : FnScope ["value"] ["value"] (defScope s_is_integer) := ⟨rfl, rfl, rfl, by decide +kernel, rfl, by decide +kernel, by decide +kernel⟩
abbrev s_is_between : Stmt := top 15
theorem sc_is_between : FnScope ["value", "low", "high"] ["value", "low", "high"] (defScope s_is_between) := ⟨rfl, rfl, rfl, by decide +kernel, rfl, by decide +kernel, by decide +kernel⟩
abbrev s_is_tuple : Stmt := top 16
theorem sc_is_tuple : FnScope ["value", "least", "most"] ["value", "least", "most"] (defScope s_is_tuple) := ⟨rfl, rfl, rfl, by decide +kernel, rfl, by decide +kernel, by decide +kernel⟩
abbrev s_is_name : Stmt := top 17
theorem sc_is_name : FnScope ["value", "letter"] ["value"] (defScope s_is_name) := ⟨rfl, rfl, rfl, by decide +kernel, rfl, by decide +kernel, by decide +kernel⟩
abbrev s_do_ascend : Stmt := top 18
theorem sc_do_ascend : FnScope ["values", "one", "other"] ["values"] (defScope s_do_ascend) := ⟨rfl, rfl, rfl, by decide +kernel, rfl, by decide +kernel, by decide +kernel⟩
abbrev s_number_in : Stmt := top 19
theorem sc_number_in : FnScope ["word", "figure"] ["word"] (defScope s_number_in) := ⟨rfl, rfl, rfl, by decide +kernel, rfl, by decide +kernel, by decide +kernel⟩
abbrev s_common_multiple : Stmt := top 20
theorem sc_common_multiple : FnScope ["one", "other", "found", "rest"] ["one", "other"] (defScope s_common_multiple) := ⟨rfl, rfl, rfl, by decide +kernel, rfl, by decide +kernel, by decide +kernel⟩
abbrev s_LoopD_initD : Stmt := inClass (top 42) 0
theorem sc_LoopD_initD : FnScope ["self", "name", "length", "span", "then"] ["self", "name", "length", "span", "then"] (defScope s_LoopD_initD) := ⟨rfl, rfl, rfl, by decide +kernel, rfl, by decide +kernel, by decide +kernel⟩
abbrev s_Loop_begun : Stmt := inClass (top 42) 1
theorem sc_Loop_begun : FnScope ["self"] ["self"] (defScope s_Loop_begun) := ⟨rfl, rfl, rfl, by decide +kernel, rfl, by decide +kernel, by decide +kernel⟩
abbrev s_TrackD_initD : Stmt := inClass (top 43) 0
theorem sc_TrackD_initD : FnScope ["self", "name"] ["self", "name"] (defScope s_TrackD_initD) := ⟨rfl, rfl, rfl, by decide +kernel, rfl, by decide +kernel, by decide +kernel⟩
abbrev s_ButtonD_initD : Stmt := inClass (top 44) 0
theorem sc_ButtonD_initD : FnScope ["self", "name", "quantum"] ["self", "name", "quantum"] (defScope s_ButtonD_initD) := ⟨rfl, rfl, rfl, by decide +kernel, rfl, by decide +kernel, by decide +kernel⟩
abbrev s_words_in : Stmt := top 45
theorem sc_words_in : FnScope ["line", "depth", "ahead", "words"] ["line", "depth"] (defScope s_words_in) := ⟨rfl, rfl, rfl, by decide +kernel, rfl, by decide +kernel, by decide +kernel⟩
abbrev s_ReaderD_initD : Stmt := inClass (top 46) 0
theorem sc_ReaderD_initD : FnScope ["self", "lines"] ["self", "lines"] (defScope s_ReaderD_initD) := ⟨rfl, rfl, rfl, by decide +kernel, rfl, by decide +kernel, by decide +kernel⟩
abbrev s_Reader_want : Stmt := inClass (top 46) 1
theorem sc_Reader_want : FnScope ["self", "is_right"] ["self", "is_right"] (defScope s_Reader_want) := ⟨rfl, rfl, rfl, by decide +kernel, rfl, by decide +kernel, by decide +kernel⟩
abbrev s_Reader_row : Stmt := inClass (top 46) 2
theorem sc_Reader_row : FnScope ["self", "depth"] ["self", "depth"] (defScope s_Reader_row) := ⟨rfl, rfl, rfl, by decide +kernel, rfl, by decide +kernel, by decide +kernel⟩
abbrev s_Reader_headed : Stmt := inClass (top 46) 3
theorem sc_Reader_headed : FnScope ["self", "depth", "head", "row"] ["self", "depth", "head"] (defScope s_Reader_headed) := ⟨rfl, rfl, rfl, by decide +kernel, rfl, by decide +kernel, by decide +kernel⟩
abbrev s_Reader_is_deed : Stmt := inClass (top 46) 9
theorem sc_Reader_is_deed : FnScope ["self", "row"] ["self", "row"] (defScope s_Reader_is_deed) := ⟨rfl, rfl, rfl, by decide +kernel, rfl, by decide +kernel, by decide +kernel⟩
abbrev s_Reader_loop_in : Stmt := inClass (top 46) 6
theorem sc_Reader_loop_in : FnScope ["self", "row", "many", "length", "rounds", "then"] ["self", "row"] (defScope s_Reader_loop_in) := ⟨rfl, rfl, rfl, by decide +kernel, rfl, by decide +kernel, by decide +kernel⟩
abbrev s_Reader_read_loop : Stmt := inClass (top 46) 7
theorem sc_Reader_read_loop : FnScope ["self", "row", "track", "loop", "last", "place", "sounds", "sound"] ["self", "row", "track"] (defScope s_Reader_read_loop) := ⟨rfl, rfl, rfl, by decide +kernel, rfl, by decide +kernel, by decide +kernel⟩
abbrev s_Reader_read_track : Stmt := inClass (top 46) 5
theorem sc_Reader_read_track : FnScope ["self", "row", "track"] ["self", "row"] (defScope s_Reader_read_track) := ⟨rfl, rfl, rfl, by decide +kernel, rfl, by decide +kernel, by decide +kernel⟩
abbrev s_Reader_read_button : Stmt := inClass (top 46) 8
theorem sc_Reader_read_button : FnScope ["self", "row", "quantum", "button", "left"] ["self", "row"] (defScope s_Reader_read_button) := ⟨rfl, rfl, rfl, by decide +kernel, rfl, by decide +kernel, by decide +kernel⟩
abbrev s_Reader_read : Stmt := inClass (top 46) 4
theorem sc_Reader_read : FnScope ["self", "number", "track", "name"] ["self"] (defScope s_Reader_read) := ⟨rfl, rfl, rfl, by decide +kernel, rfl, by decide +kernel, by decide +kernel⟩
abbrev s_followed : Stmt := top 48
theorem sc_followed : FnScope ["track", "standing", "name", "place", "left", "loop"] ["track", "standing"] (defScope s_followed) := ⟨rfl, rfl, rfl, by decide +kernel, rfl, by decide +kernel, by decide +kernel⟩
abbrev s_begun_by : Stmt := top 49
theorem sc_begun_by : FnScope ["button", "track", "come", "word", "name", "loop"] ["button", "track", "come"] (defScope s_begun_by) := ⟨rfl, rfl, rfl, by decide +kernel, rfl, by decide +kernel, by decide +kernel⟩
abbrev s_all_followed : Stmt := top 50
theorem sc_all_followed : FnScope ["tracks", "standings", "track", "standing"] ["tracks", "standings"] (defScope s_all_followed) := ⟨rfl, rfl, rfl, by decide +kernel, rfl, by decide +kernel, by decide +kernel⟩
abbrev s_all_begun : Stmt := top 51
theorem sc_all_begun : FnScope ["button", "tracks", "come", "track", "standing"] ["button", "tracks", "come"] (defScope s_all_begun) := ⟨rfl, rfl, rfl, by decide +kernel, rfl, by decide +kernel, by decide +kernel⟩
abbrev s_sounds_of : Stmt := top 52
theorem sc_sounds_of : FnScope ["track", "standing"] ["track", "standing"] (defScope s_sounds_of) := ⟨rfl, rfl, rfl, by decide +kernel, rfl, by decide +kernel, by decide +kernel⟩
abbrev s_strikes_of : Stmt := top 53
theorem sc_strikes_of : FnScope ["tracks", "standings", "found", "track", "standing", "sound"] ["tracks", "standings"] (defScope s_strikes_of) := ⟨rfl, rfl, rfl, by decide +kernel, rfl, by decide +kernel, by decide +kernel⟩
abbrev s_BoardD_initD : Stmt := inClass (top 75) 0
theorem sc_BoardD_initD : FnScope ["self", "text", "reader"] ["self", "text"] (defScope s_BoardD_initD) := ⟨rfl, rfl, rfl, by decide +kernel, rfl, by decide +kernel, by decide +kernel⟩
abbrev s_BoardD_containsD : Stmt := inClass (top 75) 9
theorem sc_BoardD_containsD : FnScope ["self", "value"] ["self", "value"] (defScope s_BoardD_containsD) := ⟨rfl, rfl, rfl, by decide +kernel, rfl, by decide +kernel, by decide +kernel⟩
abbrev s_are_presses : Stmt := top 58
theorem sc_are_presses : FnScope ["board", "value", "press", "step", "button"] ["board", "value"] (defScope s_are_presses) := ⟨rfl, rfl, rfl, by decide +kernel, rfl, by decide +kernel, by decide +kernel⟩
abbrev s_check_presses : Stmt := top 59
theorem sc_check_presses : FnScope ["board", "value"] ["board", "value"] (defScope s_check_presses) := ⟨rfl, rfl, rfl, by decide +kernel, rfl, by decide +kernel, by decide +kernel⟩
abbrev s_check_step : Stmt := top 60
theorem sc_check_step : FnScope ["value", "low", "high"] ["value", "low", "high"] (defScope s_check_step) := ⟨rfl, rfl, rfl, by decide +kernel, rfl, by decide +kernel, by decide +kernel⟩
abbrev s_begin_of : Stmt := top 61
theorem sc_begin_of : FnScope ["board", "press", "step", "button", "quantum"] ["board", "press"] (defScope s_begin_of) := ⟨rfl, rfl, rfl, by decide +kernel, rfl, by decide +kernel, by decide +kernel⟩
abbrev s_all_begins : Stmt := top 62
theorem sc_all_begins : FnScope ["board", "presses", "found", "at", "press", "step"] ["board", "presses"] (defScope s_all_begins) := ⟨rfl, rfl, rfl, by decide +kernel, rfl, by decide +kernel, by decide +kernel⟩
abbrev s_begun : Stmt := top 63
theorem sc_begun : FnScope ["board", "presses"] ["board", "presses"] (defScope s_begun) := ⟨rfl, rfl, rfl, by decide +kernel, rfl, by decide +kernel, by decide +kernel⟩
abbrev s_PlayerD_initD : Stmt := inClass (top 64) 0
theorem sc_PlayerD_initD : FnScope ["self", "board", "begins"] ["self", "board", "begins"] (defScope s_PlayerD_initD) := ⟨rfl, rfl, rfl, by decide +kernel, rfl, by decide +kernel, by decide +kernel⟩
abbrev s_Player_move : Stmt := inClass (top 64) 1
theorem sc_Player_move : FnScope ["self", "button"] ["self"] (defScope s_Player_move) := ⟨rfl, rfl, rfl, by decide +kernel, rfl, by decide +kernel, by decide +kernel⟩
abbrev s_Player_sounding : Stmt := inClass (top 64) 2
theorem sc_Player_sounding : FnScope ["self"] ["self"] (defScope s_Player_sounding) := ⟨rfl, rfl, rfl, by decide +kernel, rfl, by decide +kernel, by decide +kernel⟩
abbrev s_played_to : Stmt := top 65
theorem sc_played_to : FnScope ["board", "presses", "step", "player"] ["board", "presses", "step"] (defScope s_played_to) := ⟨rfl, rfl, rfl, by decide +kernel, rfl, by decide +kernel, by decide +kernel⟩
abbrev s_stands : Stmt := top 66
theorem sc_stands : FnScope ["board", "presses", "step"] ["board", "presses", "step"] (defScope s_stands) := ⟨rfl, rfl, rfl, by decide +kernel, rfl, by decide +kernel, by decide +kernel⟩
abbrev s_waits : Stmt := top 67
theorem sc_waits : FnScope ["board", "presses", "step", "some", "press"] ["board", "presses", "step"] (defScope s_waits) := ⟨rfl, rfl, rfl, by decide +kernel, rfl, by decide +kernel, by decide +kernel⟩
abbrev s_heard : Stmt := top 68
theorem sc_heard : FnScope ["board", "presses", "first", "steps", "player", "found", "turn"] ["board", "presses", "first", "steps"] (defScope s_heard) := ⟨rfl, rfl, rfl, by decide +kernel, rfl, by decide +kernel, by decide +kernel⟩
abbrev s__law_pot : Stmt := top 77
theorem sc__law_pot : FnScope ["_law_script", "_law_place", "_law_cell", "_law_own", "_law_small"] ["_law_script", "_law_place"] (defScope s__law_pot) := ⟨rfl, rfl, rfl, by decide +kernel, rfl, by decide +kernel, by decide +kernel⟩
abbrev s__law_take : Stmt := top 78
theorem sc__law_take : FnScope ["_law_pot_here", "_law_upto", "_law_digit", "_law_prime", "_law_mixed"] ["_law_pot_here", "_law_upto"] (defScope s__law_take) := ⟨rfl, rfl, rfl, by decide +kernel, rfl, by decide +kernel, by decide +kernel⟩
abbrev s__law_cells : Stmt := top 79
theorem sc__law_cells : FnScope ["_law_script", "_law_limit"] ["_law_script", "_law_limit"] (defScope s__law_cells) := ⟨rfl, rfl, rfl, by decide +kernel, rfl, by decide +kernel, by decide +kernel⟩
abbrev s__law_board : Stmt := top 80
theorem sc__law_board : FnScope ["_law_quantum", "_law_lines", "_law_name"] ["_law_quantum"] (defScope s__law_board) := ⟨rfl, rfl, rfl, by decide +kernel, rfl, by decide +kernel, by decide +kernel⟩
abbrev s__law_right : Stmt := top 81
theorem sc__law_right : FnScope ["_law_pot_here", "_law_quantum", "_law_board_here", "_law_beat", "_law_first", "_law_step", "_law_heap", "_law_late"] ["_law_pot_here"] (defScope s__law_right) := ⟨rfl, rfl, rfl, by decide +kernel, rfl, by decide +kernel, by decide +kernel⟩
abbrev s_law : Stmt := top 82
theorem sc_law : FnScope ["_law_script", "_law_place", "_law_pot_here", "_law_lap"] ["_law_script"] (defScope s_law) := ⟨rfl, rfl, rfl, by decide +kernel, rfl, by decide +kernel, by decide +kernel⟩
/-- the attributes of a Loop -/
structure OLoop where
  name : V
  length : V
  span : V
  then_ : V
  places : V
def OLoop.fs (o : OLoop) : List (Str × V) := [("name", o.name), ("length", o.length), ("span", o.span), ("then", o.then_), ("places", o.places)]
theorem neLoop_begun_length : ((("begun" : Str) = "length") = False) := eq_false (by decide +kernel)
theorem beLoop_begun_length : ((("begun" : Str) == "length") = false) := by decide +kernel
theorem neLoop_begun_name : ((("begun" : Str) = "name") = False) := eq_false (by decide +kernel)
theorem beLoop_begun_name : ((("begun" : Str) == "name") = false) := by decide +kernel
theorem neLoop_begun_places : ((("begun" : Str) = "places") = False) := eq_false (by decide +kernel)
theorem beLoop_begun_places : ((("begun" : Str) == "places") = false) := by decide +kernel
theorem neLoop_begun_span : ((("begun" : Str) = "span") = False) := eq_false (by decide +kernel)
theorem beLoop_begun_span : ((("begun" : Str) == "span") = false) := by decide +kernel
theorem neLoop_begun_then : ((("begun" : Str) = "then") = False) := eq_false (by decide +kernel)
theorem beLoop_begun_then : ((("begun" : Str) == "then") = false) := by decide +kernel
theorem neLoop_length_name : ((("length" : Str) = "name") = False) := eq_false (by decide +kernel)
theorem beLoop_length_name : ((("length" : Str) == "name") = false) := by decide +kernel
theorem neLoop_length_places : ((("length" : Str) = "places") = False) := eq_false (by decide +kernel)
theorem beLoop_length_places : ((("length" : Str) == "places") = false) := by decide +kernel
theorem neLoop_length_span : ((("length" : Str) = "span") = False) := eq_false (by decide +kernel)
theorem beLoop_length_span : ((("length" : Str) == "span") = false) := by decide +kernel
theorem neLoop_length_then : ((("length" : Str) = "then") = False) := eq_false (by decide +kernel)
theorem beLoop_length_then : ((("length" : Str) == "then") = false) := by decide +kernel
theorem neLoop_name_length : ((("name" : Str) = "length") = False) := eq_false (by decide +kernel)
theorem beLoop_name_length : ((("name" : Str) == "length") = false) := by decide +kernel
theorem neLoop_name_places : ((("name" : Str) = "places") = False) := eq_false (by decide +kernel)
theorem beLoop_name_places : ((("name" : Str) == "places") = false) := by decide +kernel
theorem neLoop_name_span : ((("name" : Str) = "span") = False) := eq_false (by decide +kernel)
theorem beLoop_name_span : ((("name" : Str) == "span") = false) := by decide +kernel
theorem neLoop_name_then : ((("name" : Str) = "then") = False) := eq_false (by decide +kernel)
theorem beLoop_name_then : ((("name" : Str) == "then") = false) := by decide +kernel
theorem neLoop_places_length : ((("places" : Str) = "length") = False) := eq_false (by decide +kernel)
theorem beLoop_places_length : ((("places" : Str) == "length") = false) := by decide +kernel
theorem neLoop_places_name : ((("places" : Str) = "name") = False) := eq_false (by decide +kernel)
theorem beLoop_places_name : ((("places" : Str) == "name") = false) := by decide +kernel
theorem neLoop_places_span : ((("places" : Str) = "span") = False) := eq_false (by decide +kernel)
theorem beLoop_places_span : ((("places" : Str) == "span") = false) := by decide +kernel
theorem neLoop_places_then : ((("places" : Str) = "then") = False) := eq_false (by decide +kernel)
theorem beLoop_places_then : ((("places" : Str) == "then") = false) := by decide +kernel
theorem neLoop_span_length : ((("span" : Str) = "length") = False) := eq_false (by decide +kernel)
theorem beLoop_span_length : ((("span" : Str) == "length") = false) := by decide +kernel
theorem neLoop_span_name : ((("span" : Str) = "name") = False) := eq_false (by decide +kernel)
theorem beLoop_span_name : ((("span" : Str) == "name") = false) := by decide +kernel
theorem neLoop_span_places : ((("span" : Str) = "places") = False) := eq_false (by decide +kernel)
theorem beLoop_span_places : ((("span" : Str) == "places") = false) := by decide +kernel
theorem neLoop_span_then : ((("span" : Str) = "then") = False) := eq_false (by decide +kernel)
theorem beLoop_span_then : ((("span" : Str) == "then") = false) := by decide +kernel
theorem neLoop_then_length : ((("then" : Str) = "length") = False) := eq_false (by decide +kernel)
theorem beLoop_then_length : ((("then" : Str) == "length") = false) := by decide +kernel
theorem neLoop_then_name : ((("then" : Str) = "name") = False) := eq_false (by decide +kernel)
theorem beLoop_then_name : ((("then" : Str) == "name") = false) := by decide +kernel
theorem neLoop_then_places : ((("then" : Str) = "places") = False) := eq_false (by decide +kernel)
theorem beLoop_then_places : ((("then" : Str) == "places") = false) := by decide +kernel
theorem neLoop_then_span : ((("then" : Str) = "span") = False) := eq_false (by decide +kernel)
theorem beLoop_then_span : ((("then" : Str) == "span") = false) := by decide +kernel
theorem lkLoop_name (o : OLoop) : o.fs.lookup ("name" : Str) = some o.name := by
  simp only [OLoop.fs, List.lookup, beq_self_eq_true]
theorem puLoop_name (o : OLoop) (v : V) : putF "name" v o.fs = ({ o with name := v } : OLoop).fs := by
  simp only [OLoop.fs, putF, if_true, if_false]
theorem pnLoop_name (v0 : V) : putF "name" v0 ([] : List (Str × V)) = ([("name", v0)] : List (Str × V)) := by
  simp only [putF, if_false]
theorem lkLoop_length (o : OLoop) : o.fs.lookup ("length" : Str) = some o.length := by
  simp only [OLoop.fs, List.lookup, beq_self_eq_true, beLoop_length_name]
theorem puLoop_length (o : OLoop) (v : V) : putF "length" v o.fs = ({ o with length := v } : OLoop).fs := by
  simp only [OLoop.fs, putF, if_true, if_false, neLoop_name_length]
theorem pnLoop_length (v0 v1 : V) : putF "length" v1 ([("name", v0)] : List (Str × V)) = ([("name", v0), ("length", v1)] : List (Str × V)) := by
  simp only [putF, if_false, neLoop_name_length]
theorem lkLoop_span (o : OLoop) : o.fs.lookup ("span" : Str) = some o.span := by
  simp only [OLoop.fs, List.lookup, beq_self_eq_true, beLoop_span_name, beLoop_span_length]
theorem puLoop_span (o : OLoop) (v : V) : putF "span" v o.fs = ({ o with span := v } : OLoop).fs := by
  simp only [OLoop.fs, putF, if_true, if_false, neLoop_name_span, neLoop_length_span]
theorem pnLoop_span (v0 v1 v2 : V) : putF "span" v2 ([("name", v0), ("length", v1)] : List (Str × V)) = ([("name", v0), ("length", v1), ("span", v2)] : List (Str × V)) := by
  simp only [putF, if_false, neLoop_name_span, neLoop_length_span]
theorem lkLoop_then (o : OLoop) : o.fs.lookup ("then" : Str) = some o.then_ := by
  simp only [OLoop.fs, List.lookup, beq_self_eq_true, beLoop_then_name, beLoop_then_length, beLoop_then_span]
theorem puLoop_then (o : OLoop) (v : V) : putF "then" v o.fs = ({ o with then_ := v } : OLoop).fs := by
  simp only [OLoop.fs, putF, if_true, if_false, neLoop_name_then, neLoop_length_then, neLoop_span_then]
theorem pnLoop_then (v0 v1 v2 v3 : V) : putF "then" v3 ([("name", v0), ("length", v1), ("span", v2)] : List (Str × V)) = ([("name", v0), ("length", v1), ("span", v2), ("then", v3)] : List (Str × V)) := by
  simp only [putF, if_false, neLoop_name_then, neLoop_length_then, neLoop_span_then]
theorem lkLoop_places (o : OLoop) : o.fs.lookup ("places" : Str) = some o.places := by
  simp only [OLoop.fs, List.lookup, beq_self_eq_true, beLoop_places_name, beLoop_places_length, beLoop_places_span, beLoop_places_then]
theorem puLoop_places (o : OLoop) (v : V) : putF "places" v o.fs = ({ o with places := v } : OLoop).fs := by
  simp only [OLoop.fs, putF, if_true, if_false, neLoop_name_places, neLoop_length_places, neLoop_span_places, neLoop_then_places]
theorem pnLoop_places (v0 v1 v2 v3 v4 : V) : putF "places" v4 ([("name", v0), ("length", v1), ("span", v2), ("then", v3)] : List (Str × V)) = ([("name", v0), ("length", v1), ("span", v2), ("then", v3), ("places", v4)] : List (Str × V)) := by
  simp only [putF, if_false, neLoop_name_places, neLoop_length_places, neLoop_span_places, neLoop_then_places]
theorem nmLoop_begun (o : OLoop) : o.fs.lookup ("begun" : Str) = none := by
  simp only [OLoop.fs, List.lookup, beLoop_begun_name, beLoop_begun_length, beLoop_begun_span, beLoop_begun_then, beLoop_begun_places]
/-- the attributes of a Track -/
structure OTrack where
  name : V
  own_loops : V
def OTrack.fs (o : OTrack) : List (Str × V) := [("name", o.name), ("own_loops", o.own_loops)]
theorem neTrack_name_own_loops : ((("name" : Str) = "own_loops") = False) := eq_false (by decide +kernel)
theorem beTrack_name_own_loops : ((("name" : Str) == "own_loops") = false) := by decide +kernel
theorem neTrack_own_loops_name : ((("own_loops" : Str) = "name") = False) := eq_false (by decide +kernel)
theorem beTrack_own_loops_name : ((("own_loops" : Str) == "name") = false) := by decide +kernel
theorem lkTrack_name (o : OTrack) : o.fs.lookup ("name" : Str) = some o.name := by
  simp only [OTrack.fs, List.lookup, beq_self_eq_true]
theorem puTrack_name (o : OTrack) (v : V) : putF "name" v o.fs = ({ o with name := v } : OTrack).fs := by
  simp only [OTrack.fs, putF, if_true, if_false]
theorem pnTrack_name (v0 : V) : putF "name" v0 ([] : List (Str × V)) = ([("name", v0)] : List (Str × V)) := by
  simp only [putF, if_false]
theorem lkTrack_own_loops (o : OTrack) : o.fs.lookup ("own_loops" : Str) = some o.own_loops := by
  simp only [OTrack.fs, List.lookup, beq_self_eq_true, beTrack_own_loops_name]
theorem puTrack_own_loops (o : OTrack) (v : V) : putF "own_loops" v o.fs = ({ o with own_loops := v } : OTrack).fs := by
  simp only [OTrack.fs, putF, if_true, if_false, neTrack_name_own_loops]
theorem pnTrack_own_loops (v0 v1 : V) : putF "own_loops" v1 ([("name", v0)] : List (Str × V)) = ([("name", v0), ("own_loops", v1)] : List (Str × V)) := by
  simp only [putF, if_false, neTrack_name_own_loops]
/-- the attributes of a Button -/
structure OButton where
  name : V
  quantum : V
  deeds : V
def OButton.fs (o : OButton) : List (Str × V) := [("name", o.name), ("quantum", o.quantum), ("deeds", o.deeds)]
theorem neButton_deeds_name : ((("deeds" : Str) = "name") = False) := eq_false (by decide +kernel)
theorem beButton_deeds_name : ((("deeds" : Str) == "name") = false) := by decide +kernel
theorem neButton_deeds_quantum : ((("deeds" : Str) = "quantum") = False) := eq_false (by decide +kernel)
theorem beButton_deeds_quantum : ((("deeds" : Str) == "quantum") = false) := by decide +kernel
theorem neButton_name_deeds : ((("name" : Str) = "deeds") = False) := eq_false (by decide +kernel)
theorem beButton_name_deeds : ((("name" : Str) == "deeds") = false) := by decide +kernel
theorem neButton_name_quantum : ((("name" : Str) = "quantum") = False) := eq_false (by decide +kernel)
theorem beButton_name_quantum : ((("name" : Str) == "quantum") = false) := by decide +kernel
theorem neButton_quantum_deeds : ((("quantum" : Str) = "deeds") = False) := eq_false (by decide +kernel)
theorem beButton_quantum_deeds : ((("quantum" : Str) == "deeds") = false) := by decide +kernel
theorem neButton_quantum_name : ((("quantum" : Str) = "name") = False) := eq_false (by decide +kernel)
theorem beButton_quantum_name : ((("quantum" : Str) == "name") = false) := by decide +kernel
theorem lkButton_name (o : OButton) : o.fs.lookup ("name" : Str) = some o.name := by
  simp only [OButton.fs, List.lookup, beq_self_eq_true]
theorem puButton_name (o : OButton) (v : V) : putF "name" v o.fs = ({ o with name := v } : OButton).fs := by
  simp only [OButton.fs, putF, if_true, if_false]
theorem pnButton_name (v0 : V) : putF "name" v0 ([] : List (Str × V)) = ([("name", v0)] : List (Str × V)) := by
  simp only [putF, if_false]
theorem lkButton_quantum (o : OButton) : o.fs.lookup ("quantum" : Str) = some o.quantum := by
  simp only [OButton.fs, List.lookup, beq_self_eq_true, beButton_quantum_name]
theorem puButton_quantum (o : OButton) (v : V) : putF "quantum" v o.fs = ({ o with quantum := v } : OButton).fs := by
  simp only [OButton.fs, putF, if_true, if_false, neButton_name_quantum]
theorem pnButton_quantum (v0 v1 : V) : putF "quantum" v1 ([("name", v0)] : List (Str × V)) = ([("name", v0), ("quantum", v1)] : List (Str × V)) := by
  simp only [putF, if_false, neButton_name_quantum]
theorem lkButton_deeds (o : OButton) : o.fs.lookup ("deeds" : Str) = some o.deeds := by
  simp only [OButton.fs, List.lookup, beq_self_eq_true, beButton_deeds_name, beButton_deeds_quantum]
theorem puButton_deeds (o : OButton) (v : V) : putF "deeds" v o.fs = ({ o with deeds := v } : OButton).fs := by
  simp only [OButton.fs, putF, if_true, if_false, neButton_name_deeds, neButton_quantum_deeds]
theorem pnButton_deeds (v0 v1 v2 : V) : putF "deeds" v2 ([("name", v0), ("quantum", v1)] : List (Str × V)) = ([("name", v0), ("quantum", v1), ("deeds", v2)] : List (Str × V)) := by
  simp only [putF, if_false, neButton_name_deeds, neButton_quantum_deeds]
/-- the attributes of a Reader -/
structure OReader where
  own_lines : V
  at_ : V
  own_tracks : V
  own_buttons : V
  own_bar : V
  later : V
def OReader.fs (o : OReader) : List (Str × V) := [("own_lines", o.own_lines), ("at", o.at_), ("own_tracks", o.own_tracks), ("own_buttons", o.own_buttons), ("own_bar", o.own_bar), ("later", o.later)]
theorem neReader_at_later : ((("at" : Str) = "later") = False) := eq_false (by decide +kernel)
theorem beReader_at_later : ((("at" : Str) == "later") = false) := by decide +kernel
theorem neReader_at_own_bar : ((("at" : Str) = "own_bar") = False) := eq_false (by decide +kernel)
theorem beReader_at_own_bar : ((("at" : Str) == "own_bar") = false) := by decide +kernel
theorem neReader_at_own_buttons : ((("at" : Str) = "own_buttons") = False) := eq_false (by decide +kernel)
theorem beReader_at_own_buttons : ((("at" : Str) == "own_buttons") = false) := by decide +kernel
theorem neReader_at_own_lines : ((("at" : Str) = "own_lines") = False) := eq_false (by decide +kernel)
theorem beReader_at_own_lines : ((("at" : Str) == "own_lines") = false) := by decide +kernel
theorem neReader_at_own_tracks : ((("at" : Str) = "own_tracks") = False) := eq_false (by decide +kernel)
theorem beReader_at_own_tracks : ((("at" : Str) == "own_tracks") = false) := by decide +kernel
theorem neReader_headed_at : ((("headed" : Str) = "at") = False) := eq_false (by decide +kernel)
theorem beReader_headed_at : ((("headed" : Str) == "at") = false) := by decide +kernel
theorem neReader_headed_later : ((("headed" : Str) = "later") = False) := eq_false (by decide +kernel)
theorem beReader_headed_later : ((("headed" : Str) == "later") = false) := by decide +kernel
theorem neReader_headed_own_bar : ((("headed" : Str) = "own_bar") = False) := eq_false (by decide +kernel)
theorem beReader_headed_own_bar : ((("headed" : Str) == "own_bar") = false) := by decide +kernel
theorem neReader_headed_own_buttons : ((("headed" : Str) = "own_buttons") = False) := eq_false (by decide +kernel)
theorem beReader_headed_own_buttons : ((("headed" : Str) == "own_buttons") = false) := by decide +kernel
theorem neReader_headed_own_lines : ((("headed" : Str) = "own_lines") = False) := eq_false (by decide +kernel)
theorem beReader_headed_own_lines : ((("headed" : Str) == "own_lines") = false) := by decide +kernel
theorem neReader_headed_own_tracks : ((("headed" : Str) = "own_tracks") = False) := eq_false (by decide +kernel)
theorem beReader_headed_own_tracks : ((("headed" : Str) == "own_tracks") = false) := by decide +kernel
theorem neReader_is_deed_at : ((("is_deed" : Str) = "at") = False) := eq_false (by decide +kernel)
theorem beReader_is_deed_at : ((("is_deed" : Str) == "at") = false) := by decide +kernel
theorem neReader_is_deed_later : ((("is_deed" : Str) = "later") = False) := eq_false (by decide +kernel)
theorem beReader_is_deed_later : ((("is_deed" : Str) == "later") = false) := by decide +kernel
theorem neReader_is_deed_own_bar : ((("is_deed" : Str) = "own_bar") = False) := eq_false (by decide +kernel)
theorem beReader_is_deed_own_bar : ((("is_deed" : Str) == "own_bar") = false) := by decide +kernel
theorem neReader_is_deed_own_buttons : ((("is_deed" : Str) = "own_buttons") = False) := eq_false (by decide +kernel)
theorem beReader_is_deed_own_buttons : ((("is_deed" : Str) == "own_buttons") = false) := by decide +kernel
theorem neReader_is_deed_own_lines : ((("is_deed" : Str) = "own_lines") = False) := eq_false (by decide +kernel)
theorem beReader_is_deed_own_lines : ((("is_deed" : Str) == "own_lines") = false) := by decide +kernel
theorem neReader_is_deed_own_tracks : ((("is_deed" : Str) = "own_tracks") = False) := eq_false (by decide +kernel)
theorem beReader_is_deed_own_tracks : ((("is_deed" : Str) == "own_tracks") = false) := by decide +kernel
theorem neReader_later_at : ((("later" : Str) = "at") = False) := eq_false (by decide +kernel)
theorem beReader_later_at : ((("later" : Str) == "at") = false) := by decide +kernel
theorem neReader_later_own_bar : ((("later" : Str) = "own_bar") = False) := eq_false (by decide +kernel)
theorem beReader_later_own_bar : ((("later" : Str) == "own_bar") = false) := by decide +kernel
theorem neReader_later_own_buttons : ((("later" : Str) = "own_buttons") = False) := eq_false (by decide +kernel)
theorem beReader_later_own_buttons : ((("later" : Str) == "own_buttons") = false) := by decide +kernel
theorem neReader_later_own_lines : ((("later" : Str) = "own_lines") = False) := eq_false (by decide +kernel)
theorem beReader_later_own_lines : ((("later" : Str) == "own_lines") = false) := by decide +kernel
theorem neReader_later_own_tracks : ((("later" : Str) = "own_tracks") = False) := eq_false (by decide +kernel)
theorem beReader_later_own_tracks : ((("later" : Str) == "own_tracks") = false) := by decide +kernel
theorem neReader_loop_in_at : ((("loop_in" : Str) = "at") = False) := eq_false (by decide +kernel)
theorem beReader_loop_in_at : ((("loop_in" : Str) == "at") = false) := by decide +kernel
theorem neReader_loop_in_later : ((("loop_in" : Str) = "later") = False) := eq_false (by decide +kernel)
theorem beReader_loop_in_later : ((("loop_in" : Str) == "later") = false) := by decide +kernel
theorem neReader_loop_in_own_bar : ((("loop_in" : Str) = "own_bar") = False) := eq_false (by decide +kernel)
theorem beReader_loop_in_own_bar : ((("loop_in" : Str) == "own_bar") = false) := by decide +kernel
theorem neReader_loop_in_own_buttons : ((("loop_in" : Str) = "own_buttons") = False) := eq_false (by decide +kernel)
theorem beReader_loop_in_own_buttons : ((("loop_in" : Str) == "own_buttons") = false) := by decide +kernel
theorem neReader_loop_in_own_lines : ((("loop_in" : Str) = "own_lines") = False) := eq_false (by decide +kernel)
theorem beReader_loop_in_own_lines : ((("loop_in" : Str) == "own_lines") = false) := by decide +kernel
theorem neReader_loop_in_own_tracks : ((("loop_in" : Str) = "own_tracks") = False) := eq_false (by decide +kernel)
theorem beReader_loop_in_own_tracks : ((("loop_in" : Str) == "own_tracks") = false) := by decide +kernel
theorem neReader_own_bar_at : ((("own_bar" : Str) = "at") = False) := eq_false (by decide +kernel)
theorem beReader_own_bar_at : ((("own_bar" : Str) == "at") = false) := by decide +kernel
theorem neReader_own_bar_later : ((("own_bar" : Str) = "later") = False) := eq_false (by decide +kernel)
theorem beReader_own_bar_later : ((("own_bar" : Str) == "later") = false) := by decide +kernel
theorem neReader_own_bar_own_buttons : ((("own_bar" : Str) = "own_buttons") = False) := eq_false (by decide +kernel)
theorem beReader_own_bar_own_buttons : ((("own_bar" : Str) == "own_buttons") = false) := by decide +kernel
theorem neReader_own_bar_own_lines : ((("own_bar" : Str) = "own_lines") = False) := eq_false (by decide +kernel)
theorem beReader_own_bar_own_lines : ((("own_bar" : Str) == "own_lines") = false) := by decide +kernel
theorem neReader_own_bar_own_tracks : ((("own_bar" : Str) = "own_tracks") = False) := eq_false (by decide +kernel)
theorem beReader_own_bar_own_tracks : ((("own_bar" : Str) == "own_tracks") = false) := by decide +kernel
theorem neReader_own_buttons_at : ((("own_buttons" : Str) = "at") = False) := eq_false (by decide +kernel)
theorem beReader_own_buttons_at : ((("own_buttons" : Str) == "at") = false) := by decide +kernel
theorem neReader_own_buttons_later : ((("own_buttons" : Str) = "later") = False) := eq_false (by decide +kernel)
theorem beReader_own_buttons_later : ((("own_buttons" : Str) == "later") = false) := by decide +kernel
theorem neReader_own_buttons_own_bar : ((("own_buttons" : Str) = "own_bar") = False) := eq_false (by decide +kernel)
theorem beReader_own_buttons_own_bar : ((("own_buttons" : Str) == "own_bar") = false) := by decide +kernel
theorem neReader_own_buttons_own_lines : ((("own_buttons" : Str) = "own_lines") = False) := eq_false (by decide +kernel)
theorem beReader_own_buttons_own_lines : ((("own_buttons" : Str) == "own_lines") = false) := by decide +kernel
theorem neReader_own_buttons_own_tracks : ((("own_buttons" : Str) = "own_tracks") = False) := eq_false (by decide +kernel)
theorem beReader_own_buttons_own_tracks : ((("own_buttons" : Str) == "own_tracks") = false) := by decide +kernel
theorem neReader_own_lines_at : ((("own_lines" : Str) = "at") = False) := eq_false (by decide +kernel)
theorem beReader_own_lines_at : ((("own_lines" : Str) == "at") = false) := by decide +kernel
theorem neReader_own_lines_later : ((("own_lines" : Str) = "later") = False) := eq_false (by decide +kernel)
theorem beReader_own_lines_later : ((("own_lines" : Str) == "later") = false) := by decide +kernel
theorem neReader_own_lines_own_bar : ((("own_lines" : Str) = "own_bar") = False) := eq_false (by decide +kernel)
theorem beReader_own_lines_own_bar : ((("own_lines" : Str) == "own_bar") = false) := by decide +kernel
theorem neReader_own_lines_own_buttons : ((("own_lines" : Str) = "own_buttons") = False) := eq_false (by decide +kernel)
theorem beReader_own_lines_own_buttons : ((("own_lines" : Str) == "own_buttons") = false) := by decide +kernel
theorem neReader_own_lines_own_tracks : ((("own_lines" : Str) = "own_tracks") = False) := eq_false (by decide +kernel)
theorem beReader_own_lines_own_tracks : ((("own_lines" : Str) == "own_tracks") = false) := by decide +kernel
theorem neReader_own_tracks_at : ((("own_tracks" : Str) = "at") = False) := eq_false (by decide +kernel)
theorem beReader_own_tracks_at : ((("own_tracks" : Str) == "at") = false) := by decide +kernel
theorem neReader_own_tracks_later : ((("own_tracks" : Str) = "later") = False) := eq_false (by decide +kernel)
theorem beReader_own_tracks_later : ((("own_tracks" : Str) == "later") = false) := by decide +kernel
theorem neReader_own_tracks_own_bar : ((("own_tracks" : Str) = "own_bar") = False) := eq_false (by decide +kernel)
theorem beReader_own_tracks_own_bar : ((("own_tracks" : Str) == "own_bar") = false) := by decide +kernel
theorem neReader_own_tracks_own_buttons : ((("own_tracks" : Str) = "own_buttons") = False) := eq_false (by decide +kernel)
theorem beReader_own_tracks_own_buttons : ((("own_tracks" : Str) == "own_buttons") = false) := by decide +kernel
theorem neReader_own_tracks_own_lines : ((("own_tracks" : Str) = "own_lines") = False) := eq_false (by decide +kernel)
theorem beReader_own_tracks_own_lines : ((("own_tracks" : Str) == "own_lines") = false) := by decide +kernel
theorem neReader_read_at : ((("read" : Str) = "at") = False) := eq_false (by decide +kernel)
theorem beReader_read_at : ((("read" : Str) == "at") = false) := by decide +kernel
theorem neReader_read_later : ((("read" : Str) = "later") = False) := eq_false (by decide +kernel)
theorem beReader_read_later : ((("read" : Str) == "later") = false) := by decide +kernel
theorem neReader_read_own_bar : ((("read" : Str) = "own_bar") = False) := eq_false (by decide +kernel)
theorem beReader_read_own_bar : ((("read" : Str) == "own_bar") = false) := by decide +kernel
theorem neReader_read_own_buttons : ((("read" : Str) = "own_buttons") = False) := eq_false (by decide +kernel)
theorem beReader_read_own_buttons : ((("read" : Str) == "own_buttons") = false) := by decide +kernel
theorem neReader_read_own_lines : ((("read" : Str) = "own_lines") = False) := eq_false (by decide +kernel)
theorem beReader_read_own_lines : ((("read" : Str) == "own_lines") = false) := by decide +kernel
theorem neReader_read_own_tracks : ((("read" : Str) = "own_tracks") = False) := eq_false (by decide +kernel)
theorem beReader_read_own_tracks : ((("read" : Str) == "own_tracks") = false) := by decide +kernel
theorem neReader_read_button_at : ((("read_button" : Str) = "at") = False) := eq_false (by decide +kernel)
theorem beReader_read_button_at : ((("read_button" : Str) == "at") = false) := by decide +kernel
theorem neReader_read_button_later : ((("read_button" : Str) = "later") = False) := eq_false (by decide +kernel)
theorem beReader_read_button_later : ((("read_button" : Str) == "later") = false) := by decide +kernel
theorem neReader_read_button_own_bar : ((("read_button" : Str) = "own_bar") = False) := eq_false (by decide +kernel)
theorem beReader_read_button_own_bar : ((("read_button" : Str) == "own_bar") = false) := by decide +kernel
theorem neReader_read_button_own_buttons : ((("read_button" : Str) = "own_buttons") = False) := eq_false (by decide +kernel)
theorem beReader_read_button_own_buttons : ((("read_button" : Str) == "own_buttons") = false) := by decide +kernel
theorem neReader_read_button_own_lines : ((("read_button" : Str) = "own_lines") = False) := eq_false (by decide +kernel)
theorem beReader_read_button_own_lines : ((("read_button" : Str) == "own_lines") = false) := by decide +kernel
theorem neReader_read_button_own_tracks : ((("read_button" : Str) = "own_tracks") = False) := eq_false (by decide +kernel)
theorem beReader_read_button_own_tracks : ((("read_button" : Str) == "own_tracks") = false) := by decide +kernel
theorem neReader_read_loop_at : ((("read_loop" : Str) = "at") = False) := eq_false (by decide +kernel)
theorem beReader_read_loop_at : ((("read_loop" : Str) == "at") = false) := by decide +kernel
theorem neReader_read_loop_later : ((("read_loop" : Str) = "later") = False) := eq_false (by decide +kernel)
theorem beReader_read_loop_later : ((("read_loop" : Str) == "later") = false) := by decide +kernel
theorem neReader_read_loop_own_bar : ((("read_loop" : Str) = "own_bar") = False) := eq_false (by decide +kernel)
theorem beReader_read_loop_own_bar : ((("read_loop" : Str) == "own_bar") = false) := by decide +kernel
theorem neReader_read_loop_own_buttons : ((("read_loop" : Str) = "own_buttons") = False) := eq_false (by decide +kernel)
theorem beReader_read_loop_own_buttons : ((("read_loop" : Str) == "own_buttons") = false) := by decide +kernel
theorem neReader_read_loop_own_lines : ((("read_loop" : Str) = "own_lines") = False) := eq_false (by decide +kernel)
theorem beReader_read_loop_own_lines : ((("read_loop" : Str) == "own_lines") = false) := by decide +kernel
theorem neReader_read_loop_own_tracks : ((("read_loop" : Str) = "own_tracks") = False) := eq_false (by decide +kernel)
theorem beReader_read_loop_own_tracks : ((("read_loop" : Str) == "own_tracks") = false) := by decide +kernel
theorem neReader_read_track_at : ((("read_track" : Str) = "at") = False) := eq_false (by decide +kernel)
theorem beReader_read_track_at : ((("read_track" : Str) == "at") = false) := by decide +kernel
theorem neReader_read_track_later : ((("read_track" : Str) = "later") = False) := eq_false (by decide +kernel)
theorem beReader_read_track_later : ((("read_track" : Str) == "later") = false) := by decide +kernel
theorem neReader_read_track_own_bar : ((("read_track" : Str) = "own_bar") = False) := eq_false (by decide +kernel)
theorem beReader_read_track_own_bar : ((("read_track" : Str) == "own_bar") = false) := by decide +kernel
theorem neReader_read_track_own_buttons : ((("read_track" : Str) = "own_buttons") = False) := eq_false (by decide +kernel)
theorem beReader_read_track_own_buttons : ((("read_track" : Str) == "own_buttons") = false) := by decide +kernel
theorem neReader_read_track_own_lines : ((("read_track" : Str) = "own_lines") = False) := eq_false (by decide +kernel)
theorem beReader_read_track_own_lines : ((("read_track" : Str) == "own_lines") = false) := by decide +kernel
theorem neReader_read_track_own_tracks : ((("read_track" : Str) = "own_tracks") = False) := eq_false (by decide +kernel)
theorem beReader_read_track_own_tracks : ((("read_track" : Str) == "own_tracks") = false) := by decide +kernel
theorem neReader_row_at : ((("row" : Str) = "at") = False) := eq_false (by decide +kernel)
theorem beReader_row_at : ((("row" : Str) == "at") = false) := by decide +kernel
theorem neReader_row_later : ((("row" : Str) = "later") = False) := eq_false (by decide +kernel)
theorem beReader_row_later : ((("row" : Str) == "later") = false) := by decide +kernel
theorem neReader_row_own_bar : ((("row" : Str) = "own_bar") = False) := eq_false (by decide +kernel)
theorem beReader_row_own_bar : ((("row" : Str) == "own_bar") = false) := by decide +kernel
theorem neReader_row_own_buttons : ((("row" : Str) = "own_buttons") = False) := eq_false (by decide +kernel)
theorem beReader_row_own_buttons : ((("row" : Str) == "own_buttons") = false) := by decide +kernel
theorem neReader_row_own_lines : ((("row" : Str) = "own_lines") = False) := eq_false (by decide +kernel)
theorem beReader_row_own_lines : ((("row" : Str) == "own_lines") = false) := by decide +kernel
theorem neReader_row_own_tracks : ((("row" : Str) = "own_tracks") = False) := eq_false (by decide +kernel)
theorem beReader_row_own_tracks : ((("row" : Str) == "own_tracks") = false) := by decide +kernel
theorem neReader_want_at : ((("want" : Str) = "at") = False) := eq_false (by decide +kernel)
theorem beReader_want_at : ((("want" : Str) == "at") = false) := by decide +kernel
theorem neReader_want_later : ((("want" : Str) = "later") = False) := eq_false (by decide +kernel)
theorem beReader_want_later : ((("want" : Str) == "later") = false) := by decide +kernel
theorem neReader_want_own_bar : ((("want" : Str) = "own_bar") = False) := eq_false (by decide +kernel)
theorem beReader_want_own_bar : ((("want" : Str) == "own_bar") = false) := by decide +kernel
theorem neReader_want_own_buttons : ((("want" : Str) = "own_buttons") = False) := eq_false (by decide +kernel)
theorem beReader_want_own_buttons : ((("want" : Str) == "own_buttons") = false) := by decide +kernel
theorem neReader_want_own_lines : ((("want" : Str) = "own_lines") = False) := eq_false (by decide +kernel)
theorem beReader_want_own_lines : ((("want" : Str) == "own_lines") = false) := by decide +kernel
theorem neReader_want_own_tracks : ((("want" : Str) = "own_tracks") = False) := eq_false (by decide +kernel)
theorem beReader_want_own_tracks : ((("want" : Str) == "own_tracks") = false) := by decide +kernel
theorem lkReader_own_lines (o : OReader) : o.fs.lookup ("own_lines" : Str) = some o.own_lines := by
  simp only [OReader.fs, List.lookup, beq_self_eq_true]
theorem puReader_own_lines (o : OReader) (v : V) : putF "own_lines" v o.fs = ({ o with own_lines := v } : OReader).fs := by
  simp only [OReader.fs, putF, if_true, if_false]
theorem pnReader_own_lines (v0 : V) : putF "own_lines" v0 ([] : List (Str × V)) = ([("own_lines", v0)] : List (Str × V)) := by
  simp only [putF, if_false]
theorem lkReader_at (o : OReader) : o.fs.lookup ("at" : Str) = some o.at_ := by
  simp only [OReader.fs, List.lookup, beq_self_eq_true, beReader_at_own_lines]
theorem puReader_at (o : OReader) (v : V) : putF "at" v o.fs = ({ o with at_ := v } : OReader).fs := by
  simp only [OReader.fs, putF, if_true, if_false, neReader_own_lines_at]
theorem pnReader_at (v0 v1 : V) : putF "at" v1 ([("own_lines", v0)] : List (Str × V)) = ([("own_lines", v0), ("at", v1)] : List (Str × V)) := by
  simp only [putF, if_false, neReader_own_lines_at]
theorem lkReader_own_tracks (o : OReader) : o.fs.lookup ("own_tracks" : Str) = some o.own_tracks := by
  simp only [OReader.fs, List.lookup, beq_self_eq_true, beReader_own_tracks_own_lines, beReader_own_tracks_at]
theorem puReader_own_tracks (o : OReader) (v : V) : putF "own_tracks" v o.fs = ({ o with own_tracks := v } : OReader).fs := by
  simp only [OReader.fs, putF, if_true, if_false, neReader_own_lines_own_tracks, neReader_at_own_tracks]
theorem pnReader_own_tracks (v0 v1 v2 : V) : putF "own_tracks" v2 ([("own_lines", v0), ("at", v1)] : List (Str × V)) = ([("own_lines", v0), ("at", v1), ("own_tracks", v2)] : List (Str × V)) := by
  simp only [putF, if_false, neReader_own_lines_own_tracks, neReader_at_own_tracks]
theorem lkReader_own_buttons (o : OReader) : o.fs.lookup ("own_buttons" : Str) = some o.own_buttons := by
  simp only [OReader.fs, List.lookup, beq_self_eq_true, beReader_own_buttons_own_lines, beReader_own_buttons_at, beReader_own_buttons_own_tracks]
theorem puReader_own_buttons (o : OReader) (v : V) : putF "own_buttons" v o.fs = ({ o with own_buttons := v } : OReader).fs := by
  simp only [OReader.fs, putF, if_true, if_false, neReader_own_lines_own_buttons, neReader_at_own_buttons, neReader_own_tracks_own_buttons]
theorem pnReader_own_buttons (v0 v1 v2 v3 : V) : putF "own_buttons" v3 ([("own_lines", v0), ("at", v1), ("own_tracks", v2)] : List (Str × V)) = ([("own_lines", v0), ("at", v1), ("own_tracks", v2), ("own_buttons", v3)] : List (Str × V)) := by
  simp only [putF, if_false, neReader_own_lines_own_buttons, neReader_at_own_buttons, neReader_own_tracks_own_buttons]
theorem lkReader_own_bar (o : OReader) : o.fs.lookup ("own_bar" : Str) = some o.own_bar := by
  simp only [OReader.fs, List.lookup, beq_self_eq_true, beReader_own_bar_own_lines, beReader_own_bar_at, beReader_own_bar_own_tracks, beReader_own_bar_own_buttons]
theorem puReader_own_bar (o : OReader) (v : V) : putF "own_bar" v o.fs = ({ o with own_bar := v } : OReader).fs := by
  simp only [OReader.fs, putF, if_true, if_false, neReader_own_lines_own_bar, neReader_at_own_bar, neReader_own_tracks_own_bar, neReader_own_buttons_own_bar]
theorem pnReader_own_bar (v0 v1 v2 v3 v4 : V) : putF "own_bar" v4 ([("own_lines", v0), ("at", v1), ("own_tracks", v2), ("own_buttons", v3)] : List (Str × V)) = ([("own_lines", v0), ("at", v1), ("own_tracks", v2), ("own_buttons", v3), ("own_bar", v4)] : List (Str × V)) := by
  simp only [putF, if_false, neReader_own_lines_own_bar, neReader_at_own_bar, neReader_own_tracks_own_bar, neReader_own_buttons_own_bar]
theorem lkReader_later (o : OReader) : o.fs.lookup ("later" : Str) = some o.later := by
  simp only [OReader.fs, List.lookup, beq_self_eq_true, beReader_later_own_lines, beReader_later_at, beReader_later_own_tracks, beReader_later_own_buttons, beReader_later_own_bar]
theorem puReader_later (o : OReader) (v : V) : putF "later" v o.fs = ({ o with later := v } : OReader).fs := by
  simp only [OReader.fs, putF, if_true, if_false, neReader_own_lines_later, neReader_at_later, neReader_own_tracks_later, neReader_own_buttons_later, neReader_own_bar_later]
theorem pnReader_later (v0 v1 v2 v3 v4 v5 : V) : putF "later" v5 ([("own_lines", v0), ("at", v1), ("own_tracks", v2), ("own_buttons", v3), ("own_bar", v4)] : List (Str × V)) = ([("own_lines", v0), ("at", v1), ("own_tracks", v2), ("own_buttons", v3), ("own_bar", v4), ("later", v5)] : List (Str × V)) := by
  simp only [putF, if_false, neReader_own_lines_later, neReader_at_later, neReader_own_tracks_later, neReader_own_buttons_later, neReader_own_bar_later]
theorem nmReader_want (o : OReader) : o.fs.lookup ("want" : Str) = none := by
  simp only [OReader.fs, List.lookup, beReader_want_own_lines, beReader_want_at, beReader_want_own_tracks, beReader_want_own_buttons, beReader_want_own_bar, beReader_want_later]
theorem nmReader_row (o : OReader) : o.fs.lookup ("row" : Str) = none := by
  simp only [OReader.fs, List.lookup, beReader_row_own_lines, beReader_row_at, beReader_row_own_tracks, beReader_row_own_buttons, beReader_row_own_bar, beReader_row_later]
theorem nmReader_headed (o : OReader) : o.fs.lookup ("headed" : Str) = none := by
  simp only [OReader.fs, List.lookup, beReader_headed_own_lines, beReader_headed_at, beReader_headed_own_tracks, beReader_headed_own_buttons, beReader_headed_own_bar, beReader_headed_later]
theorem nmReader_is_deed (o : OReader) : o.fs.lookup ("is_deed" : Str) = none := by
  simp only [OReader.fs, List.lookup, beReader_is_deed_own_lines, beReader_is_deed_at, beReader_is_deed_own_tracks, beReader_is_deed_own_buttons, beReader_is_deed_own_bar, beReader_is_deed_later]
theorem nmReader_loop_in (o : OReader) : o.fs.lookup ("loop_in" : Str) = none := by
  simp only [OReader.fs, List.lookup, beReader_loop_in_own_lines, beReader_loop_in_at, beReader_loop_in_own_tracks, beReader_loop_in_own_buttons, beReader_loop_in_own_bar, beReader_loop_in_later]
theorem nmReader_read_loop (o : OReader) : o.fs.lookup ("read_loop" : Str) = none := by
  simp only [OReader.fs, List.lookup, beReader_read_loop_own_lines, beReader_read_loop_at, beReader_read_loop_own_tracks, beReader_read_loop_own_buttons, beReader_read_loop_own_bar, beReader_read_loop_later]
theorem nmReader_read_track (o : OReader) : o.fs.lookup ("read_track" : Str) = none := by
  simp only [OReader.fs, List.lookup, beReader_read_track_own_lines, beReader_read_track_at, beReader_read_track_own_tracks, beReader_read_track_own_buttons, beReader_read_track_own_bar, beReader_read_track_later]
theorem nmReader_read_button (o : OReader) : o.fs.lookup ("read_button" : Str) = none := by
  simp only [OReader.fs, List.lookup, beReader_read_button_own_lines, beReader_read_button_at, beReader_read_button_own_tracks, beReader_read_button_own_buttons, beReader_read_button_own_bar, beReader_read_button_later]
theorem nmReader_read (o : OReader) : o.fs.lookup ("read" : Str) = none := by
  simp only [OReader.fs, List.lookup, beReader_read_own_lines, beReader_read_at, beReader_read_own_tracks, beReader_read_own_buttons, beReader_read_own_bar, beReader_read_later]
/-- the attributes of a Board -/
structure OBoard where
  own_text : V
  own_tracks : V
  own_buttons : V
  own_bar : V
def OBoard.fs (o : OBoard) : List (Str × V) := [("own_text", o.own_text), ("own_tracks", o.own_tracks), ("own_buttons", o.own_buttons), ("own_bar", o.own_bar)]
theorem neBoard___contains___own_bar : ((("__contains__" : Str) = "own_bar") = False) := eq_false (by decide +kernel)
theorem beBoard___contains___own_bar : ((("__contains__" : Str) == "own_bar") = false) := by decide +kernel
theorem neBoard___contains___own_buttons : ((("__contains__" : Str) = "own_buttons") = False) := eq_false (by decide +kernel)
theorem beBoard___contains___own_buttons : ((("__contains__" : Str) == "own_buttons") = false) := by decide +kernel
theorem neBoard___contains___own_text : ((("__contains__" : Str) = "own_text") = False) := eq_false (by decide +kernel)
theorem beBoard___contains___own_text : ((("__contains__" : Str) == "own_text") = false) := by decide +kernel
theorem neBoard___contains___own_tracks : ((("__contains__" : Str) = "own_tracks") = False) := eq_false (by decide +kernel)
theorem beBoard___contains___own_tracks : ((("__contains__" : Str) == "own_tracks") = false) := by decide +kernel
theorem neBoard_own_bar_own_buttons : ((("own_bar" : Str) = "own_buttons") = False) := eq_false (by decide +kernel)
theorem beBoard_own_bar_own_buttons : ((("own_bar" : Str) == "own_buttons") = false) := by decide +kernel
theorem neBoard_own_bar_own_text : ((("own_bar" : Str) = "own_text") = False) := eq_false (by decide +kernel)
theorem beBoard_own_bar_own_text : ((("own_bar" : Str) == "own_text") = false) := by decide +kernel
theorem neBoard_own_bar_own_tracks : ((("own_bar" : Str) = "own_tracks") = False) := eq_false (by decide +kernel)
theorem beBoard_own_bar_own_tracks : ((("own_bar" : Str) == "own_tracks") = false) := by decide +kernel
theorem neBoard_own_buttons_own_bar : ((("own_buttons" : Str) = "own_bar") = False) := eq_false (by decide +kernel)
theorem beBoard_own_buttons_own_bar : ((("own_buttons" : Str) == "own_bar") = false) := by decide +kernel
theorem neBoard_own_buttons_own_text : ((("own_buttons" : Str) = "own_text") = False) := eq_false (by decide +kernel)
theorem beBoard_own_buttons_own_text : ((("own_buttons" : Str) == "own_text") = false) := by decide +kernel
theorem neBoard_own_buttons_own_tracks : ((("own_buttons" : Str) = "own_tracks") = False) := eq_false (by decide +kernel)
theorem beBoard_own_buttons_own_tracks : ((("own_buttons" : Str) == "own_tracks") = false) := by decide +kernel
theorem neBoard_own_text_own_bar : ((("own_text" : Str) = "own_bar") = False) := eq_false (by decide +kernel)
theorem beBoard_own_text_own_bar : ((("own_text" : Str) == "own_bar") = false) := by decide +kernel
theorem neBoard_own_text_own_buttons : ((("own_text" : Str) = "own_buttons") = False) := eq_false (by decide +kernel)
theorem beBoard_own_text_own_buttons : ((("own_text" : Str) == "own_buttons") = false) := by decide +kernel
theorem neBoard_own_text_own_tracks : ((("own_text" : Str) = "own_tracks") = False) := eq_false (by decide +kernel)
theorem beBoard_own_text_own_tracks : ((("own_text" : Str) == "own_tracks") = false) := by decide +kernel
theorem neBoard_own_tracks_own_bar : ((("own_tracks" : Str) = "own_bar") = False) := eq_false (by decide +kernel)
theorem beBoard_own_tracks_own_bar : ((("own_tracks" : Str) == "own_bar") = false) := by decide +kernel
theorem neBoard_own_tracks_own_buttons : ((("own_tracks" : Str) = "own_buttons") = False) := eq_false (by decide +kernel)
theorem beBoard_own_tracks_own_buttons : ((("own_tracks" : Str) == "own_buttons") = false) := by decide +kernel
theorem neBoard_own_tracks_own_text : ((("own_tracks" : Str) = "own_text") = False) := eq_false (by decide +kernel)
theorem beBoard_own_tracks_own_text : ((("own_tracks" : Str) == "own_text") = false) := by decide +kernel
theorem lkBoard_own_text (o : OBoard) : o.fs.lookup ("own_text" : Str) = some o.own_text := by
  simp only [OBoard.fs, List.lookup, beq_self_eq_true]
theorem puBoard_own_text (o : OBoard) (v : V) : putF "own_text" v o.fs = ({ o with own_text := v } : OBoard).fs := by
  simp only [OBoard.fs, putF, if_true, if_false]
theorem pnBoard_own_text (v0 : V) : putF "own_text" v0 ([] : List (Str × V)) = ([("own_text", v0)] : List (Str × V)) := by
  simp only [putF, if_false]
theorem lkBoard_own_tracks (o : OBoard) : o.fs.lookup ("own_tracks" : Str) = some o.own_tracks := by
  simp only [OBoard.fs, List.lookup, beq_self_eq_true, beBoard_own_tracks_own_text]
theorem puBoard_own_tracks (o : OBoard) (v : V) : putF "own_tracks" v o.fs = ({ o with own_tracks := v } : OBoard).fs := by
  simp only [OBoard.fs, putF, if_true, if_false, neBoard_own_text_own_tracks]
theorem pnBoard_own_tracks (v0 v1 : V) : putF "own_tracks" v1 ([("own_text", v0)] : List (Str × V)) = ([("own_text", v0), ("own_tracks", v1)] : List (Str × V)) := by
  simp only [putF, if_false, neBoard_own_text_own_tracks]
theorem lkBoard_own_buttons (o : OBoard) : o.fs.lookup ("own_buttons" : Str) = some o.own_buttons := by
  simp only [OBoard.fs, List.lookup, beq_self_eq_true, beBoard_own_buttons_own_text, beBoard_own_buttons_own_tracks]
theorem puBoard_own_buttons (o : OBoard) (v : V) : putF "own_buttons" v o.fs = ({ o with own_buttons := v } : OBoard).fs := by
  simp only [OBoard.fs, putF, if_true, if_false, neBoard_own_text_own_buttons, neBoard_own_tracks_own_buttons]
theorem pnBoard_own_buttons (v0 v1 v2 : V) : putF "own_buttons" v2 ([("own_text", v0), ("own_tracks", v1)] : List (Str × V)) = ([("own_text", v0), ("own_tracks", v1), ("own_buttons", v2)] : List (Str × V)) := by
  simp only [putF, if_false, neBoard_own_text_own_buttons, neBoard_own_tracks_own_buttons]
theorem lkBoard_own_bar (o : OBoard) : o.fs.lookup ("own_bar" : Str) = some o.own_bar := by
  simp only [OBoard.fs, List.lookup, beq_self_eq_true, beBoard_own_bar_own_text, beBoard_own_bar_own_tracks, beBoard_own_bar_own_buttons]
theorem puBoard_own_bar (o : OBoard) (v : V) : putF "own_bar" v o.fs = ({ o with own_bar := v } : OBoard).fs := by
  simp only [OBoard.fs, putF, if_true, if_false, neBoard_own_text_own_bar, neBoard_own_tracks_own_bar, neBoard_own_buttons_own_bar]
theorem pnBoard_own_bar (v0 v1 v2 v3 : V) : putF "own_bar" v3 ([("own_text", v0), ("own_tracks", v1), ("own_buttons", v2)] : List (Str × V)) = ([("own_text", v0), ("own_tracks", v1), ("own_buttons", v2), ("own_bar", v3)] : List (Str × V)) := by
  simp only [putF, if_false, neBoard_own_text_own_bar, neBoard_own_tracks_own_bar, neBoard_own_buttons_own_bar]
theorem nmBoard_DcontainsD (o : OBoard) : o.fs.lookup ("__contains__" : Str) = none := by
  simp only [OBoard.fs, List.lookup, beBoard___contains___own_text, beBoard___contains___own_tracks, beBoard___contains___own_buttons, beBoard___contains___own_bar]
/-- the attributes of a Player -/
structure OPlayer where
  own_tracks : V
  own_buttons : V
  begins : V
  own_step : V
  own_standings : V
def OPlayer.fs (o : OPlayer) : List (Str × V) := [("own_tracks", o.own_tracks), ("own_buttons", o.own_buttons), ("begins", o.begins), ("own_step", o.own_step), ("own_standings", o.own_standings)]
theorem nePlayer_begins_own_buttons : ((("begins" : Str) = "own_buttons") = False) := eq_false (by decide +kernel)
theorem bePlayer_begins_own_buttons : ((("begins" : Str) == "own_buttons") = false) := by decide +kernel
theorem nePlayer_begins_own_standings : ((("begins" : Str) = "own_standings") = False) := eq_false (by decide +kernel)
theorem bePlayer_begins_own_standings : ((("begins" : Str) == "own_standings") = false) := by decide +kernel
theorem nePlayer_begins_own_step : ((("begins" : Str) = "own_step") = False) := eq_false (by decide +kernel)
theorem bePlayer_begins_own_step : ((("begins" : Str) == "own_step") = false) := by decide +kernel
theorem nePlayer_begins_own_tracks : ((("begins" : Str) = "own_tracks") = False) := eq_false (by decide +kernel)
theorem bePlayer_begins_own_tracks : ((("begins" : Str) == "own_tracks") = false) := by decide +kernel
theorem nePlayer_move_begins : ((("move" : Str) = "begins") = False) := eq_false (by decide +kernel)
theorem bePlayer_move_begins : ((("move" : Str) == "begins") = false) := by decide +kernel
theorem nePlayer_move_own_buttons : ((("move" : Str) = "own_buttons") = False) := eq_false (by decide +kernel)
theorem bePlayer_move_own_buttons : ((("move" : Str) == "own_buttons") = false) := by decide +kernel
theorem nePlayer_move_own_standings : ((("move" : Str) = "own_standings") = False) := eq_false (by decide +kernel)
theorem bePlayer_move_own_standings : ((("move" : Str) == "own_standings") = false) := by decide +kernel
theorem nePlayer_move_own_step : ((("move" : Str) = "own_step") = False) := eq_false (by decide +kernel)
theorem bePlayer_move_own_step : ((("move" : Str) == "own_step") = false) := by decide +kernel
theorem nePlayer_move_own_tracks : ((("move" : Str) = "own_tracks") = False) := eq_false (by decide +kernel)
theorem bePlayer_move_own_tracks : ((("move" : Str) == "own_tracks") = false) := by decide +kernel
theorem nePlayer_own_buttons_begins : ((("own_buttons" : Str) = "begins") = False) := eq_false (by decide +kernel)
theorem bePlayer_own_buttons_begins : ((("own_buttons" : Str) == "begins") = false) := by decide +kernel
theorem nePlayer_own_buttons_own_standings : ((("own_buttons" : Str) = "own_standings") = False) := eq_false (by decide +kernel)
theorem bePlayer_own_buttons_own_standings : ((("own_buttons" : Str) == "own_standings") = false) := by decide +kernel
theorem nePlayer_own_buttons_own_step : ((("own_buttons" : Str) = "own_step") = False) := eq_false (by decide +kernel)
theorem bePlayer_own_buttons_own_step : ((("own_buttons" : Str) == "own_step") = false) := by decide +kernel
theorem nePlayer_own_buttons_own_tracks : ((("own_buttons" : Str) = "own_tracks") = False) := eq_false (by decide +kernel)
theorem bePlayer_own_buttons_own_tracks : ((("own_buttons" : Str) == "own_tracks") = false) := by decide +kernel
theorem nePlayer_own_standings_begins : ((("own_standings" : Str) = "begins") = False) := eq_false (by decide +kernel)
theorem bePlayer_own_standings_begins : ((("own_standings" : Str) == "begins") = false) := by decide +kernel
theorem nePlayer_own_standings_own_buttons : ((("own_standings" : Str) = "own_buttons") = False) := eq_false (by decide +kernel)
theorem bePlayer_own_standings_own_buttons : ((("own_standings" : Str) == "own_buttons") = false) := by decide +kernel
theorem nePlayer_own_standings_own_step : ((("own_standings" : Str) = "own_step") = False) := eq_false (by decide +kernel)
theorem bePlayer_own_standings_own_step : ((("own_standings" : Str) == "own_step") = false) := by decide +kernel
theorem nePlayer_own_standings_own_tracks : ((("own_standings" : Str) = "own_tracks") = False) := eq_false (by decide +kernel)
theorem bePlayer_own_standings_own_tracks : ((("own_standings" : Str) == "own_tracks") = false) := by decide +kernel
theorem nePlayer_own_step_begins : ((("own_step" : Str) = "begins") = False) := eq_false (by decide +kernel)
theorem bePlayer_own_step_begins : ((("own_step" : Str) == "begins") = false) := by decide +kernel
theorem nePlayer_own_step_own_buttons : ((("own_step" : Str) = "own_buttons") = False) := eq_false (by decide +kernel)
theorem bePlayer_own_step_own_buttons : ((("own_step" : Str) == "own_buttons") = false) := by decide +kernel
theorem nePlayer_own_step_own_standings : ((("own_step" : Str) = "own_standings") = False) := eq_false (by decide +kernel)
theorem bePlayer_own_step_own_standings : ((("own_step" : Str) == "own_standings") = false) := by decide +kernel
theorem nePlayer_own_step_own_tracks : ((("own_step" : Str) = "own_tracks") = False) := eq_false (by decide +kernel)
theorem bePlayer_own_step_own_tracks : ((("own_step" : Str) == "own_tracks") = false) := by decide +kernel
theorem nePlayer_own_tracks_begins : ((("own_tracks" : Str) = "begins") = False) := eq_false (by decide +kernel)
theorem bePlayer_own_tracks_begins : ((("own_tracks" : Str) == "begins") = false) := by decide +kernel
theorem nePlayer_own_tracks_own_buttons : ((("own_tracks" : Str) = "own_buttons") = False) := eq_false (by decide +kernel)
theorem bePlayer_own_tracks_own_buttons : ((("own_tracks" : Str) == "own_buttons") = false) := by decide +kernel
theorem nePlayer_own_tracks_own_standings : ((("own_tracks" : Str) = "own_standings") = False) := eq_false (by decide +kernel)
theorem bePlayer_own_tracks_own_standings : ((("own_tracks" : Str) == "own_standings") = false) := by decide +kernel
theorem nePlayer_own_tracks_own_step : ((("own_tracks" : Str) = "own_step") = False) := eq_false (by decide +kernel)
theorem bePlayer_own_tracks_own_step : ((("own_tracks" : Str) == "own_step") = false) := by decide +kernel
theorem nePlayer_sounding_begins : ((("sounding" : Str) = "begins") = False) := eq_false (by decide +kernel)
theorem bePlayer_sounding_begins : ((("sounding" : Str) == "begins") = false) := by decide +kernel
theorem nePlayer_sounding_own_buttons : ((("sounding" : Str) = "own_buttons") = False) := eq_false (by decide +kernel)
theorem bePlayer_sounding_own_buttons : ((("sounding" : Str) == "own_buttons") = false) := by decide +kernel
theorem nePlayer_sounding_own_standings : ((("sounding" : Str) = "own_standings") = False) := eq_false (by decide +kernel)
theorem bePlayer_sounding_own_standings : ((("sounding" : Str) == "own_standings") = false) := by decide +kernel
theorem nePlayer_sounding_own_step : ((("sounding" : Str) = "own_step") = False) := eq_false (by decide +kernel)
theorem bePlayer_sounding_own_step : ((("sounding" : Str) == "own_step") = false) := by decide +kernel
theorem nePlayer_sounding_own_tracks : ((("sounding" : Str) = "own_tracks") = False) := eq_false (by decide +kernel)
theorem bePlayer_sounding_own_tracks : ((("sounding" : Str) == "own_tracks") = false) := by decide +kernel
theorem lkPlayer_own_tracks (o : OPlayer) : o.fs.lookup ("own_tracks" : Str) = some o.own_tracks := by
  simp only [OPlayer.fs, List.lookup, beq_self_eq_true]
theorem puPlayer_own_tracks (o : OPlayer) (v : V) : putF "own_tracks" v o.fs = ({ o with own_tracks := v } : OPlayer).fs := by
  simp only [OPlayer.fs, putF, if_true, if_false]
theorem pnPlayer_own_tracks (v0 : V) : putF "own_tracks" v0 ([] : List (Str × V)) = ([("own_tracks", v0)] : List (Str × V)) := by
  simp only [putF, if_false]
theorem lkPlayer_own_buttons (o : OPlayer) : o.fs.lookup ("own_buttons" : Str) = some o.own_buttons := by
  simp only [OPlayer.fs, List.lookup, beq_self_eq_true, bePlayer_own_buttons_own_tracks]
theorem puPlayer_own_buttons (o : OPlayer) (v : V) : putF "own_buttons" v o.fs = ({ o with own_buttons := v } : OPlayer).fs := by
  simp only [OPlayer.fs, putF, if_true, if_false, nePlayer_own_tracks_own_buttons]
theorem pnPlayer_own_buttons (v0 v1 : V) : putF "own_buttons" v1 ([("own_tracks", v0)] : List (Str × V)) = ([("own_tracks", v0), ("own_buttons", v1)] : List (Str × V)) := by
  simp only [putF, if_false, nePlayer_own_tracks_own_buttons]
theorem lkPlayer_begins (o : OPlayer) : o.fs.lookup ("begins" : Str) = some o.begins := by
  simp only [OPlayer.fs, List.lookup, beq_self_eq_true, bePlayer_begins_own_tracks, bePlayer_begins_own_buttons]
theorem puPlayer_begins (o : OPlayer) (v : V) : putF "begins" v o.fs = ({ o with begins := v } : OPlayer).fs := by
  simp only [OPlayer.fs, putF, if_true, if_false, nePlayer_own_tracks_begins, nePlayer_own_buttons_begins]
theorem pnPlayer_begins (v0 v1 v2 : V) : putF "begins" v2 ([("own_tracks", v0), ("own_buttons", v1)] : List (Str × V)) = ([("own_tracks", v0), ("own_buttons", v1), ("begins", v2)] : List (Str × V)) := by
  simp only [putF, if_false, nePlayer_own_tracks_begins, nePlayer_own_buttons_begins]
theorem lkPlayer_own_step (o : OPlayer) : o.fs.lookup ("own_step" : Str) = some o.own_step := by
  simp only [OPlayer.fs, List.lookup, beq_self_eq_true, bePlayer_own_step_own_tracks, bePlayer_own_step_own_buttons, bePlayer_own_step_begins]
theorem puPlayer_own_step (o : OPlayer) (v : V) : putF "own_step" v o.fs = ({ o with own_step := v } : OPlayer).fs := by
  simp only [OPlayer.fs, putF, if_true, if_false, nePlayer_own_tracks_own_step, nePlayer_own_buttons_own_step, nePlayer_begins_own_step]
theorem pnPlayer_own_step (v0 v1 v2 v3 : V) : putF "own_step" v3 ([("own_tracks", v0), ("own_buttons", v1), ("begins", v2)] : List (Str × V)) = ([("own_tracks", v0), ("own_buttons", v1), ("begins", v2), ("own_step", v3)] : List (Str × V)) := by
  simp only [putF, if_false, nePlayer_own_tracks_own_step, nePlayer_own_buttons_own_step, nePlayer_begins_own_step]
theorem lkPlayer_own_standings (o : OPlayer) : o.fs.lookup ("own_standings" : Str) = some o.own_standings := by
  simp only [OPlayer.fs, List.lookup, beq_self_eq_true, bePlayer_own_standings_own_tracks, bePlayer_own_standings_own_buttons, bePlayer_own_standings_begins, bePlayer_own_standings_own_step]
theorem puPlayer_own_standings (o : OPlayer) (v : V) : putF "own_standings" v o.fs = ({ o with own_standings := v } : OPlayer).fs := by
  simp only [OPlayer.fs, putF, if_true, if_false, nePlayer_own_tracks_own_standings, nePlayer_own_buttons_own_standings, nePlayer_begins_own_standings, nePlayer_own_step_own_standings]
theorem pnPlayer_own_standings (v0 v1 v2 v3 v4 : V) : putF "own_standings" v4 ([("own_tracks", v0), ("own_buttons", v1), ("begins", v2), ("own_step", v3)] : List (Str × V)) = ([("own_tracks", v0), ("own_buttons", v1), ("begins", v2), ("own_step", v3), ("own_standings", v4)] : List (Str × V)) := by
  simp only [putF, if_false, nePlayer_own_tracks_own_standings, nePlayer_own_buttons_own_standings, nePlayer_begins_own_standings, nePlayer_own_step_own_standings]
theorem nmPlayer_move (o : OPlayer) : o.fs.lookup ("move" : Str) = none := by
  simp only [OPlayer.fs, List.lookup, bePlayer_move_own_tracks, bePlayer_move_own_buttons, bePlayer_move_begins, bePlayer_move_own_step, bePlayer_move_own_standings]
theorem nmPlayer_sounding (o : OPlayer) : o.fs.lookup ("sounding" : Str) = none := by
  simp only [OPlayer.fs, List.lookup, bePlayer_sounding_own_tracks, bePlayer_sounding_own_buttons, bePlayer_sounding_begins, bePlayer_sounding_own_step, bePlayer_sounding_own_standings]
/-- the class Loop -/
structure TxtLoop (K : PySem.W.Frag) (mg : Str → Option Value) where
  C : Addr
  gC : mg "Loop" = some (.ref C)
  cl : Cls K C
  init : DefF K "__init__" "Loop.__init__" s_LoopD_initD ["self", "name", "length", "span", "then"]
  made : Mk K C init.f
  na : NoAttrs K C ["name", "length", "span", "then", "places"]
  d_Loop_begun : DefF K "begun" "Loop.begun" s_Loop_begun ["self"]
  m_Loop_begun : Meth K C "begun" d_Loop_begun.f
/-- the class Track -/
structure TxtTrack (K : PySem.W.Frag) (mg : Str → Option Value) where
  C : Addr
  gC : mg "Track" = some (.ref C)
  cl : Cls K C
  init : DefF K "__init__" "Track.__init__" s_TrackD_initD ["self", "name"]
  made : Mk K C init.f
  na : NoAttrs K C ["name", "own_loops"]
/-- the class Button -/
structure TxtButton (K : PySem.W.Frag) (mg : Str → Option Value) where
  C : Addr
  gC : mg "Button" = some (.ref C)
  cl : Cls K C
  init : DefF K "__init__" "Button.__init__" s_ButtonD_initD ["self", "name", "quantum"]
  made : Mk K C init.f
  na : NoAttrs K C ["name", "quantum", "deeds"]
/-- the class Reader -/
structure TxtReader (K : PySem.W.Frag) (mg : Str → Option Value) where
  C : Addr
  gC : mg "Reader" = some (.ref C)
  cl : Cls K C
  init : DefF K "__init__" "Reader.__init__" s_ReaderD_initD ["self", "lines"]
  made : Mk K C init.f
  na : NoAttrs K C ["own_lines", "at", "own_tracks", "own_buttons", "own_bar", "later"]
  d_Reader_want : DefF K "want" "Reader.want" s_Reader_want ["self", "is_right"]
  m_Reader_want : Meth K C "want" d_Reader_want.f
  d_Reader_row : DefF K "row" "Reader.row" s_Reader_row ["self", "depth"]
  m_Reader_row : Meth K C "row" d_Reader_row.f
  d_Reader_headed : DefF K "headed" "Reader.headed" s_Reader_headed ["self", "depth", "head"]
  m_Reader_headed : Meth K C "headed" d_Reader_headed.f
  d_Reader_is_deed : DefF K "is_deed" "Reader.is_deed" s_Reader_is_deed ["self", "row"]
  m_Reader_is_deed : Meth K C "is_deed" d_Reader_is_deed.f
  d_Reader_loop_in : DefF K "loop_in" "Reader.loop_in" s_Reader_loop_in ["self", "row"]
  m_Reader_loop_in : Meth K C "loop_in" d_Reader_loop_in.f
  d_Reader_read_loop : DefF K "read_loop" "Reader.read_loop" s_Reader_read_loop ["self", "row", "track"]
  m_Reader_read_loop : Meth K C "read_loop" d_Reader_read_loop.f
  d_Reader_read_track : DefF K "read_track" "Reader.read_track" s_Reader_read_track ["self", "row"]
  m_Reader_read_track : Meth K C "read_track" d_Reader_read_track.f
  d_Reader_read_button : DefF K "read_button" "Reader.read_button" s_Reader_read_button ["self", "row"]
  m_Reader_read_button : Meth K C "read_button" d_Reader_read_button.f
  d_Reader_read : DefF K "read" "Reader.read" s_Reader_read ["self"]
  m_Reader_read : Meth K C "read" d_Reader_read.f
/-- the class Board -/
structure TxtBoard (K : PySem.W.Frag) (mg : Str → Option Value) where
  C : Addr
  gC : mg "Board" = some (.ref C)
  cl : Cls K C
  init : DefF K "__init__" "Board.__init__" s_BoardD_initD ["self", "text"]
  made : Mk K C init.f
  na : NoAttrs K C ["own_text", "own_tracks", "own_buttons", "own_bar"]
  d_BoardD_containsD : DefF K "__contains__" "Board.__contains__" s_BoardD_containsD ["self", "value"]
  o_BoardD_containsD : OwnSp K C "__contains__" d_BoardD_containsD.f
/-- the class Player -/
structure TxtPlayer (K : PySem.W.Frag) (mg : Str → Option Value) where
  C : Addr
  gC : mg "Player" = some (.ref C)
  cl : Cls K C
  init : DefF K "__init__" "Player.__init__" s_PlayerD_initD ["self", "board", "begins"]
  made : Mk K C init.f
  na : NoAttrs K C ["own_tracks", "own_buttons", "begins", "own_step", "own_standings"]
  d_Player_move : DefF K "move" "Player.move" s_Player_move ["self"]
  m_Player_move : Meth K C "move" d_Player_move.f
  d_Player_sounding : DefF K "sounding" "Player.sounding" s_Player_sounding ["self"]
  m_Player_sounding : Meth K C "sounding" d_Player_sounding.f
structure TxtC (mg : Str → Option Value) : Prop where
  g_LETTERS : ∃ u, mg "LETTERS" = some u ∧ RelV (.str "abcdefghijklmnopqrstuvwxyz") u
  g_FIGURES : ∃ u, mg "FIGURES" = some u ∧ RelV (.str "0123456789") u
  g_MOST_LETTERS : ∃ u, mg "MOST_LETTERS" = some u ∧ RelV (.int 8) u
  g_MOST_FIGURES : ∃ u, mg "MOST_FIGURES" = some u ∧ RelV (.int 9) u
  g_BLANK : ∃ u, mg "BLANK" = some u ∧ RelV (.str " ") u
  g_FEED : ∃ u, mg "FEED" = some u ∧ RelV (.str "\n") u
  g_TRACK : ∃ u, mg "TRACK" = some u ∧ RelV (.str "track") u
  g_LOOP : ∃ u, mg "LOOP" = some u ∧ RelV (.str "loop") u
  g_BUTTON : ∃ u, mg "BUTTON" = some u ∧ RelV (.str "button") u
  g_EVERY : ∃ u, mg "EVERY" = some u ∧ RelV (.str "every") u
  g_LASTS : ∃ u, mg "LASTS" = some u ∧ RelV (.str "lasts") u
  g_ENDS : ∃ u, mg "ENDS" = some u ∧ RelV (.str "ends") u
  g_GOES : ∃ u, mg "GOES" = some u ∧ RelV (.str "goes") u
  g_PLAYS : ∃ u, mg "PLAYS" = some u ∧ RelV (.str "plays") u
  g_KEEPS : ∃ u, mg "KEEPS" = some u ∧ RelV (.str "keeps") u
  g_STOPS : ∃ u, mg "STOPS" = some u ∧ RelV (.str "stops") u
  g_DEEP : ∃ u, mg "DEEP" = some u ∧ RelV (.int 2) u
  g_MOST_TRACKS : ∃ u, mg "MOST_TRACKS" = some u ∧ RelV (.int 4) u
  g_MOST_LOOPS : ∃ u, mg "MOST_LOOPS" = some u ∧ RelV (.int 3) u
  g_MOST_BUTTONS : ∃ u, mg "MOST_BUTTONS" = some u ∧ RelV (.int 5) u
  g_MOST_LENGTH : ∃ u, mg "MOST_LENGTH" = some u ∧ RelV (.int 6) u
  g_MOST_ROUNDS : ∃ u, mg "MOST_ROUNDS" = some u ∧ RelV (.int 3) u
  g_MOST_SOUNDS : ∃ u, mg "MOST_SOUNDS" = some u ∧ RelV (.int 3) u
  g_MOST_BAR : ∃ u, mg "MOST_BAR" = some u ∧ RelV (.int 12) u
  g_LAST_STEP : ∃ u, mg "LAST_STEP" = some u ∧ RelV (.int 9999) u
  g_MOST_STEPS : ∃ u, mg "MOST_STEPS" = some u ∧ RelV (.int 99) u
  g_PAIR : ∃ u, mg "PAIR" = some u ∧ RelV (.int 2) u
  z_len : mg "len" = none
  z_isinstance : mg "isinstance" = none
  z_int : mg "int" = none
  z_bool : mg "bool" = none
  z_str : mg "str" = none
  z_tuple : mg "tuple" = none
  z_list : mg "list" = none
  z_all : mg "all" = none
  z_any : mg "any" = none
  z_range : mg "range" = none
  z_zip : mg "zip" = none
  z_enumerate : mg "enumerate" = none
  z_sorted : mg "sorted" = none
  z_dict : mg "dict" = none
  z_abs : mg "abs" = none
  z_max : mg "max" = none
  z_min : mg "min" = none
structure Txt (K : PySem.W.Frag) (mg : Str → Option Value) where
  c : TxtC mg
  Loop : TxtLoop K mg
  Track : TxtTrack K mg
  Button : TxtButton K mg
  Reader : TxtReader K mg
  Board : TxtBoard K mg
  Player : TxtPlayer K mg
  d_is_integer : DefF K "is_integer" "is_integer" s_is_integer ["value"]
  d_is_between : DefF K "is_between" "is_between" s_is_between ["value", "low", "high"]
  d_is_tuple : DefF K "is_tuple" "is_tuple" s_is_tuple ["value", "least", "most"]
  d_is_name : DefF K "is_name" "is_name" s_is_name ["value"]
  d_do_ascend : DefF K "do_ascend" "do_ascend" s_do_ascend ["values"]
  d_number_in : DefF K "number_in" "number_in" s_number_in ["word"]
  d_common_multiple : DefF K "common_multiple" "common_multiple" s_common_multiple ["one", "other"]
  d_words_in : DefF K "words_in" "words_in" s_words_in ["line", "depth"]
  d_followed : DefF K "followed" "followed" s_followed ["track", "standing"]
  d_begun_by : DefF K "begun_by" "begun_by" s_begun_by ["button", "track", "come"]
  d_all_followed : DefF K "all_followed" "all_followed" s_all_followed ["tracks", "standings"]
  d_all_begun : DefF K "all_begun" "all_begun" s_all_begun ["button", "tracks", "come"]
  d_sounds_of : DefF K "sounds_of" "sounds_of" s_sounds_of ["track", "standing"]
  d_strikes_of : DefF K "strikes_of" "strikes_of" s_strikes_of ["tracks", "standings"]
  d_are_presses : DefF K "are_presses" "are_presses" s_are_presses ["board", "value"]
  d_check_presses : DefF K "check_presses" "check_presses" s_check_presses ["board", "value"]
  d_check_step : DefF K "check_step" "check_step" s_check_step ["value", "low", "high"]
  d_begin_of : DefF K "begin_of" "begin_of" s_begin_of ["board", "press"]
  d_all_begins : DefF K "all_begins" "all_begins" s_all_begins ["board", "presses"]
  d_begun : DefF K "begun" "begun" s_begun ["board", "presses"]
  d_played_to : DefF K "played_to" "played_to" s_played_to ["board", "presses", "step"]
  d_stands : DefF K "stands" "stands" s_stands ["board", "presses", "step"]
  d_waits : DefF K "waits" "waits" s_waits ["board", "presses", "step"]
  d_heard : DefF K "heard" "heard" s_heard ["board", "presses", "first", "steps"]
  d__law_pot : DefF K "_law_pot" "_law_pot" s__law_pot ["_law_script", "_law_place"]
  d__law_take : DefF K "_law_take" "_law_take" s__law_take ["_law_pot_here", "_law_upto"]
  d__law_cells : DefF K "_law_cells" "_law_cells" s__law_cells ["_law_script", "_law_limit"]
  d__law_board : DefF K "_law_board" "_law_board" s__law_board ["_law_quantum"]
  d__law_right : DefF K "_law_right" "_law_right" s__law_right ["_law_pot_here"]
  d_law : DefF K "law" "law" s_law ["_law_script"]
  g : mg "is_integer" = some (.ref d_is_integer.f) ∧ mg "is_between" = some (.ref d_is_between.f) ∧ mg "is_tuple" = some (.ref d_is_tuple.f) ∧ mg "is_name" = some (.ref d_is_name.f) ∧ mg "do_ascend" = some (.ref d_do_ascend.f) ∧ mg "number_in" = some (.ref d_number_in.f) ∧ mg "common_multiple" = some (.ref d_common_multiple.f) ∧ mg "words_in" = some (.ref d_words_in.f) ∧ mg "followed" = some (.ref d_followed.f) ∧ mg "begun_by" = some (.ref d_begun_by.f) ∧ mg "all_followed" = some (.ref d_all_followed.f) ∧ mg "all_begun" = some (.ref d_all_begun.f) ∧ mg "sounds_of" = some (.ref d_sounds_of.f) ∧ mg "strikes_of" = some (.ref d_strikes_of.f) ∧ mg "are_presses" = some (.ref d_are_presses.f) ∧ mg "check_presses" = some (.ref d_check_presses.f) ∧ mg "check_step" = some (.ref d_check_step.f) ∧ mg "begin_of" = some (.ref d_begin_of.f) ∧ mg "all_begins" = some (.ref d_all_begins.f) ∧ mg "begun" = some (.ref d_begun.f) ∧ mg "played_to" = some (.ref d_played_to.f) ∧ mg "stands" = some (.ref d_stands.f) ∧ mg "waits" = some (.ref d_waits.f) ∧ mg "heard" = some (.ref d_heard.f) ∧ mg "_law_pot" = some (.ref d__law_pot.f) ∧ mg "_law_take" = some (.ref d__law_take.f) ∧ mg "_law_cells" = some (.ref d__law_cells.f) ∧ mg "_law_board" = some (.ref d__law_board.f) ∧ mg "_law_right" = some (.ref d__law_right.f) ∧ mg "law" = some (.ref d_law.f)
theorem Txt.g_is_integer {K : PySem.W.Frag} {mg : Str → Option Value} (T : Txt K mg) : mg "is_integer" = some (.ref T.d_is_integer.f) := T.g.1
theorem Txt.g_is_between {K : PySem.W.Frag} {mg : Str → Option Value} (T : Txt K mg) : mg "is_between" = some (.ref T.d_is_between.f) := T.g.2.1
theorem Txt.g_is_tuple {K : PySem.W.Frag} {mg : Str → Option Value} (T : Txt K mg) : mg "is_tuple" = some (.ref T.d_is_tuple.f) := T.g.2.2.1
theorem Txt.g_is_name {K : PySem.W.Frag} {mg : Str → Option Value} (T : Txt K mg) : mg "is_name" = some (.ref T.d_is_name.f) := T.g.2.2.2.1
theorem Txt.g_do_ascend {K : PySem.W.Frag} {mg : Str → Option Value} (T : Txt K mg) : mg "do_ascend" = some (.ref T.d_do_ascend.f) := T.g.2.2.2.2.1
theorem Txt.g_number_in {K : PySem.W.Frag} {mg : Str → Option Value} (T : Txt K mg) : mg "number_in" = some (.ref T.d_number_in.f) := T.g.2.2.2.2.2.1
theorem Txt.g_common_multiple {K : PySem.W.Frag} {mg : Str → Option Value} (T : Txt K mg) : mg "common_multiple" = some (.ref T.d_common_multiple.f) := T.g.2.2.2.2.2.2.1
theorem Txt.g_words_in {K : PySem.W.Frag} {mg : Str → Option Value} (T : Txt K mg) : mg "words_in" = some (.ref T.d_words_in.f) := T.g.2.2.2.2.2.2.2.1
theorem Txt.g_followed {K : PySem.W.Frag} {mg : Str → Option Value} (T : Txt K mg) : mg "followed" = some (.ref T.d_followed.f) := T.g.2.2.2.2.2.2.2.2.1
theorem Txt.g_begun_by {K : PySem.W.Frag} {mg : Str → Option Value} (T : Txt K mg) : mg "begun_by" = some (.ref T.d_begun_by.f) := T.g.2.2.2.2.2.2.2.2.2.1
theorem Txt.g_all_followed {K : PySem.W.Frag} {mg : Str → Option Value} (T : Txt K mg) : mg "all_followed" = some (.ref T.d_all_followed.f) := T.g.2.2.2.2.2.2.2.2.2.2.1
theorem Txt.g_all_begun {K : PySem.W.Frag} {mg : Str → Option Value} (T : Txt K mg) : mg "all_begun" = some (.ref T.d_all_begun.f) := T.g.2.2.2.2.2.2.2.2.2.2.2.1
theorem Txt.g_sounds_of {K : PySem.W.Frag} {mg : Str → Option Value} (T : Txt K mg) : mg "sounds_of" = some (.ref T.d_sounds_of.f) := T.g.2.2.2.2.2.2.2.2.2.2.2.2.1
theorem Txt.g_strikes_of {K : PySem.W.Frag} {mg : Str → Option Value} (T : Txt K mg) : mg "strikes_of" = some (.ref T.d_strikes_of.f) := T.g.2.2.2.2.2.2.2.2.2.2.2.2.2.1
theorem Txt.g_are_presses {K : PySem.W.Frag} {mg : Str → Option Value} (T : Txt K mg) : mg "are_presses" = some (.ref T.d_are_presses.f) := T.g.2.2.2.2.2.2.2.2.2.2.2.2.2.2.1
theorem Txt.g_check_presses {K : PySem.W.Frag} {mg : Str → Option Value} (T : Txt K mg) : mg "check_presses" = some (.ref T.d_check_presses.f) := T.g.2.2.2.2.2.2.2.2.2.2.2.2.2.2.2.1
theorem Txt.g_check_step {K : PySem.W.Frag} {mg : Str → Option Value} (T : Txt K mg) : mg "check_step" = some (.ref T.d_check_step.f) := T.g.2.2.2.2.2.2.2.2.2.2.2.2.2.2.2.2.1
theorem Txt.g_begin_of {K : PySem.W.Frag} {mg : Str → Option Value} (T : Txt K mg) : mg "begin_of" = some (.ref T.d_begin_of.f) := T.g.2.2.2.2.2.2.2.2.2.2.2.2.2.2.2.2.2.1
theorem Txt.g_all_begins {K : PySem.W.Frag} {mg : Str → Option Value} (T : Txt K mg) : mg "all_begins" = some (.ref T.d_all_begins.f) := T.g.2.2.2.2.2.2.2.2.2.2.2.2.2.2.2.2.2.2.1
theorem Txt.g_begun {K : PySem.W.Frag} {mg : Str → Option Value} (T : Txt K mg) : mg "begun" = some (.ref T.d_begun.f) := T.g.2.2.2.2.2.2.2.2.2.2.2.2.2.2.2.2.2.2.2.1
theorem Txt.g_played_to {K : PySem.W.Frag} {mg : Str → Option Value} (T : Txt K mg) : mg "played_to" = some (.ref T.d_played_to.f) := T.g.2.2.2.2.2.2.2.2.2.2.2.2.2.2.2.2.2.2.2.2.1
theorem Txt.g_stands {K : PySem.W.Frag} {mg : Str → Option Value} (T : Txt K mg) : mg "stands" = some (.ref T.d_stands.f) := T.g.2.2.2.2.2.2.2.2.2.2.2.2.2.2.2.2.2.2.2.2.2.1
theorem Txt.g_waits {K : PySem.W.Frag} {mg : Str → Option Value} (T : Txt K mg) : mg "waits" = some (.ref T.d_waits.f) := T.g.2.2.2.2.2.2.2.2.2.2.2.2.2.2.2.2.2.2.2.2.2.2.1
theorem Txt.g_heard {K : PySem.W.Frag} {mg : Str → Option Value} (T : Txt K mg) : mg "heard" = some (.ref T.d_heard.f) := T.g.2.2.2.2.2.2.2.2.2.2.2.2.2.2.2.2.2.2.2.2.2.2.2.1
theorem Txt.g__law_pot {K : PySem.W.Frag} {mg : Str → Option Value} (T : Txt K mg) : mg "_law_pot" = some (.ref T.d__law_pot.f) := T.g.2.2.2.2.2.2.2.2.2.2.2.2.2.2.2.2.2.2.2.2.2.2.2.2.1
theorem Txt.g__law_take {K : PySem.W.Frag} {mg : Str → Option Value} (T : Txt K mg) : mg "_law_take" = some (.ref T.d__law_take.f) := T.g.2.2.2.2.2.2.2.2.2.2.2.2.2.2.2.2.2.2.2.2.2.2.2.2.2.1
theorem Txt.g__law_cells {K : PySem.W.Frag} {mg : Str → Option Value} (T : Txt K mg) : mg "_law_cells" = some (.ref T.d__law_cells.f) := T.g.2.2.2.2.2.2.2.2.2.2.2.2.2.2.2.2.2.2.2.2.2.2.2.2.2.2.1
theorem Txt.g__law_board {K : PySem.W.Frag} {mg : Str → Option Value} (T : Txt K mg) : mg "_law_board" = some (.ref T.d__law_board.f) := T.g.2.2.2.2.2.2.2.2.2.2.2.2.2.2.2.2.2.2.2.2.2.2.2.2.2.2.2.1
theorem Txt.g__law_right {K : PySem.W.Frag} {mg : Str → Option Value} (T : Txt K mg) : mg "_law_right" = some (.ref T.d__law_right.f) := T.g.2.2.2.2.2.2.2.2.2.2.2.2.2.2.2.2.2.2.2.2.2.2.2.2.2.2.2.2.1
theorem Txt.g_law {K : PySem.W.Frag} {mg : Str → Option Value} (T : Txt K mg) : mg "law" = some (.ref T.d_law.f) := T.g.2.2.2.2.2.2.2.2.2.2.2.2.2.2.2.2.2.2.2.2.2.2.2.2.2.2.2.2.2
abbrev AtLoop {K : PySem.W.Frag} {mg : Str → Option Value} (T : Txt K mg) (H : Hp) (a : Addr) (o : OLoop) : Prop := AtO T.Loop.C OLoop.fs H a o
theorem frLoop_name {K : PySem.W.Frag} {mg : Str → Option Value} (T : Txt K mg) : FldR K T.Loop.C OLoop.fs "name" OLoop.name (fun o v => { o with name := v }) := ⟨T.Loop.cl, T.Loop.na 0 _ rfl, lkLoop_name, puLoop_name, fun _ => by show 5 < 1000; decide⟩
theorem frLoop_length {K : PySem.W.Frag} {mg : Str → Option Value} (T : Txt K mg) : FldR K T.Loop.C OLoop.fs "length" OLoop.length (fun o v => { o with length := v }) := ⟨T.Loop.cl, T.Loop.na 1 _ rfl, lkLoop_length, puLoop_length, fun _ => by show 5 < 1000; decide⟩
theorem frLoop_span {K : PySem.W.Frag} {mg : Str → Option Value} (T : Txt K mg) : FldR K T.Loop.C OLoop.fs "span" OLoop.span (fun o v => { o with span := v }) := ⟨T.Loop.cl, T.Loop.na 2 _ rfl, lkLoop_span, puLoop_span, fun _ => by show 5 < 1000; decide⟩
theorem frLoop_then {K : PySem.W.Frag} {mg : Str → Option Value} (T : Txt K mg) : FldR K T.Loop.C OLoop.fs "then" OLoop.then_ (fun o v => { o with then_ := v }) := ⟨T.Loop.cl, T.Loop.na 3 _ rfl, lkLoop_then, puLoop_then, fun _ => by show 5 < 1000; decide⟩
theorem frLoop_places {K : PySem.W.Frag} {mg : Str → Option Value} (T : Txt K mg) : FldR K T.Loop.C OLoop.fs "places" OLoop.places (fun o v => { o with places := v }) := ⟨T.Loop.cl, T.Loop.na 4 _ rfl, lkLoop_places, puLoop_places, fun _ => by show 5 < 1000; decide⟩
abbrev AtTrack {K : PySem.W.Frag} {mg : Str → Option Value} (T : Txt K mg) (H : Hp) (a : Addr) (o : OTrack) : Prop := AtO T.Track.C OTrack.fs H a o
theorem frTrack_name {K : PySem.W.Frag} {mg : Str → Option Value} (T : Txt K mg) : FldR K T.Track.C OTrack.fs "name" OTrack.name (fun o v => { o with name := v }) := ⟨T.Track.cl, T.Track.na 0 _ rfl, lkTrack_name, puTrack_name, fun _ => by show 2 < 1000; decide⟩
theorem frTrack_own_loops {K : PySem.W.Frag} {mg : Str → Option Value} (T : Txt K mg) : FldR K T.Track.C OTrack.fs "own_loops" OTrack.own_loops (fun o v => { o with own_loops := v }) := ⟨T.Track.cl, T.Track.na 1 _ rfl, lkTrack_own_loops, puTrack_own_loops, fun _ => by show 2 < 1000; decide⟩
abbrev AtButton {K : PySem.W.Frag} {mg : Str → Option Value} (T : Txt K mg) (H : Hp) (a : Addr) (o : OButton) : Prop := AtO T.Button.C OButton.fs H a o
theorem frButton_name {K : PySem.W.Frag} {mg : Str → Option Value} (T : Txt K mg) : FldR K T.Button.C OButton.fs "name" OButton.name (fun o v => { o with name := v }) := ⟨T.Button.cl, T.Button.na 0 _ rfl, lkButton_name, puButton_name, fun _ => by show 3 < 1000; decide⟩
theorem frButton_quantum {K : PySem.W.Frag} {mg : Str → Option Value} (T : Txt K mg) : FldR K T.Button.C OButton.fs "quantum" OButton.quantum (fun o v => { o with quantum := v }) := ⟨T.Button.cl, T.Button.na 1 _ rfl, lkButton_quantum, puButton_quantum, fun _ => by show 3 < 1000; decide⟩
theorem frButton_deeds {K : PySem.W.Frag} {mg : Str → Option Value} (T : Txt K mg) : FldR K T.Button.C OButton.fs "deeds" OButton.deeds (fun o v => { o with deeds := v }) := ⟨T.Button.cl, T.Button.na 2 _ rfl, lkButton_deeds, puButton_deeds, fun _ => by show 3 < 1000; decide⟩
abbrev AtReader {K : PySem.W.Frag} {mg : Str → Option Value} (T : Txt K mg) (H : Hp) (a : Addr) (o : OReader) : Prop := AtO T.Reader.C OReader.fs H a o
theorem frReader_own_lines {K : PySem.W.Frag} {mg : Str → Option Value} (T : Txt K mg) : FldR K T.Reader.C OReader.fs "own_lines" OReader.own_lines (fun o v => { o with own_lines := v }) := ⟨T.Reader.cl, T.Reader.na 0 _ rfl, lkReader_own_lines, puReader_own_lines, fun _ => by show 6 < 1000; decide⟩
theorem frReader_at {K : PySem.W.Frag} {mg : Str → Option Value} (T : Txt K mg) : FldR K T.Reader.C OReader.fs "at" OReader.at_ (fun o v => { o with at_ := v }) := ⟨T.Reader.cl, T.Reader.na 1 _ rfl, lkReader_at, puReader_at, fun _ => by show 6 < 1000; decide⟩
theorem frReader_own_tracks {K : PySem.W.Frag} {mg : Str → Option Value} (T : Txt K mg) : FldR K T.Reader.C OReader.fs "own_tracks" OReader.own_tracks (fun o v => { o with own_tracks := v }) := ⟨T.Reader.cl, T.Reader.na 2 _ rfl, lkReader_own_tracks, puReader_own_tracks, fun _ => by show 6 < 1000; decide⟩
theorem frReader_own_buttons {K : PySem.W.Frag} {mg : Str → Option Value} (T : Txt K mg) : FldR K T.Reader.C OReader.fs "own_buttons" OReader.own_buttons (fun o v => { o with own_buttons := v }) := ⟨T.Reader.cl, T.Reader.na 3 _ rfl, lkReader_own_buttons, puReader_own_buttons, fun _ => by show 6 < 1000; decide⟩
theorem frReader_own_bar {K : PySem.W.Frag} {mg : Str → Option Value} (T : Txt K mg) : FldR K T.Reader.C OReader.fs "own_bar" OReader.own_bar (fun o v => { o with own_bar := v }) := ⟨T.Reader.cl, T.Reader.na 4 _ rfl, lkReader_own_bar, puReader_own_bar, fun _ => by show 6 < 1000; decide⟩
theorem frReader_later {K : PySem.W.Frag} {mg : Str → Option Value} (T : Txt K mg) : FldR K T.Reader.C OReader.fs "later" OReader.later (fun o v => { o with later := v }) := ⟨T.Reader.cl, T.Reader.na 5 _ rfl, lkReader_later, puReader_later, fun _ => by show 6 < 1000; decide⟩
abbrev AtBoard {K : PySem.W.Frag} {mg : Str → Option Value} (T : Txt K mg) (H : Hp) (a : Addr) (o : OBoard) : Prop := AtO T.Board.C OBoard.fs H a o
theorem frBoard_own_text {K : PySem.W.Frag} {mg : Str → Option Value} (T : Txt K mg) : FldR K T.Board.C OBoard.fs "own_text" OBoard.own_text (fun o v => { o with own_text := v }) := ⟨T.Board.cl, T.Board.na 0 _ rfl, lkBoard_own_text, puBoard_own_text, fun _ => by show 4 < 1000; decide⟩
theorem frBoard_own_tracks {K : PySem.W.Frag} {mg : Str → Option Value} (T : Txt K mg) : FldR K T.Board.C OBoard.fs "own_tracks" OBoard.own_tracks (fun o v => { o with own_tracks := v }) := ⟨T.Board.cl, T.Board.na 1 _ rfl, lkBoard_own_tracks, puBoard_own_tracks, fun _ => by show 4 < 1000; decide⟩
theorem frBoard_own_buttons {K : PySem.W.Frag} {mg : Str → Option Value} (T : Txt K mg) : FldR K T.Board.C OBoard.fs "own_buttons" OBoard.own_buttons (fun o v => { o with own_buttons := v }) := ⟨T.Board.cl, T.Board.na 2 _ rfl, lkBoard_own_buttons, puBoard_own_buttons, fun _ => by show 4 < 1000; decide⟩
theorem frBoard_own_bar {K : PySem.W.Frag} {mg : Str → Option Value} (T : Txt K mg) : FldR K T.Board.C OBoard.fs "own_bar" OBoard.own_bar (fun o v => { o with own_bar := v }) := ⟨T.Board.cl, T.Board.na 3 _ rfl, lkBoard_own_bar, puBoard_own_bar, fun _ => by show 4 < 1000; decide⟩
abbrev AtPlayer {K : PySem.W.Frag} {mg : Str → Option Value} (T : Txt K mg) (H : Hp) (a : Addr) (o : OPlayer) : Prop := AtO T.Player.C OPlayer.fs H a o
theorem frPlayer_own_tracks {K : PySem.W.Frag} {mg : Str → Option Value} (T : Txt K mg) : FldR K T.Player.C OPlayer.fs "own_tracks" OPlayer.own_tracks (fun o v => { o with own_tracks := v }) := ⟨T.Player.cl, T.Player.na 0 _ rfl, lkPlayer_own_tracks, puPlayer_own_tracks, fun _ => by show 5 < 1000; decide⟩
theorem frPlayer_own_buttons {K : PySem.W.Frag} {mg : Str → Option Value} (T : Txt K mg) : FldR K T.Player.C OPlayer.fs "own_buttons" OPlayer.own_buttons (fun o v => { o with own_buttons := v }) := ⟨T.Player.cl, T.Player.na 1 _ rfl, lkPlayer_own_buttons, puPlayer_own_buttons, fun _ => by show 5 < 1000; decide⟩
theorem frPlayer_begins {K : PySem.W.Frag} {mg : Str → Option Value} (T : Txt K mg) : FldR K T.Player.C OPlayer.fs "begins" OPlayer.begins (fun o v => { o with begins := v }) := ⟨T.Player.cl, T.Player.na 2 _ rfl, lkPlayer_begins, puPlayer_begins, fun _ => by show 5 < 1000; decide⟩
theorem frPlayer_own_step {K : PySem.W.Frag} {mg : Str → Option Value} (T : Txt K mg) : FldR K T.Player.C OPlayer.fs "own_step" OPlayer.own_step (fun o v => { o with own_step := v }) := ⟨T.Player.cl, T.Player.na 3 _ rfl, lkPlayer_own_step, puPlayer_own_step, fun _ => by show 5 < 1000; decide⟩
theorem frPlayer_own_standings {K : PySem.W.Frag} {mg : Str → Option Value} (T : Txt K mg) : FldR K T.Player.C OPlayer.fs "own_standings" OPlayer.own_standings (fun o v => { o with own_standings := v }) := ⟨T.Player.cl, T.Player.na 4 _ rfl, lkPlayer_own_standings, puPlayer_own_standings, fun _ => by show 5 < 1000; decide⟩
end Ev
end

section
namespace Ev
open PySem PySem.Spec PyProof.Rows L2
/-! ## words.py -/
/-! ### the mirror -/
def isInt : PyData → Bool
  | .int _ => true
  | _ => false
def isBetw (d : PyData) (lo hi : Int) : Bool := match d with
  | .int i => decide (lo ≤ i) && decide (i ≤ hi)
  | _ => false
def isTupN (d : PyData) (lo hi : Int) : Bool := match d with
  | .tuple ds => decide (lo ≤ (ds.length : Int)) && decide ((ds.length : Int) ≤ hi)
  | _ => false
def nameD : PyData → Bool
  | .str s => nameOk s
  | _ => false
theorem figures_eq : figuresL = [48, 49, 50, 51, 52, 53, 54, 55, 56, 57] := by decide +kernel
theorem figW_digits {s : Str} (h : figW s = true) : PySem.NumText.AllDigits s.cps.toList ∧ s.cps.toList ≠ [] ∧ s.length ≤ 9 := by
  unfold figW at h
  rw [Bool.and_eq_true, Bool.and_eq_true, decide_eq_true_iff, decide_eq_true_iff, List.all_eq_true] at h
  obtain ⟨⟨h1, h2⟩, h3⟩ := h
  refine ⟨fun c hc => ?_, fun e => ?_, h2⟩
  · have := h3 c hc
    rw [decide_eq_true_iff, figures_eq] at this
    simp at this
    omega
  · have h0 : s.cps.toList.length = 0 := by rw [e]; rfl
    have h4 : s.cps.toList.length = s.length := by simp [Str.length]
    omega
/-! ### the promises -/
def spAscend (K : PySem.W.Frag) : Sp := fun vs H Q _ => ∃ (f : Bool) (a : Addr) (xs : List V), vs = [.ref a] ∧ SqX K f H a xs ∧ xs.length ≤ 100000 ∧
  ((∃ ns : List Int, xs = ns.map V.int ∧ ∀ H', Same H H' → Q (.bl (ascB ltI ns)) H') ∨ ∃ ss : List Str, xs = ss.map V.str ∧ ∀ H', Same H H' → Q (.bl (ascB ltS ss)) H')
def spNumberIn (K : PySem.W.Frag) : Sp := fun vs H Q _ => ∃ s : Str, vs = [.str s] ∧ shortS s ∧ ∀ H', Same H H' → Q (.int (numIn s)) H'
def spLcm : Sp := fun vs H Q _ => ∃ a b : Nat, vs = [.int (a : Int), .int (b : Int)] ∧ 0 < a ∧ 0 < b ∧ a ≤ 100000 ∧ b ≤ 100000 ∧ Q (.int (Nat.lcm a b : Nat)) H
theorem cut1 (xs : List V) : cutV xs (some 1) none = xs.drop 1 := by
  unfold cutV
  have e : HT.sIx xs.length 0 (some 1) = min 1 xs.length := HT.sIx_nat xs.length 0 1
  rw [e, HT.sIx_none]
  cases xs with
  | nil => rfl
  | cons a r => simp
theorem ascB_range {α : Type} (lt : α → α → Bool) (d : α) (l : List α) : ascB lt l = (((List.range (min l.length (l.drop 1).length)).map fun i => lt (l.getD i d) (l.getD (i + 1) d)).all id) := by
  have h : (l.zip (l.drop 1)).map (fun p => lt p.1 p.2) = (List.range (min l.length (l.drop 1).length)).map fun i => lt (l.getD i d) (l.getD (i + 1) d) := by
    refine List.ext_getElem (by simp) fun i h1 h2 => ?_
    have hi : i + 1 < l.length := by simp at h2; omega
    simp [List.getD_eq_getElem?_getD, hi, show i < l.length by omega, Nat.add_comm 1 i]
  unfold ascB
  rw [← h, List.all_map]
  rfl
def spIsInteger (K : PySem.W.Frag) : Sp := fun vs H Q _ => ∃ x d, vs = [x] ∧ Dp K H x d ∧ Q (.bl (isInt d)) H
def spIsBetween (K : PySem.W.Frag) : Sp := fun vs H Q _ => ∃ x d lo hi, vs = [x, .int lo, .int hi] ∧ Dp K H x d ∧ Q (.bl (isBetw d lo hi)) H
def spIsTuple (K : PySem.W.Frag) : Sp := fun vs H Q _ => ∃ x d lo hi, vs = [x, .int lo, .int hi] ∧ Dp K H x d ∧ Q (.bl (isTupN d lo hi)) H
def spIsName (K : PySem.W.Frag) : Sp := fun vs H Q _ => ∃ x d, vs = [x] ∧ Dp K H x d ∧ (∀ s, d = .str s → shortS s) ∧ ∀ H', Same H H' → Q (.bl (nameD d)) H'
theorem short_le {s : Str} (h : shortS s) : s.length ≤ sizeLine := le_line h
section
variable {P : Program} {w : World} {K : PySem.W.Frag} {mg : Str → Option Value} {base : Heap}
theorem ok_is_integer (T : Txt K mg) : FnOk P w K mg base CX0 1 T.d_is_integer.f T.d_is_integer.fd ["value"] (spIsInteger K) := by
  refine T.d_is_integer.F.ok sc_is_integer (fun vs H Q E h => ?_) (fun cdv A outer s H vs Q E hr h => ?_)
  · obtain ⟨x, d, rfl, _⟩ := h
    rfl
  · obtain ⟨x, d, rfl, hd, k⟩ := h
    refine ⟨_, (pss_one (ps_ret (pe_and (pe_callB call_isi (by rfl) T.c.z_isinstance (by decide +kernel) (pa_cons (pv 0) (pa_cons (pe_bltn (v := .ty "int") rfl T.c.z_int (by decide +kernel) rfl) pa_nil))) (pe_one (pe_not (pe_callB call_isi (by rfl) T.c.z_isinstance (by decide +kernel) (pa_cons (pv 0) (pa_cons (pe_bltn (v := .ty "bool") rfl T.c.z_bool (by decide +kernel) rfl) pa_nil)))))))), ?_⟩
    refine ⟨_, rfl, _, _, _, _, _, rfl, .ty _, tyx_dp hd, kit_d d, _, rfl, ?_⟩
    have k' : ∀ b, isInt d = b → Q (.bl b) H := fun b e => e ▸ k
    cases d <;> first
      | exact iteF (k' _ rfl)
      | exact iteT ⟨_, rfl, _, _, _, _, _, rfl, .ty _, tyx_dp hd, kit_b _, _, rfl, k' _ rfl⟩
theorem ok_is_between (T : Txt K mg) : FnOk P w K mg base CX0 2 T.d_is_between.f T.d_is_between.fd ["value", "low", "high"] (spIsBetween K) := by
  refine T.d_is_between.F.ok sc_is_between (fun vs H Q E h => ?_) (fun cdv A outer s H vs Q E hr h => ?_)
  · obtain ⟨x, d, lo, hi, rfl, _⟩ := h
    rfl
  · obtain ⟨x, d, lo, hi, rfl, hd, k⟩ := h
    refine ⟨_, (pss_one (ps_ret (pe_and (pe_call (ok_is_integer T) (hr.mono (by decide)) rfl T.g_is_integer T.d_is_integer.F.kp T.d_is_integer.b .nil pass0 (pa_cons (pv 0) pa_nil)) (pe_one (pe_chain op_le op_le (pv 1) (pv 0) (pv 2)))))), ?_⟩
    refine ⟨_, rfl, x, d, rfl, hd, _, rfl, ?_⟩
    have k' : ∀ b, isBetw d lo hi = b → Q (.bl b) H := fun b e => e ▸ k
    cases hd with
    | int i =>
      refine iteT ⟨_, rfl, _, rfl, _, _, rfl, rfl, _, rfl, ?_⟩
      by_cases h1 : lo ≤ i
      · refine ifT (dT h1) ?_
        exact ⟨_, rfl, _, _, rfl, rfl, k' _ (by show (decide (lo ≤ i) && decide (i ≤ hi)) = _; rw [decide_eq_true h1]; rfl)⟩
      · refine ifF (dF h1) ?_
        exact k' _ (by show (decide (lo ≤ i) && decide (i ≤ hi)) = _; rw [decide_eq_false h1]; rfl)
    | non => exact iteF (k' _ rfl)
    | bl _ => exact iteF (k' _ rfl)
    | str _ => exact iteF (k' _ rfl)
    | lst _ _ => exact iteF (k' _ rfl)
    | tup _ _ => exact iteF (k' _ rfl)
theorem ok_is_tuple (T : Txt K mg) : FnOk P w K mg base CX0 1 T.d_is_tuple.f T.d_is_tuple.fd ["value", "least", "most"] (spIsTuple K) := by
  refine T.d_is_tuple.F.ok sc_is_tuple (fun vs H Q E h => ?_) (fun cdv A outer s H vs Q E hr h => ?_)
  · obtain ⟨x, d, lo, hi, rfl, _⟩ := h
    rfl
  · obtain ⟨x, d, lo, hi, rfl, hd, k⟩ := h
    refine ⟨_, (pss_one (ps_ret (pe_and (pe_callB call_isi (by rfl) T.c.z_isinstance (by decide +kernel) (pa_cons (pv 0) (pa_cons (pe_bltn (v := .ty "tuple") rfl T.c.z_tuple (by decide +kernel) rfl) pa_nil))) (pe_one (pe_chain op_le op_le (pv 1) (pe_callB call_len (by rfl) T.c.z_len (by decide +kernel) (pa_cons (pv 0) pa_nil)) (pv 2)))))), ?_⟩
    refine ⟨_, rfl, _, _, _, _, _, rfl, .ty _, tyx_dp hd, kit_t d, _, rfl, ?_⟩
    have k' : ∀ b, isTupN d lo hi = b → Q (.bl b) H := fun b e => e ▸ k
    cases hd with
    | @tup a xs ds h t =>
      have el : (xs.length : Int) = (ds.length : Int) := by rw [t.len]
      refine iteT ⟨_, rfl, _, rfl, _, _, rfl, .inr ⟨xs, h, rfl⟩, _, _, rfl, rfl, _, rfl, ?_⟩
      by_cases h1 : lo ≤ (xs.length : Int)
      · refine ifT (dT h1) ?_
        refine ⟨_, rfl, _, _, rfl, rfl, k' _ ?_⟩
        show (decide (lo ≤ (ds.length : Int)) && decide ((ds.length : Int) ≤ hi)) = _
        rw [← el, decide_eq_true h1]
        rfl
      · refine ifF (dF h1) ?_
        refine k' _ ?_
        show (decide (lo ≤ (ds.length : Int)) && decide ((ds.length : Int) ≤ hi)) = _
        rw [← el, decide_eq_false h1]
        rfl
    | non => exact iteF (k' _ rfl)
    | bl _ => exact iteF (k' _ rfl)
    | int _ => exact iteF (k' _ rfl)
    | str _ => exact iteF (k' _ rfl)
    | lst _ _ => exact iteF (k' _ rfl)
theorem ok_is_name (T : Txt K mg) : FnOk P w K mg base CX0 1 T.d_is_name.f T.d_is_name.fd ["value"] (spIsName K) := by
  refine T.d_is_name.F.ok sc_is_name (fun vs H Q E h => ?_) (fun cdv A outer s H vs Q E hr h => ?_)
  · obtain ⟨x, d, rfl, _⟩ := h
    rfl
  · obtain ⟨x, d, rfl, hd, hsh, k⟩ := h
    refine ⟨_, (pss_cons (ps_if (PW.pt (pw_or (pt_not (pt_val (pe_callB call_isi (by rfl) T.c.z_isinstance (by decide +kernel) (pa_cons (pv 0) (pa_cons (pe_bltn (v := .ty "str") rfl T.c.z_str (by decide +kernel) rfl) pa_nil))))) (pw_or1 (pt_not (pt_chain op_le op_le pe_int (pe_callB call_len (by rfl) T.c.z_len (by decide +kernel) (pa_cons (pv 0) pa_nil)) (pe_gc rfl T.c.g_MOST_LETTERS)))))) (pss_one (ps_ret pe_bl)) pss_nil) (pss_one (ps_ret (pe_callB (cr_all rfl) (by rfl) T.c.z_all (by decide +kernel) (pa_cons (pe_lc (own := [("letter", 1)]) (g := (gName 1)) rfl sc_is_name.nd (pi_str (pv 0)) (blkOk_by (own := [("letter", 1)]) (N := ["value", "letter"]) (sc := defScope s_is_name) (by decide +kernel)) (fun _ _ _ _ _ => (pg_name (i := 1) sc_is_name.nd rfl (Or.inl rfl))) (fun _ _ _ _ _ => pts_nil) (fun _ _ _ _ _ => (pe_cmpR op_in_sign (pv 1) (pe_gc rfl T.c.g_LETTERS) rfl))) pa_nil))))), ?_⟩
    refine ⟨_, rfl, _, _, _, _, _, rfl, .ty _, tyx_dp hd, kit_s d, _, rfl, ?_⟩
    have k' : ∀ b H', nameD d = b → Same H H' → Q (.bl b) H' := fun b H' e s => e ▸ k H' s
    cases hd with
    | str z =>
      have hz := hsh z rfl
      have lz : z.cps.toList.length = z.length := by simp [Str.length]
      refine iteF ⟨_, rfl, _, _, rfl, ⟨short_le hz, rfl⟩, _, _, rfl, rfl, _, rfl, ?_⟩
      by_cases h1 : (1 : Int) ≤ (z.length : Int)
      · refine ifT (dT h1) ?_
        refine ⟨_, _, rfl, rfl, _, rfl, ?_⟩
        by_cases h2 : (z.length : Int) ≤ 8
        · refine ifF (nT h2) ?_
          refine ⟨_, rfl, z, rfl, fun D hD => ?_⟩
          refine lc_same walk_str (fun i y _ => y = .bl (decide ((z.cps.toList.getD i 0) ∈ lettersL))) (stays_val _) (by rw [show z.cps.size = z.length from rfl]; exact lt_line hz) hD (fun _ _ => trivial) ?_ ?_
          · rintro i x H1 H2 Z F hi s ⟨rfl, c, hc, rfl⟩ hZ
            refine ⟨rfl, ?_⟩
            refine ⟨_, rfl, _, _, rfl, rfl, hZ _ _ (Same.refl _) ?_⟩
            have : z.cps.toList.getD i 0 = c := by rw [List.getD_eq_getElem?_getD, Array.getElem?_toList, hc]; rfl
            rw [this]
          · intro H1 ys s e l r
            have eb := bools_of (f := fun i => decide ((z.cps.toList.getD i 0) ∈ lettersL)) l r
            refine ⟨D, _, rfl, .inl (.inl (by rw [e, eb])), k' _ _ ?_ s⟩
            show (decide (1 ≤ z.length) && decide (z.length ≤ 8) && z.cps.toList.all fun c => decide (c ∈ lettersL)) = _
            rw [decide_eq_true (p := 1 ≤ z.length) (by omega), decide_eq_true (p := z.length ≤ 8) (by omega), Bool.true_and, Bool.true_and, all_range]
            rfl
        · refine ifT (nF h2) ?_
          refine k' _ _ ?_ (Same.refl _)
          show (decide (1 ≤ z.length) && decide (z.length ≤ 8) && _) = _
          rw [decide_eq_false (p := z.length ≤ 8) (by omega), Bool.and_false, Bool.false_and]
      · refine ifF (dF h1) ⟨_, rfl, ?_⟩
        refine ifT rfl (k' _ _ ?_ (Same.refl _))
        show (decide (1 ≤ z.length) && decide (z.length ≤ 8) && _) = _
        rw [decide_eq_false (p := 1 ≤ z.length) (by omega), Bool.false_and, Bool.false_and]
    | non => exact iteT (k' _ _ rfl (Same.refl _))
    | bl _ => exact iteT (k' _ _ rfl (Same.refl _))
    | int _ => exact iteT (k' _ _ rfl (Same.refl _))
    | lst _ _ => exact iteT (k' _ _ rfl (Same.refl _))
    | tup _ _ => exact iteT (k' _ _ rfl (Same.refl _))
theorem ok_do_ascend (T : Txt K mg) : FnOk P w K mg base CX0 1 T.d_do_ascend.f T.d_do_ascend.fd ["values"] (spAscend K) := by
  refine T.d_do_ascend.F.ok sc_do_ascend (fun vs H Q E h => ?_) (fun cdv A outer s H vs Q E hr h => ?_)
  · obtain ⟨f, a, xs, rfl, _⟩ := h
    rfl
  · obtain ⟨f, a, xs, rfl, hx, hl, k⟩ := h
    refine ⟨_, (pss_one (ps_ret (pe_callB (cr_all rfl) (by rfl) T.c.z_all (by decide +kernel) (pa_cons (pe_lc (own := [("one", 1), ("other", 2)]) (g := (gTup K 2 (gCons (gName 1) (gCons (gName 2) gNil)))) rfl sc_do_ascend.nd (pi_zipX rfl T.c.z_zip (pa_cons (pv 0) (pa_cons (pe_slice (SlR.or sl_list sl_tupA) (pv 0) (po_some pe_int) po_none) pa_nil))) (blkOk_by (own := [("one", 1), ("other", 2)]) (N := ["values", "one", "other"]) (sc := defScope s_do_ascend) (by decide +kernel)) (fun _ _ _ _ _ => (pg_tup rfl (pgs_cons (pg_name (i := 1) sc_do_ascend.nd rfl (Or.inl rfl)) (pgs_cons (pg_name (i := 2) sc_do_ascend.nd rfl (Or.inl rfl)) pgs_nil)))) (fun _ _ _ _ _ => pts_nil) (fun _ _ _ _ _ => (pe_cmpR (OpR.or op_lt op_lt_str) (pv 1) (pv 2) (nomark _)))) pa_nil)))), ?_⟩
    refine ⟨_, rfl, _, rfl, ?_⟩
    -- what follows the slice, a sequence of the same items but the first at b
    have go : ∀ (g : Bool) (b : Addr) (H1 : Hp) (Qe : VK), Same H H1 → SqX K g H1 b (xs.drop 1) → (∀ D H2 ys, Same H H2 → H2 D = some (.lst ys) → ys.length = min xs.length (xs.drop 1).length →
        (∀ (i : Nat) (y : V), ys[i]? = some y → ∃ x1 x2, xs[i]? = some x1 ∧ xs[i + 1]? = some x2 ∧ ((∃ m n : Int, x1 = .int m ∧ x2 = .int n ∧ y = .bl (ltI m n)) ∨ ∃ m n : Str, x1 = .str m ∧ x2 = .str n ∧ y = .bl (ltS m n))) → Qe (.ref D) H2) →
        tLc (iZipX K (tCons (tC (.ref a)) (tCons (tC (.ref b)) tNil))) (gTup K 2 (gCons (gName 1) (gCons (gName 2) gNil))) tYes (tOp (fun x y H Q => (rI0 fun i j => .bl (decide (i < j))) x y H Q ∨ (∃ i j, x = .str i ∧ y = .str j ∧ Q (.bl (decide (i.cps.toList < j.cps.toList))) H)) (tVar 1) (tVar 2)) [1, 2] (L2.start ["values", "one", "other"] [.ref a]) H1 Qe := by
      intro g b H1 Qe s1 hb hQ
      refine ⟨a, b, xs, xs.drop 1, f, g, rfl, s1.sqx hx, hb, fun D hD => ?_⟩
      refine lc_same (walk_zipX rfl) (fun i y _ => ∃ x1 x2, xs[i]? = some x1 ∧ xs[i + 1]? = some x2 ∧ ((∃ m n : Int, x1 = .int m ∧ x2 = .int n ∧ y = .bl (ltI m n)) ∨ ∃ m n : Str, x1 = .str m ∧ x2 = .str n ∧ y = .bl (ltS m n))) (stays_val _) (Nat.lt_of_le_of_lt (Nat.min_le_left _ _) (lt_line hl)) hD (fun H' s' => ⟨s'.sqx (s1.sqx hx), s'.sqx hb⟩) ?_ fun H' ys s' e l r => hQ D H' ys (s1.trans s') e l r
      rintro i v H2 H3 Z F hi s2 ⟨Tt, x, y, rfl, hT, rfl, e1, e2⟩ hZ
      have e1 : xs[i]? = some x := e1
      have e2 : (xs.drop 1)[i]? = some y := e2
      have e2' : xs[i + 1]? = some y := by rw [List.getElem?_drop, Nat.add_comm] at e2; exact e2
      refine ⟨Tt, [x, y], rfl, .inl (.inl upd_same), rfl, _, _, rfl, _, _, rfl, rfl, ?_⟩
      refine ⟨rfl, ?_⟩
      rcases k with ⟨ns, rfl, _⟩ | ⟨ss, rfl, _⟩
      · obtain ⟨m, rfl⟩ : ∃ m, x = .int m := by
          rw [List.getElem?_map] at e1
          cases q : ns[i]? with
          | none => rw [q] at e1; cases e1
          | some m => rw [q] at e1; cases e1; exact ⟨m, rfl⟩
        obtain ⟨n, rfl⟩ : ∃ n, y = .int n := by
          rw [List.getElem?_map] at e2'
          cases q : ns[i + 1]? with
          | none => rw [q] at e2'; cases e2'
          | some m => rw [q] at e2'; cases e2'; exact ⟨m, rfl⟩
        exact ⟨_, rfl, _, rfl, .inl ⟨m, n, rfl, rfl, hZ _ _ (same_upd hT) ⟨_, _, e1, e2', .inl ⟨m, n, rfl, rfl, rfl⟩⟩⟩⟩
      · obtain ⟨m, rfl⟩ : ∃ m, x = .str m := by
          rw [List.getElem?_map] at e1
          cases q : ss[i]? with
          | none => rw [q] at e1; cases e1
          | some m => rw [q] at e1; cases e1; exact ⟨m, rfl⟩
        obtain ⟨n, rfl⟩ : ∃ n, y = .str n := by
          rw [List.getElem?_map] at e2'
          cases q : ss[i + 1]? with
          | none => rw [q] at e2'; cases e2'
          | some m => rw [q] at e2'; cases e2'; exact ⟨m, rfl⟩
        exact ⟨_, rfl, _, rfl, .inr ⟨m, n, rfl, rfl, hZ _ _ (same_upd hT) ⟨_, _, e1, e2', .inr ⟨m, n, rfl, rfl, rfl⟩⟩⟩⟩
    have fin : ∀ (D : Addr) (H2 : Hp) (ys : List V), Same H H2 → H2 D = some (.lst ys) → ys.length = min xs.length (xs.drop 1).length →
        (∀ (i : Nat) (y : V), ys[i]? = some y → ∃ x1 x2, xs[i]? = some x1 ∧ xs[i + 1]? = some x2 ∧ ((∃ m n : Int, x1 = .int m ∧ x2 = .int n ∧ y = .bl (ltI m n)) ∨ ∃ m n : Str, x1 = .str m ∧ x2 = .str n ∧ y = .bl (ltS m n))) →
        ∃ (q : Addr) (bs : List Bool), [V.ref D] = [V.ref q] ∧ SqL K H2 q (bs.map V.bl) ∧ Q (.bl (bs.all id)) H2 := by
      intro D H2 ys s2 e l r
      rcases k with ⟨ns, rfl, k⟩ | ⟨ss, rfl, k⟩
      · have eb := bools_of (f := fun i => ltI (ns.getD i 0) (ns.getD (i + 1) 0)) l fun i y hy => by
          obtain ⟨x1, x2, h1, h2, h3⟩ := r i y hy
          rw [List.getElem?_map] at h1 h2
          cases q1 : ns[i]? with
          | none => rw [q1] at h1; cases h1
          | some m =>
            cases q2 : ns[i + 1]? with
            | none => rw [q2] at h2; cases h2
            | some n =>
              rw [q1] at h1
              rw [q2] at h2
              cases h1
              cases h2
              rcases h3 with ⟨m', n', em, en, rfl⟩ | ⟨m', n', em, en, rfl⟩
              · cases em
                cases en
                rw [List.getD_eq_getElem?_getD, List.getD_eq_getElem?_getD, q1, q2]
                rfl
              · cases em
        refine ⟨D, _, rfl, .inl (.inl (by rw [e, eb])), ?_⟩
        have ea := ascB_range ltI 0 ns
        simp only [List.length_map, List.length_drop] at ea ⊢
        rw [← ea]
        exact k _ s2
      · have eb := bools_of (f := fun i => ltS (ss.getD i "") (ss.getD (i + 1) "")) l fun i y hy => by
          obtain ⟨x1, x2, h1, h2, h3⟩ := r i y hy
          rw [List.getElem?_map] at h1 h2
          cases q1 : ss[i]? with
          | none => rw [q1] at h1; cases h1
          | some m =>
            cases q2 : ss[i + 1]? with
            | none => rw [q2] at h2; cases h2
            | some n =>
              rw [q1] at h1
              rw [q2] at h2
              cases h1
              cases h2
              rcases h3 with ⟨m', n', em, en, rfl⟩ | ⟨m', n', em, en, rfl⟩
              · cases em
              · cases em
                cases en
                rw [List.getD_eq_getElem?_getD, List.getD_eq_getElem?_getD, q1, q2]
                rfl
        refine ⟨D, _, rfl, .inl (.inl (by rw [e, eb])), ?_⟩
        have ea := ascB_range ltS "" ss
        simp only [List.length_map, List.length_drop] at ea ⊢
        rw [← ea]
        exact k _ s2
    refine ⟨_, rfl, ?_⟩
    cases f with
    | false =>
      refine .inl ⟨a, xs, rfl, hx, fun p hp => ?_⟩
      rw [cut1]
      exact go false p _ (fun v H2 => rAll K [v] H2 Q) (same_upd hp) (.inl (.inl upd_same)) fin
    | true =>
      refine .inr ⟨a, xs, rfl, hx, fun h => ?_, fun h p hp => ?_⟩
      · have e0 : xs.drop 1 = xs := by
          have h1 := h.1
          rw [show HT.sIx xs.length 0 (some 1) = min 1 xs.length from HT.sIx_nat xs.length 0 1] at h1
          cases xs with
          | nil => rfl
          | cons x r => simp at h1
        exact go true a _ (fun v H2 => rAll K [v] H2 Q) (Same.refl _) (by rw [e0]; exact hx) fin
      · rw [cut1]
        exact go true p _ (fun v H2 => rAll K [v] H2 Q) (same_upd hp) (.inl (.inl upd_same)) fin
theorem ok_common_multiple (T : Txt K mg) : FnOk P w K mg base CX0 1 T.d_common_multiple.f T.d_common_multiple.fd ["one", "other"] spLcm := by
  refine T.d_common_multiple.F.ok sc_common_multiple (fun vs H Q E h => ?_) (fun cdv A outer s H vs Q E hr h => ?_)
  · obtain ⟨a, b, rfl, _⟩ := h
    rfl
  · obtain ⟨a, b, rfl, ha, hb, la, lb, k⟩ := h
    refine ⟨_, (pss_cons (ps_par (i := 2) (j := 3) (by rfl) sc_common_multiple.nd rfl rfl (by decide) rfl rfl (pa_cons (pv 0) (pa_cons (pv 1) pa_nil)) (by rfl)) (pss_cons (ps_while PassesOwn.never (pt_mono (pt_cmpR op_gt (pv 3) pe_int (nomark _))) (pss_one (ps_par (i := 2) (j := 3) (by rfl) sc_common_multiple.nd rfl rfl (by decide) rfl rfl (pa_cons (pv 3) (pa_cons (pe_op op_mod (pv 2) (pv 3)) pa_nil)) (by rfl)))) (pss_one (ps_ret (pe_op op_mul (pe_op op_fdiv (pv 0) (pv 2)) (pv 1)))))), ?_⟩
    refine ⟨_, rfl, _, rfl, _, _, rfl, ?_⟩
    refine while_ix (fun m σ H' => ∃ x : Nat, σ = [some (.int (a : Int)), some (.int (b : Int)), some (.int (x : Int)), some (.int (m : Int))] ∧ H' = H ∧ Nat.gcd x m = Nat.gcd a b ∧ x ≤ 100000 ∧ m ≤ 100000 ∧ 0 < x) b ⟨a, rfl, rfl, rfl, la, lb, ha⟩ ?_
    rintro m σ H' ⟨x, rfl, rfl, hg, lx, ly, hx⟩
    refine ⟨_, rfl, _, _, rfl, rfl, _, rfl, ?_⟩
    by_cases h0 : (0 : Int) < (m : Int)
    · refine ifT (dT h0) ⟨_, rfl, _, rfl, _, rfl, _, _, rfl, rfl, h0, _, _, rfl, x % m, ?_, m, ?_, rfl, ?_, ly, ?_, by omega⟩
      · exact Nat.mod_lt _ (by omega)
      · show [some (V.int a), some (V.int b), some (V.int m), some (V.int ((x : Int) % (m : Int)))] = _
        rw [Int.natCast_emod]
      · rw [← hg, Nat.gcd_comm x m, Nat.gcd_rec m x, Nat.gcd_comm]
      · exact Nat.le_trans (Nat.mod_le _ _) lx
    · refine ifF (dF h0) ?_
      have m0 : m = 0 := by omega
      subst m0
      rw [Nat.gcd_zero_right] at hg
      subst hg
      refine ⟨_, rfl, _, rfl, _, _, rfl, rfl, ⟨by omega, by omega⟩, _, rfl, _, _, rfl, rfl, .inr ⟨by omega, by omega⟩, ?_⟩
      have e : ((a : Int) / ((Nat.gcd a b : Nat) : Int) * (b : Int)) = ((Nat.lcm a b : Nat) : Int) := by
        rw [← Int.natCast_ediv, ← Int.natCast_mul, Nat.lcm, Nat.div_mul_right_comm (Nat.gcd_dvd_left a b)]
      show Q (.int ((a : Int) / ((Nat.gcd a b : Nat) : Int) * (b : Int))) H'
      rw [e]
      exact k
theorem ok_number_in (T : Txt K mg) : FnOk P w K mg base CX0 1 T.d_number_in.f T.d_number_in.fd ["word"] (spNumberIn K) := by
  refine T.d_number_in.F.ok sc_number_in (fun vs H Q E h => ?_) (fun cdv A outer s H vs Q E hr h => ?_)
  · obtain ⟨x, rfl, _⟩ := h
    rfl
  · obtain ⟨z, rfl, hz, k⟩ := h
    refine ⟨_, (pss_cons (ps_if (PW.pt (pw_or (pt_not (pt_chain op_le op_le pe_int (pe_callB call_len (by rfl) T.c.z_len (by decide +kernel) (pa_cons (pv 0) pa_nil)) (pe_gc rfl T.c.g_MOST_FIGURES))) (pw_or1 (pt_not (pt_val (pe_callB (cr_all rfl) (by rfl) T.c.z_all (by decide +kernel) (pa_cons (pe_lc (own := [("figure", 1)]) (g := (gName 1)) rfl sc_number_in.nd (pi_str (pv 0)) (blkOk_by (own := [("figure", 1)]) (N := ["word", "figure"]) (sc := defScope s_number_in) (by decide +kernel)) (fun _ _ _ _ _ => (pg_name (i := 1) sc_number_in.nd rfl (Or.inl rfl))) (fun _ _ _ _ _ => pts_nil) (fun _ _ _ _ _ => (pe_cmpR op_in_sign (pv 1) (pe_gc rfl T.c.g_FIGURES) rfl))) pa_nil))))))) (pss_one (ps_ret (pe_un un_neg pe_int))) pss_nil) (pss_one (ps_ret (pe_ifExp (PW.pt (pw_or (pt_cmpR op_eq (pv 0) pe_str (nomark _)) (pw_or1 (pt_cmpR op_ne (pe_ix ix_str (pv 0) pe_int (fun _ _ => rfl)) pe_str (nomark _))))) (pe_callTy call_int_str (by rfl) T.c.z_int (by decide +kernel) (pa_cons (pv 0) pa_nil)) (pe_un un_neg pe_int))))), ?_⟩
    have lz : z.cps.toList.length = z.length := by simp [Str.length]
    have k0 : ∀ H', ¬ figW z = true → Same H H' → Q (.int (-1)) H' := fun H' e s => by
      have := k H' s
      rw [numIn, if_neg (fun q => e q.1)] at this
      exact this
    refine ⟨_, rfl, _, _, rfl, ⟨short_le hz, rfl⟩, _, _, rfl, rfl, _, rfl, ?_⟩
    by_cases h1 : (1 : Int) ≤ (z.length : Int)
    · refine ifT (dT h1) ?_
      refine ⟨_, _, rfl, rfl, _, rfl, ?_⟩
      by_cases h2 : (z.length : Int) ≤ 9
      · refine ifF (nT h2) ?_
        refine ⟨_, rfl, z, rfl, fun D hD => ?_⟩
        refine lc_same walk_str (fun i y _ => y = .bl (decide ((z.cps.toList.getD i 0) ∈ figuresL))) (stays_val _) (by rw [show z.cps.size = z.length from rfl]; exact lt_line hz) hD (fun _ _ => trivial) ?_ ?_
        · rintro i x H1 H2 Z F hi s ⟨rfl, c, hc, rfl⟩ hZ
          refine ⟨rfl, ?_⟩
          refine ⟨_, rfl, _, _, rfl, rfl, hZ _ _ (Same.refl _) ?_⟩
          have : z.cps.toList.getD i 0 = c := by rw [List.getD_eq_getElem?_getD, Array.getElem?_toList, hc]; rfl
          rw [this]
        · intro H1 ys s e l r
          have eb := bools_of (f := fun i => decide ((z.cps.toList.getD i 0) ∈ figuresL)) l r
          refine ⟨D, _, rfl, .inl (.inl (by rw [e, eb])), _, rfl, ?_⟩
          have ef : figW z = (((List.range z.cps.size).map fun i => decide ((z.cps.toList.getD i 0) ∈ figuresL)).all id) := by
            unfold figW
            rw [decide_eq_true (p := 1 ≤ z.length) (by omega), decide_eq_true (p := z.length ≤ 9) (by omega), Bool.true_and, Bool.true_and, all_range]
            rfl
          rw [← ef]
          by_cases hf : figW z = true
          · refine ifF (by rw [hf]; rfl) ?_
            obtain ⟨hd, hn, h9⟩ := figW_digits hf
            obtain ⟨c0, r0, ec⟩ : ∃ c r, z.cps.toList = c :: r := by
              cases q : z.cps.toList with
              | nil => exact absurd q hn
              | cons c r => exact ⟨c, r, rfl⟩
            have ez : ∀ l : Nat, (z = ⟨#[l]⟩) ↔ z.cps.toList = [l] := fun l => by
              constructor
              · intro e
                rw [e]
              · intro e
                obtain ⟨cs⟩ := z
                obtain ⟨cl⟩ := cs
                exact congrArg (fun q => (⟨⟨q⟩⟩ : Str)) e
            have yes : (z.cps.toList = [48] ∨ z.cps.toList.head? ≠ some 48) → ∃ n : Int, PySem.intText? z = some n ∧ z.length ≤ 640 ∧ Q (.int n) H1 := fun q => by
              refine ⟨_, PySem.intText_digits hd hn (by omega), by omega, ?_⟩
              have := k _ s
              rw [numIn, if_pos ⟨hf, q⟩] at this
              exact this
            refine ⟨_, rfl, rfl, _, rfl, ?_⟩
            by_cases hz0 : z.cps.toList = [48]
            · refine ifT (decide_eq_true (congrArg V.str ((ez 48).mpr hz0))) ?_
              obtain ⟨n, a1, a2, a3⟩ := yes (.inl hz0)
              exact ⟨_, rfl, _, n, rfl, a1, a2, a3⟩
            · refine ifF (decide_eq_false fun q => hz0 ((ez 48).mp (V.str.inj q))) ?_
              refine ⟨_, rfl, z, 0, c0, rfl, rfl, short_le hz, by rw [ec]; exact atI_nat (by rfl), rfl, _, rfl, ?_⟩
              by_cases hc : c0 = 48
              · refine ifF (by rw [hc]; rfl) ?_
                refine ⟨_, rfl, ?_⟩
                have := k _ s
                rw [numIn, if_neg (fun q => by rcases q.2 with q | q; exact hz0 q; exact q (by rw [ec, hc]; rfl))] at this
                exact this
              · refine ifT ?_ ?_
                · refine congrArg (! ·) (decide_eq_false fun q => hc ?_)
                  have q1 := V.str.inj q
                  have q2 : (⟨#[c0]⟩ : Str).cps.toList = [48] := by rw [q1]; rfl
                  exact (List.cons.inj q2).1
                · obtain ⟨n, a1, a2, a3⟩ := yes (.inr (by rw [ec]; intro q; exact hc (Option.some.inj q)))
                  exact ⟨_, rfl, _, n, rfl, a1, a2, a3⟩
          · refine ifT (by rw [Bool.not_eq_true] at hf; rw [hf]; rfl) ?_
            exact ⟨_, rfl, k0 _ hf s⟩
      · refine ifT (nF h2) ?_
        refine ⟨_, rfl, k0 _ (fun q => h2 ?_) (Same.refl _)⟩
        have := (figW_digits q).2.2
        omega
    · refine ifF (dF h1) ⟨_, rfl, ?_⟩
      refine ifT rfl ⟨_, rfl, k0 _ (fun q => h1 ?_) (Same.refl _)⟩
      have h3 := (figW_digits q).2.1
      have : z.cps.toList.length ≠ 0 := fun e => h3 (List.length_eq_zero_iff.mp e)
      omega
end
end Ev
end

section
namespace Ev
open PySem PySem.Spec PyProof.Rows L2
/-! ## reading.py, the first part -/
section
variable {K : PySem.W.Frag} {mg : Str → Option Value}
/-- a loop stands at a, the list of its places at pl -/
def LoopP (T : Txt K mg) (H : Hp) (a pl : Addr) (L : LoopM) : Prop :=
  ∃ ts, AtLoop T H a ⟨.str L.name, .int (L.length : Int), .int (L.span : Int), .str L.then_, .ref pl⟩ ∧ H pl = some (.lst ts) ∧ DpAll K H ts (L.places.map placeD)
/-- .. new behind H0 -/
def LoopAt (T : Txt K mg) (H0 H : Hp) (a : Addr) (L : LoopM) : Prop := ∃ pl, H0 a = none ∧ H0 pl = none ∧ LoopP T H a pl L
theorem LoopP.same {T : Txt K mg} {H H' : Hp} {a pl : Addr} {L : LoopM} (h : LoopP T H a pl L) (s : Same H H') : LoopP T H' a pl L := by
  obtain ⟨ts, h1, h2, h3⟩ := h
  exact ⟨ts, h1.same s, s _ _ h2, s.dpAll h3⟩
theorem LoopAt.same {T : Txt K mg} {H0 H H' : Hp} {a : Addr} {L : LoopM} (h : LoopAt T H0 H a L) (s : Same H H') : LoopAt T H0 H' a L := by
  obtain ⟨pl, n1, n2, h⟩ := h
  exact ⟨pl, n1, n2, h.same s⟩
theorem LoopAt.back {T : Txt K mg} {H0 H1 H : Hp} {a : Addr} {L : LoopM} (h : LoopAt T H1 H a L) (s : ∀ b, H1 b = none → H0 b = none) : LoopAt T H0 H a L := by
  obtain ⟨pl, n1, n2, h⟩ := h
  exact ⟨pl, s _ n1, s _ n2, h⟩
theorem LoopAt.keep {T : Txt K mg} {H0 H H' : Hp} {S : List Addr} {a : Addr} {L : LoopM} (h : LoopAt T H0 H a L) (k : Keep S H H') (nt : NT S H) (hS : ∀ s ∈ S, (∃ u, H0 s = some u) ∨ ∃ kvs, H s = some (.dK kvs)) : LoopAt T H0 H' a L := by
  obtain ⟨pl, n1, n2, ts, ⟨dx, h1⟩, h2, h3⟩ := h
  refine ⟨pl, n1, n2, ts, ⟨dx, k _ _ h1 fun q => ?_⟩, k _ _ h2 fun q => ?_, dpAll_keep k nt h3 (noLs_map noL_place _)⟩
  · rcases hS _ q with ⟨u, q⟩ | ⟨kvs, q⟩
    · rw [n1] at q; cases q
    · rw [h1] at q; cases q
  · rcases hS _ q with ⟨u, q⟩ | ⟨kvs, q⟩
    · rw [n2] at q; cases q
    · rw [h2] at q; cases q
/-- the places of a reader, and its lines -/
structure RC where
  a : Addr
  al : Addr
  dt : Addr
  db : Addr
  lr : Addr
  lines : List Str
/-- a reader that has still to read these lines -/
def RdS (T : Txt K mg) (H : Hp) (c : RC) (rest : List Str) (bar : Nat) : Prop :=
  ∃ pre, c.lines = pre ++ rest ∧ AtReader T H c.a ⟨.ref c.al, .int (pre.length : Int), .ref c.dt, .ref c.db, .int (bar : Int), .ref c.lr⟩ ∧ H c.al = some (.lst (c.lines.map V.str)) ∧ ShortL c.lines
theorem RdS.same {T : Txt K mg} {H H' : Hp} {c : RC} {rest : List Str} {bar : Nat} (h : RdS T H c rest bar) (s : Same H H') : RdS T H' c rest bar := by
  obtain ⟨pre, e, h1, h2, h3⟩ := h
  exact ⟨pre, e, h1.same s, s _ _ h2, h3⟩
end
def tabM : List (Key × V) := [(.inr "lasts", .int 4), (.inr "ends", .int 5), (.inr "goes", .int 6)]
theorem tabM_eq : mergeK [] tabM = tabM := by decide +kernel
theorem tab_l : valV tabM (Sum.inr "lasts") = some (.int 4) := by decide +kernel
theorem tab_e : valV tabM (Sum.inr "ends") = some (.int 5) := by decide +kernel
theorem tab_g : valV tabM (Sum.inr "goes") = some (.int 6) := by decide +kernel
theorem nameOk_ne {s : Str} (h : nameOk s = true) : (!decide (V.str s = V.str "")) = true := by
  rw [decide_eq_false]
  · rfl
  · intro q
    rw [V.str.inj q] at h
    exact absurd h (by decide +kernel)
def spWordsIn : Sp := fun vs H Q _ => ∃ (l : Str) (d : Nat), vs = [.str l, .int (d : Int)] ∧ l.length ≤ 50000 ∧ d ≤ 100 ∧ rowQ (wordsIn l (2 * d)) H Q
def spRow {K : PySem.W.Frag} {mg : Str → Option Value} (T : Txt K mg) : Sp := fun vs H Q _ => ∃ (c : RC) (rest : List Str) (bar d : Nat), vs = [.ref c.a, .int (d : Int)] ∧ RdS T H c rest bar ∧ d ≤ 100 ∧ rowQ (rowW rest (2 * d)) H Q
def spHeaded {K : PySem.W.Frag} {mg : Str → Option Value} (T : Txt K mg) : Sp := fun vs H Q _ => ∃ (c : RC) (rest : List Str) (bar d : Nat) (hd : Str), vs = [.ref c.a, .int (d : Int), .str hd] ∧ RdS T H c rest bar ∧ d ≤ 100 ∧ rowQ (headW rest (2 * d) hd) H Q
def spWant : Sp := fun vs H Q _ => ∃ a, vs = [.ref a, .bl true] ∧ Q .non H
def spLoopInit {K : PySem.W.Frag} {mg : Str → Option Value} (T : Txt K mg) : Sp := fun vs H Q _ => ∃ (x dx : Addr) (nm th : Str) (n sp : Nat), vs = [.ref x, .str nm, .int (n : Int), .int (sp : Int), .str th] ∧ H x = some (.ins T.Loop.C dx []) ∧ n ≤ 1000 ∧
  ∀ H' pl, Keep [x] H H' → H pl = none → LoopP T H' x pl ⟨nm, n, sp, th, List.replicate n []⟩ → Q .non H'
def spLoopIn {K : PySem.W.Frag} {mg : Str → Option Value} (T : Txt K mg) : Sp := fun vs H Q _ => ∃ (c : RC) (rest : List Str) (bar : Nat) (p : Addr) (ws : List Str) (L : LoopM), vs = [.ref c.a, .ref p] ∧ RdS T H c rest bar ∧ H p = some (.lst (ws.map V.str)) ∧ LoopW ws L ∧ ShortW ws ∧
  ∀ H' x pl, Same H H' → H x = none → H pl = none → LoopP T H' x pl L → Q (.ref x) H'
section
variable {P : Program} {w : World} {K : PySem.W.Frag} {mg : Str → Option Value} {base : Heap}
theorem ok_words_in (T : Txt K mg) : FnOk P w K mg base CX0 1 T.d_words_in.f T.d_words_in.fd ["line", "depth"] spWordsIn := by
  refine T.d_words_in.F.ok sc_words_in (fun vs H Q E h => ?_) (fun cdv A outer s H vs Q E hr h => ?_)
  · obtain ⟨l, d, rfl, _⟩ := h
    rfl
  · obtain ⟨l, d, rfl, hl, hd, k⟩ := h
    refine ⟨_, (pss_cons (ps_set (i := 2) sc_words_in.nd rfl (Or.inl rfl) (pe_op op_mulS (pe_gc rfl T.c.g_BLANK) (pe_op op_mul (pe_gc rfl T.c.g_DEEP) (pv 1)))) (pss_cons (ps_set (i := 3) sc_words_in.nd rfl (Or.inl rfl) (pe_split (pe_slice sl_str (pv 0) (po_some (pe_callB call_len (by rfl) T.c.z_len (by decide +kernel) (pa_cons (pv 2) pa_nil))) po_none) (pe_gc rfl T.c.g_BLANK))) (pss_one (ps_ret (pe_ifExp (PW.pt (pw_and (pt_cmpR op_eq (pe_slice sl_str (pv 0) po_none (po_some (pe_callB call_len (by rfl) T.c.z_len (by decide +kernel) (pa_cons (pv 2) pa_nil)))) (pv 2) (nomark _)) (pw_and1 (pt_cmpR op_notIn_seq pe_str (pv 3) rfl)))) (pv 3) pe_non))))), ?_⟩
    refine ⟨_, rfl, _, _, rfl, rfl, .inl ⟨by omega, by omega⟩, sB, 2 * d, rfl, by rw [Int.natCast_mul]; rfl, by omega, by decide, ?_⟩
    rw [repS_blank]
    have bl : (blanks (2 * d)).length ≤ sizeLine := by rw [blanks_len]; exact le_line (by omega)
    have el : (((blanks (2 * d)).length : Nat) : Int) = ((2 * d : Nat) : Int) := by rw [blanks_len]
    have c1 := cutS_le l (some ((2 * d : Nat) : Int)) none
    refine ⟨_, rfl, _, rfl, _, _, rfl, ⟨bl, rfl⟩, _, rfl, l, rfl, le_line (by omega), ⟨_, rfl⟩, _, _, rfl, rfl, rfl, ?_, fun p hp => ?_⟩
    · rw [el, sizeLine_eq]
      omega
    rw [el]
    refine ⟨_, rfl, _, rfl, _, _, rfl, ⟨bl, rfl⟩, _, rfl, l, rfl, le_line (by omega), _, rfl, rfl, _, rfl, ?_⟩
    rw [el]
    unfold wordsIn at k
    by_cases h1 : cutS l none (some ((2 * d : Nat) : Int)) = blanks (2 * d)
    · refine ifT (dT (congrArg V.str h1)) ?_
      refine ⟨_, rfl, p, _, rfl, .inl (.inl (.inl upd_same)), rfl, flat_strs _, _, rfl, ?_⟩
      have iv := inV_str "" (Txt.split (cutS l (some ((2 * d : Nat) : Int)) none) sB)
      by_cases h2 : ("" : Str) ∈ Txt.split (cutS l (some ((2 * d : Nat) : Int)) none) sB
      · refine ifF (by show (!inV _ _) = false; erw [iv]; rw [dT h2]; rfl) ?_
        rw [if_neg (fun q => q.2 h2)] at k
        exact k _ (same_upd hp)
      · refine ifT (by show (!inV _ _) = true; erw [iv]; rw [dF h2]; rfl) ?_
        rw [if_pos ⟨h1, h2⟩] at k
        exact ⟨_, rfl, k _ p (same_upd hp) hp upd_same⟩
    · refine ifF (dF fun q => h1 (V.str.inj q)) ?_
      rw [if_neg (fun q => h1 q.1)] at k
      exact ifF rfl (k _ (same_upd hp))
theorem ok_Reader_row (T : Txt K mg) : FnOk P w K mg base CX0 2 T.Reader.d_Reader_row.f T.Reader.d_Reader_row.fd ["self", "depth"] (spRow T) := by
  refine T.Reader.d_Reader_row.F.ok sc_Reader_row (fun vs H Q E h => ?_) (fun cdv A outer s H vs Q E hr h => ?_)
  · obtain ⟨c, rest, bar, d, rfl, _⟩ := h
    rfl
  · obtain ⟨c, rest, bar, d, rfl, ⟨pre, e, ha, hal, sl⟩, hd, k⟩ := h
    refine ⟨_, (pss_one (ps_ret (pe_ifExp (pt_cmpR op_lt (pe_get (frReader_at T) (pv 0)) (pe_callB call_len (by rfl) T.c.z_len (by decide +kernel) (pa_cons (pe_get (frReader_own_lines T) (pv 0)) pa_nil)) (nomark _)) (pe_call (ok_words_in T) (hr.mono (by decide)) rfl T.g_words_in T.d_words_in.F.kp T.d_words_in.b .nil pass0 (pa_cons (pe_ix ix_list (pe_get (frReader_own_lines T) (pv 0)) (pe_get (frReader_at T) (pv 0)) (fun _ _ => rfl)) (pa_cons (pv 1) pa_nil))) pe_non))), ?_⟩
    refine ⟨_, rfl, c.a, _, rfl, ha, _, rfl, c.a, _, rfl, ha, _, _, rfl, .inl ⟨_, .inl (.inl hal), rfl⟩, _, _, rfl, rfl, _, rfl, ?_⟩
    have el : ((c.lines.map V.str).length : Int) = (c.lines.length : Int) := by rw [List.length_map]
    have ln : c.lines.length = pre.length + rest.length := by rw [e, List.length_append]
    rw [el]
    cases rest with
    | nil =>
      refine ifF (dF (by rw [ln]; simp)) ?_
      exact k _ (Same.refl _)
    | cons l r =>
      refine ifT (dT (by rw [ln, List.length_cons]; omega)) ?_
      have hi : (c.lines.map V.str)[pre.length]? = some (V.str l) := by
        rw [List.getElem?_map, e, List.getElem?_append_right (Nat.le_refl _), Nat.sub_self]
        rfl
      refine ⟨_, rfl, c.a, _, rfl, ha, _, rfl, c.a, _, rfl, ha, c.al, _, _, V.str l, rfl, rfl, .inl (.inl hal), atI_nat hi, _, rfl, l, d, rfl, sl.2 l (by rw [e]; simp), hd, k⟩
theorem ok_Reader_headed (T : Txt K mg) : FnOk P w K mg base CX0 3 T.Reader.d_Reader_headed.f T.Reader.d_Reader_headed.fd ["self", "depth", "head"] (spHeaded T) := by
  refine T.Reader.d_Reader_headed.F.ok sc_Reader_headed (fun vs H Q E h => ?_) (fun cdv A outer s H vs Q E hr h => ?_)
  · obtain ⟨c, rest, bar, d, hd, rfl, _⟩ := h
    rfl
  · obtain ⟨c, rest, bar, d, hd, rfl, hc, ld, k⟩ := h
    have hc' := hc
    obtain ⟨pre, e, ha, hal, sl⟩ := hc
    refine ⟨_, (pss_cons (ps_set (i := 3) sc_Reader_headed.nd rfl (Or.inl rfl) (pe_methO nmReader_row (pe_meth (pe_mono (pv 0)) T.Reader.cl T.Reader.m_Reader_row (ok_Reader_row T) (hr.mono (by decide)) T.Reader.d_Reader_row.b .nil pass0 (pa_cons (pv 1) pa_nil)))) (pss_one (ps_ret (pe_ifExp (PW.pt (pw_and (pt_cmp (pc_notN (pv 3))) (pw_and1 (pt_cmpR op_eq (pe_ix ix_list (pv 3) pe_int (fun _ _ => rfl)) (pv 2) (nomark _))))) (pv 3) pe_non)))), ?_⟩
    refine ⟨_, rfl, c.a, _, rfl, ha, _, rfl, c, rest, bar, d, rfl, hc', ld, ?_⟩
    unfold headW at k
    cases er : rowW rest (2 * d) with
    | none =>
      rw [er] at k
      intro H' s'
      refine ⟨_, rfl, _, rfl, ?_⟩
      refine ifF rfl ?_
      exact ifF rfl (k H' s')
    | some ws =>
      obtain ⟨sw, l1⟩ := rowW_short er e sl
      cases ws with
      | nil => cases l1
      | cons x r =>
        rw [er] at k
        intro H' p s' np hp
        refine ⟨_, rfl, _, rfl, ?_⟩
        refine ifT rfl ?_
        refine ⟨_, rfl, p, _, _, V.str x, rfl, rfl, .inl (.inl hp), atI_nat rfl, _, rfl, rfl, _, rfl, ?_⟩
        by_cases hx : x = hd
        · refine ifT (dT (congrArg V.str hx)) ?_
          have k : rowQ (if x = hd then some (x :: r) else none) H Q := k
          rw [if_pos hx] at k
          exact ⟨_, rfl, k H' p s' np hp⟩
        · refine ifF (dF fun q => hx (V.str.inj q)) ?_
          have k : rowQ (if x = hd then some (x :: r) else none) H Q := k
          rw [if_neg hx] at k
          exact k H' s'
theorem ok_Reader_want (T : Txt K mg) : FnOk P w K mg base CX0 1 T.Reader.d_Reader_want.f T.Reader.d_Reader_want.fd ["self", "is_right"] spWant := by
  refine T.Reader.d_Reader_want.F.ok sc_Reader_want (fun vs H Q E h => ?_) (fun cdv A outer s H vs Q E hr h => ?_)
  · obtain ⟨a, rfl, _⟩ := h
    rfl
  · obtain ⟨a, rfl, k⟩ := h
    refine ⟨_, (pss_one (ps_if (pt_not (pt_val (pv 1))) (pss_one ps_never) pss_nil)), ?_⟩
    refine ⟨_, rfl, _, rfl, ?_⟩
    exact ifF rfl k
theorem ok_LoopD_initD (T : Txt K mg) : FnOk P w K mg base CX0 1 T.Loop.init.f T.Loop.init.fd ["self", "name", "length", "span", "then"] (spLoopInit T) := by
  refine T.Loop.init.F.ok sc_LoopD_initD (fun vs H Q E h => ?_) (fun cdv A outer s H vs Q E hr h => ?_)
  · obtain ⟨x, dx, nm, th, n, sp, rfl, _⟩ := h
    rfl
  · obtain ⟨x, dx, nm, th, n, sp, rfl, hx, hn, k⟩ := h
    refine ⟨_, (pss_cons (ps_fld (pv 0) (pv 1) rfl) (pss_cons (ps_fld (pv 0) (pv 2) rfl) (pss_cons (ps_fld (pv 0) (pv 3) rfl) (pss_cons (ps_fld (pv 0) (pv 4) rfl) (pss_one (ps_fld (pv 0) (pe_op op_rep (pe_lst (pa_cons (pe_tup pa_nil) pa_nil)) (pv 2)) rfl)))))), ?_⟩
    refine ⟨_, rfl, _, rfl, x, _, dx, _, rfl, hx, T.Loop.cl, T.Loop.na 0 _ rfl, by decide, ?_⟩
    refine ⟨_, rfl, _, rfl, x, _, dx, _, rfl, upd_same, T.Loop.cl, T.Loop.na 1 _ rfl, by show 1 < 1000; decide, ?_⟩
    refine ⟨_, rfl, _, rfl, x, _, dx, _, rfl, upd_same, T.Loop.cl, T.Loop.na 2 _ rfl, by show 2 < 1000; decide, ?_⟩
    refine ⟨_, rfl, _, rfl, x, _, dx, _, rfl, upd_same, T.Loop.cl, T.Loop.na 3 _ rfl, by show 3 < 1000; decide, ?_⟩
    refine ⟨by show 0 ≤ sizeLine; omega, fun t ht => ?_⟩
    have kp := ((((Keep.refl [x] H).put1 (u := .ins T.Loop.C dx (putF "name" (.str nm) []))).put1 (u := .ins T.Loop.C dx (putF "length" (.int (n : Int)) (putF "name" (.str nm) [])))).put1 (u := .ins T.Loop.C dx (putF "span" (.int (sp : Int)) (putF "length" (.int (n : Int)) (putF "name" (.str nm) []))))).put1 (u := .ins T.Loop.C dx (putF "then" (.str th) (putF "span" (.int (sp : Int)) (putF "length" (.int (n : Int)) (putF "name" (.str nm) [])))))
    refine ⟨by show 1 ≤ sizeLine; exact one_k, fun l hl => ⟨_, rfl, l, (n : Int), [.ref t], rfl, rfl, upd_same, by omega, by omega, ?_, fun p hp => ⟨_, rfl, x, _, dx, putF "then" (.str th) (putF "span" (.int (sp : Int)) (putF "length" (.int (n : Int)) (putF "name" (.str nm) []))), rfl, ?_, T.Loop.cl, T.Loop.na 4 _ rfl, by show 4 < 1000; decide, ?_⟩⟩⟩
    · show 1 * (n : Int).toNat ≤ sizeLine
      rw [Int.toNat_natCast, sizeLine_eq]
      omega
    · exact upd_old (upd_old (upd_old upd_same ht) hl) hp
    · have k3 := ((kp.new ht (u := .tup [])).new hl (u := .lst [.ref t])).new hp (u := .lst (List.replicate (n : Int).toNat [V.ref t]).flatten)
      have fr : p ≠ x := fun q => by
        rw [q] at hp
        exact nomatch (hp.symm.trans (upd_old (upd_old upd_same ht) hl))
      refine k _ p k3.put1 (((kp.new ht (u := .tup [])).new hl (u := .lst [.ref t])).free hp (by simpa using fr)) ?_
      rw [pnLoop_name, pnLoop_length, pnLoop_span, pnLoop_then, pnLoop_places]
      refine ⟨List.replicate n (.ref t), ⟨dx, upd_same⟩, ?_, ?_⟩
      · rw [upd_ne fr, upd_same, Int.toNat_natCast, rep_flat]
      · rw [List.map_replicate]
        refine dpAll_rep (.tup (.inl (.inl ?_)) .nil) n
        have tx : t ≠ x := fun q => by rw [q] at ht; exact nomatch (ht.symm.trans upd_same)
        rw [upd_ne tx]
        exact upd_old (upd_old upd_same hl) hp
theorem ok_Reader_loop_in (T : Txt K mg) : FnOk P w K mg base CX0 3 T.Reader.d_Reader_loop_in.f T.Reader.d_Reader_loop_in.fd ["self", "row"] (spLoopIn T) := by
  refine T.Reader.d_Reader_loop_in.F.ok sc_Reader_loop_in (fun vs H Q E h => ?_) (fun cdv A outer s H vs Q E hr h => ?_)
  · obtain ⟨c, rest, bar, p, ws, L, rfl, _⟩ := h
    rfl
  · obtain ⟨c, rest, bar, p, ws, L, rfl, hc, hp, hw, sw, k⟩ := h
    refine ⟨_, (pss_cons (ps_set (i := 2) sc_Reader_loop_in.nd rfl (Or.inl rfl) (pe_disp (pps_cons (pe_gc rfl T.c.g_LASTS) pe_int (pps_cons (pe_gc rfl T.c.g_ENDS) pe_int (pps_cons (pe_gc rfl T.c.g_GOES) pe_int pps_nil))) (by rfl) (by rfl) (fun z => by cases z) (by decide))) (pss_cons (ps_if (PW.pt (pw_or (pt_cmpR op_lt (pe_callB call_len (by rfl) T.c.z_len (by decide +kernel) (pa_cons (pv 1) pa_nil)) pe_int (nomark _)) (pw_or (pt_cmpR op_ne (pe_dget2 (hu_of hr) (pv 2) (pe_ix ix_list (pv 1) pe_int (fun _ _ => rfl)) pe_int ⟨rfl, rfl, rfl, rfl⟩) (pe_callB call_len (by rfl) T.c.z_len (by decide +kernel) (pa_cons (pv 1) pa_nil)) (nomark _)) (pw_or1 (pt_not (pt_val (pe_call (ok_is_name T) (hr.mono (by decide)) rfl T.g_is_name T.d_is_name.F.kp T.d_is_name.b .nil pass0 (pa_cons (pe_ix ix_list (pv 1) pe_int (fun _ _ => rfl)) pa_nil)))))))) (pss_one (ps_ret pe_non)) pss_nil) (pss_cons (ps_par (i := 3) (j := 4) (by rfl) sc_Reader_loop_in.nd rfl rfl (by decide) rfl rfl (pa_cons (pe_call (ok_number_in T) (hr.mono (by decide)) rfl T.g_number_in T.d_number_in.F.kp T.d_number_in.b .nil pass0 (pa_cons (pe_ix ix_list (pv 1) pe_int (fun _ _ => rfl)) pa_nil)) (pa_cons (pe_ifExp (pt_cmpR op_eq (pe_ix ix_list (pv 1) pe_int (fun _ _ => rfl)) (pe_gc rfl T.c.g_LASTS) (nomark _)) pe_int (pe_call (ok_number_in T) (hr.mono (by decide)) rfl T.g_number_in T.d_number_in.F.kp T.d_number_in.b .nil pass0 (pa_cons (pe_ix ix_list (pv 1) (pe_un un_neg pe_int) (fun _ _ => rfl)) pa_nil))) pa_nil)) (by rfl)) (pss_cons (ps_if (PW.pt (pw_or (pt_not (pt_chain op_le op_le pe_int (pv 3) (pe_gc rfl T.c.g_MOST_LENGTH))) (pw_or1 (PW.pt (pw_and (pt_cmpR op_ne (pe_ix ix_list (pv 1) pe_int (fun _ _ => rfl)) (pe_gc rfl T.c.g_LASTS) (nomark _)) (pw_and1 (pt_not (pt_chain op_le op_le pe_int (pv 4) (pe_gc rfl T.c.g_MOST_ROUNDS))))))))) (pss_one (ps_ret pe_non)) pss_nil) (pss_cons (ps_set (i := 5) sc_Reader_loop_in.nd rfl (Or.inl rfl) (pe_ifExp (pt_cmpR op_eq (pe_ix ix_list (pv 1) pe_int (fun _ _ => rfl)) (pe_gc rfl T.c.g_GOES) (nomark _)) (pe_ix ix_list (pv 1) pe_int (fun _ _ => rfl)) pe_str)) (pss_cons (ps_if (PW.pt (pw_and (pt_cmpR op_ne (pv 5) pe_str (nomark _)) (pw_and1 (pt_not (pt_val (pe_call (ok_is_name T) (hr.mono (by decide)) rfl T.g_is_name T.d_is_name.F.kp T.d_is_name.b .nil pass0 (pa_cons (pv 5) pa_nil))))))) (pss_one (ps_ret pe_non)) pss_nil) (pss_one (ps_ret (pe_make T.Loop.made (ok_LoopD_initD T) (hr.mono (by decide)) rfl T.Loop.gC T.Loop.init.b .nil pass0 (pa_cons (pe_ix ix_list (pv 1) pe_int (fun _ _ => rfl)) (pa_cons (pv 3) (pa_cons (pe_op op_mul (pv 4) (pv 3)) (pa_cons (pv 5) pa_nil))))))))))))), ?_⟩
    refine fun m hm => ?_
    refine ⟨upd_same, tabM, rfl, by decide, ?_⟩
    have em : ∀ H', Same (upd (upd H m (.dK [])) m (.dK (mergeK [] tabM))) H' → H' m = some (.dK tabM) := fun H' s => by
      have := s m _ upd_same
      rw [tabM_eq] at this
      exact this
    have pm : Same H (upd (upd H m (.dK [])) m (.dK (mergeK [] tabM))) := fun b o e => by
      have ne := ne_of_none e hm
      rw [upd_ne ne, upd_ne ne]
      exact e
    generalize upd (upd H m (.dK [])) m (.dK (mergeK [] tabM)) = H1 at em pm ⊢
    have hp1 := pm _ _ hp
    refine ⟨_, rfl, _, _, rfl, .inl ⟨_, .inl (.inl hp1), rfl⟩, _, _, rfl, rfl, _, rfl, ?_⟩
    have sw2 : ∀ x ∈ ws, shortS x := sw.2
    cases hw with
    | @lasts w nm ln n hnm hln n1 n6 =>
      refine ifF rfl ?_
      refine ⟨_, rfl, m, rfl, .inl ⟨_, .inl (em _ (Same.refl _))⟩, ?_⟩
      refine ⟨_, rfl, p, _, _, V.str "lasts", rfl, rfl, .inl (.inl hp1), atI_nat rfl, _, DGet.k (k := Sum.inr "lasts") (em _ (Same.refl _)), ?_⟩
      rw [tab_l]
      refine ⟨_, rfl, _, _, rfl, .inl ⟨_, .inl (.inl hp1), rfl⟩, rfl, _, rfl, ?_⟩
      refine ifF rfl ?_
      refine ⟨_, rfl, p, _, _, V.str nm, rfl, rfl, .inl (.inl hp1), atI_nat rfl, V.str nm, .str nm, rfl, .str nm, (fun s e => by cases e; exact sw2 nm (by simp)), fun H2 s2 => ?_⟩
      have hp2 := s2 _ _ hp1
      refine ⟨_, rfl, ?_⟩
      refine ifF (by show (!(nameOk nm)) = false; rw [hnm]; rfl) ?_
      refine ⟨_, rfl, p, _, _, V.str ln, rfl, rfl, .inl (.inl hp2), atI_nat rfl, ln, rfl, sw2 ln (by simp), fun H3 s3 => ?_⟩
      have hp3 := s3 _ _ hp2
      rw [hln]
      refine ⟨_, rfl, p, _, _, V.str "lasts", rfl, rfl, .inl (.inl hp3), atI_nat rfl, rfl, _, rfl, ?_⟩
      refine ifT rfl ?_
      have hp4 := hp3
      have s4 := pm.trans (s2.trans s3)
      refine ⟨_, _, rfl, ?_⟩
      refine ⟨_, rfl, _, _, rfl, rfl, _, rfl, ?_⟩
      refine ifT (dT (by omega)) ?_
      refine ⟨_, _, rfl, rfl, _, rfl, ?_⟩
      refine ifF (nT (by omega)) ?_
      refine ⟨_, rfl, p, _, _, V.str "lasts", rfl, rfl, .inl (.inl hp4), atI_nat rfl, rfl, _, rfl, ?_⟩
      refine ifF (by decide +kernel) ?_
      refine ifF rfl ?_
      refine ⟨_, rfl, p, _, _, V.str "lasts", rfl, rfl, .inl (.inl hp4), atI_nat rfl, rfl, _, rfl, ?_⟩
      refine ifF (by decide +kernel) ?_
      refine ⟨_, rfl, rfl, _, rfl, ?_⟩
      refine ifF (by decide +kernel) ?_
      refine ifF rfl ?_
      have sf := s4
      refine ⟨_, rfl, p, _, _, V.str nm, rfl, rfl, .inl (.inl hp4), atI_nat rfl, _, rfl, _, rfl, _, rfl, _, _, rfl, rfl, .inl ⟨by omega, by omega⟩, _, rfl, fun x dx nx ndx ne => ?_⟩
      refine ⟨x, dx, nm, "", n, 0 * n, by simp, upd_same, by omega, fun H6 pl k6 npl hL => ⟨rfl, ?_⟩⟩
      have s6 := make_keep nx ndx k6
      refine k H6 x pl (sf.trans s6) (sf.fresh nx) (sf.fresh ?_) (by simpa using hL)
      have n1 : pl ≠ x := fun q => by rw [q, upd_same] at npl; cases npl
      rw [upd_ne n1] at npl
      have n2 : pl ≠ dx := fun q => by rw [q, upd_same] at npl; cases npl
      rw [upd_ne n2] at npl
      exact npl
    | @ends w nm ln rd n r hnm hln n1 n6 hrd r1 r3 =>
      refine ifF rfl ?_
      refine ⟨_, rfl, m, rfl, .inl ⟨_, .inl (em _ (Same.refl _))⟩, ?_⟩
      refine ⟨_, rfl, p, _, _, V.str "ends", rfl, rfl, .inl (.inl hp1), atI_nat rfl, _, DGet.k (k := Sum.inr "ends") (em _ (Same.refl _)), ?_⟩
      rw [tab_e]
      refine ⟨_, rfl, _, _, rfl, .inl ⟨_, .inl (.inl hp1), rfl⟩, rfl, _, rfl, ?_⟩
      refine ifF rfl ?_
      refine ⟨_, rfl, p, _, _, V.str nm, rfl, rfl, .inl (.inl hp1), atI_nat rfl, V.str nm, .str nm, rfl, .str nm, (fun s e => by cases e; exact sw2 nm (by simp)), fun H2 s2 => ?_⟩
      have hp2 := s2 _ _ hp1
      refine ⟨_, rfl, ?_⟩
      refine ifF (by show (!(nameOk nm)) = false; rw [hnm]; rfl) ?_
      refine ⟨_, rfl, p, _, _, V.str ln, rfl, rfl, .inl (.inl hp2), atI_nat rfl, ln, rfl, sw2 ln (by simp), fun H3 s3 => ?_⟩
      have hp3 := s3 _ _ hp2
      rw [hln]
      refine ⟨_, rfl, p, _, _, V.str "ends", rfl, rfl, .inl (.inl hp3), atI_nat rfl, rfl, _, rfl, ?_⟩
      refine ifF (by decide +kernel) ?_
      refine ⟨_, rfl, _, rfl, p, _, _, V.str rd, rfl, rfl, .inl (.inl hp3), (show atI _ (-1) = some (V.str rd) from rfl), rd, rfl, sw2 rd (by simp), fun H4 s4' => ?_⟩
      have hp4 := s4' _ _ hp3
      have s4 := pm.trans (s2.trans (s3.trans s4'))
      rw [hrd]
      refine ⟨_, _, rfl, ?_⟩
      refine ⟨_, rfl, _, _, rfl, rfl, _, rfl, ?_⟩
      refine ifT (dT (by omega)) ?_
      refine ⟨_, _, rfl, rfl, _, rfl, ?_⟩
      refine ifF (nT (by omega)) ?_
      refine ⟨_, rfl, p, _, _, V.str "ends", rfl, rfl, .inl (.inl hp4), atI_nat rfl, rfl, _, rfl, ?_⟩
      refine ifT (by decide +kernel) ?_
      refine ⟨_, rfl, _, _, rfl, rfl, _, rfl, ?_⟩
      refine ifT (dT (by omega)) ?_
      refine ⟨_, _, rfl, rfl, _, rfl, ?_⟩
      refine ifF (nT (by omega)) ?_
      refine ⟨_, rfl, p, _, _, V.str "ends", rfl, rfl, .inl (.inl hp4), atI_nat rfl, rfl, _, rfl, ?_⟩
      refine ifF (by decide +kernel) ?_
      refine ⟨_, rfl, rfl, _, rfl, ?_⟩
      refine ifF (by decide +kernel) ?_
      refine ifF rfl ?_
      have sf := s4
      refine ⟨_, rfl, p, _, _, V.str nm, rfl, rfl, .inl (.inl hp4), atI_nat rfl, _, rfl, _, rfl, _, rfl, _, _, rfl, rfl, .inl ⟨by omega, by omega⟩, _, rfl, fun x dx nx ndx ne => ?_⟩
      refine ⟨x, dx, nm, "", n, r * n, rfl, upd_same, by omega, fun H6 pl k6 npl hL => ⟨rfl, ?_⟩⟩
      have s6 := make_keep nx ndx k6
      refine k H6 x pl (sf.trans s6) (sf.fresh nx) (sf.fresh ?_) hL
      have n1 : pl ≠ x := fun q => by rw [q, upd_same] at npl; cases npl
      rw [upd_ne n1] at npl
      have n2 : pl ≠ dx := fun q => by rw [q, upd_same] at npl; cases npl
      rw [upd_ne n2] at npl
      exact npl
    | @goes w nm ln th rd n r hnm hln n1 n6 hth hrd r1 r3 =>
      refine ifF rfl ?_
      refine ⟨_, rfl, m, rfl, .inl ⟨_, .inl (em _ (Same.refl _))⟩, ?_⟩
      refine ⟨_, rfl, p, _, _, V.str "goes", rfl, rfl, .inl (.inl hp1), atI_nat rfl, _, DGet.k (k := Sum.inr "goes") (em _ (Same.refl _)), ?_⟩
      rw [tab_g]
      refine ⟨_, rfl, _, _, rfl, .inl ⟨_, .inl (.inl hp1), rfl⟩, rfl, _, rfl, ?_⟩
      refine ifF rfl ?_
      refine ⟨_, rfl, p, _, _, V.str nm, rfl, rfl, .inl (.inl hp1), atI_nat rfl, V.str nm, .str nm, rfl, .str nm, (fun s e => by cases e; exact sw2 nm (by simp)), fun H2 s2 => ?_⟩
      have hp2 := s2 _ _ hp1
      refine ⟨_, rfl, ?_⟩
      refine ifF (by show (!(nameOk nm)) = false; rw [hnm]; rfl) ?_
      refine ⟨_, rfl, p, _, _, V.str ln, rfl, rfl, .inl (.inl hp2), atI_nat rfl, ln, rfl, sw2 ln (by simp), fun H3 s3 => ?_⟩
      have hp3 := s3 _ _ hp2
      rw [hln]
      refine ⟨_, rfl, p, _, _, V.str "goes", rfl, rfl, .inl (.inl hp3), atI_nat rfl, rfl, _, rfl, ?_⟩
      refine ifF (by decide +kernel) ?_
      refine ⟨_, rfl, _, rfl, p, _, _, V.str rd, rfl, rfl, .inl (.inl hp3), (show atI _ (-1) = some (V.str rd) from rfl), rd, rfl, sw2 rd (by simp), fun H4 s4' => ?_⟩
      have hp4 := s4' _ _ hp3
      have s4 := pm.trans (s2.trans (s3.trans s4'))
      rw [hrd]
      refine ⟨_, _, rfl, ?_⟩
      refine ⟨_, rfl, _, _, rfl, rfl, _, rfl, ?_⟩
      refine ifT (dT (by omega)) ?_
      refine ⟨_, _, rfl, rfl, _, rfl, ?_⟩
      refine ifF (nT (by omega)) ?_
      refine ⟨_, rfl, p, _, _, V.str "goes", rfl, rfl, .inl (.inl hp4), atI_nat rfl, rfl, _, rfl, ?_⟩
      refine ifT (by decide +kernel) ?_
      refine ⟨_, rfl, _, _, rfl, rfl, _, rfl, ?_⟩
      refine ifT (dT (by omega)) ?_
      refine ⟨_, _, rfl, rfl, _, rfl, ?_⟩
      refine ifF (nT (by omega)) ?_
      refine ⟨_, rfl, p, _, _, V.str "goes", rfl, rfl, .inl (.inl hp4), atI_nat rfl, rfl, _, rfl, ?_⟩
      refine ifT rfl ?_
      refine ⟨_, rfl, p, _, _, V.str th, rfl, rfl, .inl (.inl hp4), atI_nat rfl, ?_⟩
      refine ⟨_, rfl, rfl, _, rfl, ?_⟩
      refine ifT (nameOk_ne hth) ?_
      refine ⟨_, rfl, V.str th, .str th, rfl, .str th, (fun s e => by cases e; exact sw2 th (by simp)), fun H5 s5 => ?_⟩
      have hp5 := s5 _ _ hp4
      refine ⟨_, rfl, ?_⟩
      refine ifF (by show (!(nameOk th)) = false; rw [hth]; rfl) ?_
      have sf := s4.trans s5
      refine ⟨_, rfl, p, _, _, V.str nm, rfl, rfl, .inl (.inl hp5), atI_nat rfl, _, rfl, _, rfl, _, rfl, _, _, rfl, rfl, .inl ⟨by omega, by omega⟩, _, rfl, fun x dx nx ndx ne => ?_⟩
      refine ⟨x, dx, nm, th, n, r * n, rfl, upd_same, by omega, fun H6 pl k6 npl hL => ⟨rfl, ?_⟩⟩
      have s6 := make_keep nx ndx k6
      refine k H6 x pl (sf.trans s6) (sf.fresh nx) (sf.fresh ?_) hL
      have n1 : pl ≠ x := fun q => by rw [q, upd_same] at npl; cases npl
      rw [upd_ne n1] at npl
      have n2 : pl ≠ dx := fun q => by rw [q, upd_same] at npl; cases npl
      rw [upd_ne n2] at npl
      exact npl
end
end Ev
end

section
namespace Ev
open PySem PySem.Spec PyProof.Rows L2
/-! ## reading.py, loops -/
section
variable {K : PySem.W.Frag} {mg : Str → Option Value}
/-- a track that is read: its dict at d, its loops at as -/
def TrkP (T : Txt K mg) (H : Hp) (t d : Addr) (nm : Str) (loops : List LoopM) (as : List Addr) : Prop :=
  AtTrack T H t ⟨.str nm, .ref d⟩ ∧ H d = some (.dK (kvN (·.name) loops as)) ∧ as.length = loops.length
end
def spReadLoop {K : PySem.W.Frag} {mg : Str → Option Value} (T : Txt K mg) : Sp := fun vs H Q _ => ∃ (c : RC) (bar : Nat) (t d p : Addr) (nm l : Str) (r ws : List Str) (loops : List LoopM) (as : List Addr) (L : LoopM) (pl : List (List Str)) (rest1 : List Str) (xs : List V) (ps : List (Addr × Str)),
  vs = [.ref c.a, .ref p, .ref t] ∧ RdS T H c (l :: r) bar ∧ TrkP T H t d nm loops as ∧ H p = some (.lst (ws.map V.str)) ∧ ShortW ws ∧ LoopW ws L ∧ L.name ∉ loops.map (·.name) ∧ loops.length < 3 ∧ PlacesR L.length (-1) L.places r pl rest1 ∧
  H c.lr = some (.lst xs) ∧ xs.length ≤ 1000 ∧ LaterP H xs ps ∧ (c.lr ≠ c.al) ∧
  ∀ H' x xl ys, Keep [c.a, c.lr, d] H H' → RdS T H' c rest1 bar → TrkP T H' t d nm (loops ++ [{ L with places := pl }]) (as ++ [x]) → H x = none → H xl = none → LoopP T H' x xl { L with places := pl } →
    H' c.lr = some (.lst ys) → ys.length ≤ xs.length + 1 → LaterP H' ys ((t, L.then_) :: ps) → Q .non H'
section
variable {P : Program} {w : World} {K : PySem.W.Frag} {mg : Str → Option Value} {base : Heap}
theorem ok_Reader_read_loop (T : Txt K mg) : FnOk P w K mg base CX0 4 T.Reader.d_Reader_read_loop.f T.Reader.d_Reader_read_loop.fd ["self", "row", "track"] (spReadLoop T) := by
  refine T.Reader.d_Reader_read_loop.F.ok sc_Reader_read_loop (fun vs H Q E h => ?_) (fun cdv A outer s H vs Q E hr h => ?_)
  · obtain ⟨c, bar, t, d, p, nm, l, r, ws, loops, as, L, pl, rest1, xs, ps, rfl, _⟩ := h
    rfl
  · obtain ⟨c, bar, t, d, p, nm, l, r, ws, loops, as, L, pl, rest1, xs, ps, rfl, hc, ⟨ht, hd, la⟩, hp, sw, hw, hnm, l3, hpl, hl, lx, hL, nal, k⟩ := h
    refine ⟨_, (pss_cons (ps_set (i := 3) sc_Reader_read_loop.nd rfl (Or.inl rfl) (pe_methO nmReader_loop_in (pe_meth (pe_mono (pv 0)) T.Reader.cl T.Reader.m_Reader_loop_in (ok_Reader_loop_in T) (hr.mono (by decide)) T.Reader.d_Reader_loop_in.b .nil pass0 (pa_cons (pv 1) pa_nil)))) (pss_cons (ps_expr (pe_methO nmReader_want (pe_meth (pe_mono (pv 0)) T.Reader.cl T.Reader.m_Reader_want (ok_Reader_want T) (hr.mono (by decide)) T.Reader.d_Reader_want.b .nil pass0 (pa_cons (pe_and (pe_cmp (pc_notN (pv 3)) rfl) (pe_and (pe_cmp (pc_dnotin (hu_of hr) (pe_get (frLoop_name T) (pv 3)) (pe_get (frTrack_own_loops T) (pv 2))) rfl) (pe_one (pe_cmpR op_lt (pe_callB call_lenD (by rfl) T.c.z_len (by decide +kernel) (pa_cons (pe_get (frTrack_own_loops T) (pv 2)) pa_nil)) (pe_gc rfl T.c.g_MOST_LOOPS) (nomark _))))) pa_nil)))) (pss_cons (ps_dput (hu_of hr) (pe_get (frTrack_own_loops T) (pv 2)) (pe_get (frLoop_name T) (pv 3)) (pv 3) rfl) (C8.pss_cut (ps_if (pt_cmpR op_ne (pe_get (frLoop_then T) (pv 3)) pe_str (nomark _)) (pss_one (ps_expr (pe_bm PySem.F.plainAttrs_list PySem.F.slot_list_append PySem.F.type_list_append mt_append (pe_get (frReader_later T) (pv 0)) (pa_cons (pe_tup (pa_cons (pe_op op_add (pe_get (frReader_at T) (pv 0)) pe_int) (pa_cons (pv 2) (pa_cons (pe_get (frLoop_then T) (pv 3)) pa_nil)))) pa_nil)))) pss_nil) (pss_cons (ps_augF (frReader_at T) (pv 0) pe_int in_add) (pss_cons (ps_set (i := 4) sc_Reader_read_loop.nd rfl (Or.inl rfl) (pe_un un_neg pe_int)) (pss_one (ps_while PassesOwn.never (pt_mono (pt_cmp (pc_notN (pe_methO nmReader_row (pe_meth (pe_mono (pv 0)) T.Reader.cl T.Reader.m_Reader_row (ok_Reader_row T) (hr.mono (by decide)) T.Reader.d_Reader_row.b .nil pass0 (pa_cons pe_int pa_nil)))))) (pss_cons (ps_set (i := 1) sc_Reader_read_loop.nd rfl (Or.inl rfl) (pe_methO nmReader_row (pe_meth (pe_mono (pv 0)) T.Reader.cl T.Reader.m_Reader_row (ok_Reader_row T) (hr.mono (by decide)) T.Reader.d_Reader_row.b .nil pass0 (pa_cons pe_int pa_nil)))) (pss_cons (ps_par (i := 5) (j := 6) (by rfl) sc_Reader_read_loop.nd rfl rfl (by decide) rfl rfl (pa_cons (pe_call (ok_number_in T) (hr.mono (by decide)) rfl T.g_number_in T.d_number_in.F.kp T.d_number_in.b .nil pass0 (pa_cons (pe_ix ix_list (pv 1) pe_int (fun _ _ => rfl)) pa_nil)) (pa_cons (pe_slice sl_list (pv 1) (po_some pe_int) po_none) pa_nil)) (by rfl)) (pss_cons (ps_expr (pe_methO nmReader_want (pe_meth (pe_mono (pv 0)) T.Reader.cl T.Reader.m_Reader_want (ok_Reader_want T) (hr.mono (by decide)) T.Reader.d_Reader_want.b .nil pass0 (pa_cons (pe_and (pe_chain op_lt op_lt (pv 4) (pv 5) (pe_get (frLoop_length T) (pv 3))) (pe_one (pe_chain op_le op_le pe_int (pe_callB call_len (by rfl) T.c.z_len (by decide +kernel) (pa_cons (pv 6) pa_nil)) (pe_gc rfl T.c.g_MOST_SOUNDS)))) pa_nil)))) (pss_cons (ps_expr (pe_methO nmReader_want (pe_meth (pe_mono (pv 0)) T.Reader.cl T.Reader.m_Reader_want (ok_Reader_want T) (hr.mono (by decide)) T.Reader.d_Reader_want.b .nil pass0 (pa_cons (pe_and (pe_callB (cr_all rfl) (by rfl) T.c.z_all (by decide +kernel) (pa_cons (pe_lc (own := [("sound", 7)]) (g := (gName 7)) rfl sc_Reader_read_loop.nd (pi_list (pv 6)) (blkOk_by (own := [("sound", 7)]) (N := ["self", "row", "track", "loop", "last", "place", "sounds", "sound"]) (sc := defScope s_Reader_read_loop) (by decide +kernel)) (fun _ _ _ _ _ => (pg_name (i := 7) sc_Reader_read_loop.nd rfl (Or.inl rfl))) (fun _ _ _ _ _ => pts_nil) (fun _ _ _ _ _ => (pe_call (ok_is_name T) (hr.mono (by decide)) rfl T.g_is_name T.d_is_name.F.kp T.d_is_name.b .nil pass0 (pa_cons (pv 7) pa_nil)))) pa_nil)) (pe_one (pe_call (ok_do_ascend T) (hr.mono (by decide)) rfl T.g_do_ascend T.d_do_ascend.F.kp T.d_do_ascend.b .nil pass0 (pa_cons (pv 6) pa_nil)))) pa_nil)))) (pss_cons (ps_asg (pe_callTy call_tuple_of (by rfl) T.c.z_tuple (by decide +kernel) (pa_cons (pv 6) pa_nil)) (pg_sub (pe_get (frLoop_places T) (pv 3)) (pv 5) set_list)) (pss_cons (ps_set (i := 4) sc_Reader_read_loop.nd rfl (Or.inl rfl) (pv 5)) (pss_one (ps_augF (frReader_at T) (pv 0) pe_int in_add)))))))))))))))), ?_⟩
    obtain ⟨wf1, wf2, wf3, wf4, wf5⟩ := hw.facts
    have hc' := hc
    obtain ⟨pre, epre, ha, hal, sl⟩ := hc
    refine ⟨_, rfl, c.a, _, rfl, ha, _, rfl, c, l :: r, bar, p, ws, L, rfl, hc', hp, hw, sw, fun H1 x xl s1 nx nxl hX => ?_⟩
    obtain ⟨ts, hx1, hxl1, hts⟩ := hX
    have ha1 := ha.same s1
    have ht1 := ht.same s1
    have hd1 := s1 _ _ hd
    -- the first want
    refine ⟨_, rfl, c.a, _, rfl, ha1, ?_⟩
    refine ⟨_, rfl, true, rfl, ?_⟩
    refine ifT rfl ?_
    refine ⟨_, rfl, x, _, rfl, hx1, _, rfl, t, _, rfl, ht1, d, _, rfl, DGet.k (k := Sum.inr L.name) hd1, true, ?_, ?_⟩
    · show V.bl (!(valV _ _).isSome) = _
      rw [valV_no hnm]
      rfl
    refine ifT rfl ?_
    refine ⟨_, rfl, t, _, rfl, ht1, d, _, rfl, hd1, _, _, rfl, rfl, c.a, ?_, ?_⟩
    · show [V.ref c.a, V.bl (decide (((kvN (·.name) loops as).length : Int) < 3))] = _
      rw [kvN_len la, dT (by omega)]
    -- the loop is put into the track
    refine ⟨_, rfl, _, rfl, t, _, rfl, ht1, _, rfl, x, _, rfl, hx1, d, _, rfl, DPut.k (k := Sum.inr L.name) hd1 (by rw [kvN_len la]; exact lt_line (by omega)), ?_⟩
    rw [putK_new (valV_no hnm)]
    have nxd : x ≠ d := fun q => by rw [q, hd] at nx; cases nx
    have nxld : xl ≠ d := fun q => by rw [q, hd] at nxl; cases nxl
    obtain ⟨dxa, ea⟩ := ha
    obtain ⟨dxt, et⟩ := ht
    have nad : c.a ≠ d := ne_of ea hd (by intro z; cases z)
    have ntd : t ≠ d := ne_of et hd (by intro z; cases z)
    have nald : c.al ≠ d := ne_of hal hd (by intro z; cases z)
    have nlrd : c.lr ≠ d := ne_of hl hd (by intro z; cases z)
    have nta : t ≠ c.a := ne_of et ea (ins_ne (by show (["name", "own_loops"] : List Str) ≠ (["own_lines", "at", "own_tracks", "own_buttons", "own_bar", "later"] : List Str); decide +kernel))
    have nala : c.al ≠ c.a := ne_of hal ea (by intro z; cases z)
    have nlra : c.lr ≠ c.a := ne_of hl ea (by intro z; cases z)
    have nxa : x ≠ c.a := fun q => by rw [q, ea] at nx; cases nx
    have nxla : xl ≠ c.a := fun q => by rw [q, ea] at nxl; cases nxl
    have nxlr : x ≠ c.lr := fun q => by rw [q, hl] at nx; cases nx
    have nxllr : xl ≠ c.lr := fun q => by rw [q, hl] at nxl; cases nxl
    have nxxl : xl ≠ x := by
      obtain ⟨dxx, ex⟩ := hx1
      exact ne_of hxl1 ex (by intro z; cases z)
    have ntx : t ≠ x := fun q => by rw [← q, et] at nx; cases nx
    have NT3 : NT [c.a, c.lr, d] H := by
      intro z hz u e
      simp at hz
      rcases hz with rfl | rfl | rfl
      · rw [ea] at e; cases e; rfl
      · rw [hl] at e; cases e; rfl
      · rw [hd] at e; cases e; rfl
    -- how all stands, while the lines of places are read
    let Std : Hp → Prop := fun H' => Keep [c.a, c.lr, d] H H' ∧ AtTrack T H' t ⟨.str nm, .ref d⟩ ∧ H' d = some (.dK (kvN (·.name) loops as ++ [(Sum.inr L.name, V.ref x)])) ∧
      AtLoop T H' x ⟨.str L.name, .int (L.length : Int), .int (L.span : Int), .str L.then_, .ref xl⟩
    have std2 : Std (upd H1 d (.dK (kvN (·.name) loops as ++ [(Sum.inr L.name, V.ref x)]))) := by
      refine ⟨(Keep.of _ s1).put (by simp), ?_, upd_same, ?_⟩
      · obtain ⟨dx, e⟩ := ht1
        exact ⟨dx, by rw [upd_ne ntd]; exact e⟩
      · obtain ⟨dx, e⟩ := hx1
        exact ⟨dx, by rw [upd_ne nxd]; exact e⟩
    have a2 : AtReader T (upd H1 d (.dK (kvN (·.name) loops as ++ [(Sum.inr L.name, V.ref x)]))) c.a ⟨.ref c.al, .int (pre.length : Int), .ref c.dt, .ref c.db, .int (bar : Int), .ref c.lr⟩ := by
      obtain ⟨dx, e⟩ := ha1
      exact ⟨dx, by rw [upd_ne nad]; exact e⟩
    have al2 : upd H1 d (.dK (kvN (·.name) loops as ++ [(Sum.inr L.name, V.ref x)])) c.al = some (.lst (c.lines.map V.str)) := by rw [upd_ne nald]; exact s1 _ _ hal
    have xl2 : upd H1 d (.dK (kvN (·.name) loops as ++ [(Sum.inr L.name, V.ref x)])) xl = some (.lst ts) := by rw [upd_ne nxld]; exact hxl1
    have lr2 : upd H1 d (.dK (kvN (·.name) loops as ++ [(Sum.inr L.name, V.ref x)])) c.lr = some (.lst xs) := by rw [upd_ne nlrd]; exact s1 _ _ hl
    have P2 : DpAll K (upd H1 d (.dK (kvN (·.name) loops as ++ [(Sum.inr L.name, V.ref x)]))) ts (L.places.map placeD) := by
      refine dpAll_keep (S := [d]) (H := H1) ?_ ?_ hts (noLs_map noL_place _)
      · exact (Keep.refl _ _).put (by simp)
      · intro z hz u e
        rw [List.mem_singleton] at hz
        rw [hz, hd1] at e
        cases e
        rfl
    have L2' := hL.keep std2.1 NT3
    generalize upd H1 d (.dK (kvN (·.name) loops as ++ [(Sum.inr L.name, V.ref x)])) = H2 at *
    refine ⟨fun σ' H' => σ' = [some (.ref c.a), some (.ref p), some (.ref t), some (.ref x), none, none, none, none] ∧ Std H' ∧ AtReader T H' c.a ⟨.ref c.al, .int (pre.length : Int), .ref c.dt, .ref c.db, .int (bar : Int), .ref c.lr⟩ ∧
      H' c.al = some (.lst (c.lines.map V.str)) ∧ H' xl = some (.lst ts) ∧ DpAll K H' ts (L.places.map placeD) ∧ ∃ ys, H' c.lr = some (.lst ys) ∧ ys.length ≤ xs.length + 1 ∧ LaterP H' ys ((t, L.then_) :: ps), ?_, ?_⟩
    · obtain ⟨b1, b2, b3, b4⟩ := std2
      refine ⟨_, rfl, x, _, rfl, b4, rfl, _, rfl, ?_⟩
      by_cases hth : L.then_ = ""
      · refine ifF (by show (!decide _) = false; rw [dT (congrArg V.str hth)]; rfl) ?_
        exact ⟨rfl, ⟨b1, b2, b3, b4⟩, a2, al2, xl2, P2, xs, lr2, by omega, L2'.sub fun _ h => List.mem_cons_of_mem _ h⟩
      · refine ifT (by show (!decide _) = true; rw [dF fun q => hth (V.str.inj q)]; rfl) ?_
        refine ⟨_, rfl, c.a, _, rfl, a2, .inl ⟨rfl, _, .inl (.inl lr2)⟩, _, rfl, c.a, _, rfl, a2, _, _, rfl, rfl, _, rfl, _, rfl, x, _, rfl, b4, by show 3 ≤ sizeLine; exact le_line (by omega), fun tp htp => ?_⟩
        refine ⟨c.lr, xs, .ref tp, rfl, rfl, upd_old lr2 htp, lt_line (by omega), ?_⟩
        have nl : ∀ b, (∃ u, H2 b = some u) → b ≠ tp := fun b ⟨u, hu⟩ => ne_of_none hu htp
        have ftp : tp ≠ c.lr := fun q => by rw [q, lr2] at htp; cases htp
        have n1 := nl _ a2.some
        have n3 := nl _ b4.some
        have n4 := nl _ b2.some
        refine ⟨rfl, ⟨(b1.new htp).put (by simp), (b2.put n4).put ?_, upd_get (upd_old b3 htp) nlrd.symm, (b4.put n3).put nxlr⟩, (a2.put n1).put nlra.symm, upd_get (upd_old al2 htp) nal.symm, upd_get (upd_old xl2 htp) nxllr, ?_, _, upd_same, by simp, ?_⟩
        · exact ne_of et hl (by intro z; cases z)
        · refine dpAll_keep (S := [c.lr]) (H := H2) ?_ ?_ P2 (noLs_map noL_place _)
          · exact ((Keep.refl _ _).new htp).put (by simp)
          · intro z hz u e
            rw [List.mem_singleton] at hz
            rw [hz, lr2] at e
            cases e
            rfl
        · refine LaterP.snoc (n := (pre.length : Int) + 1) ?_ (by rw [upd_ne ftp]; exact upd_same) hth
          refine L2'.keep (S := [c.lr]) (((Keep.refl _ _).new htp).put (by simp)) ?_
          intro z hz u e
          rw [List.mem_singleton] at hz
          rw [hz, lr2] at e
          cases e
          rfl
    · rintro σ' H' ⟨rfl, sd, a3, al3, xl3, P3, ys, lr3, ly, L3⟩
      have NTa : ∀ Hx, (∃ o, AtReader T Hx c.a o) → NT [c.a] Hx := fun Hx ⟨o, dx, e⟩ z hz u e' => by
        rw [List.mem_singleton] at hz
        rw [hz, e] at e'
        cases e'
        rfl
      refine ⟨_, rfl, c.a, _, rfl, a3, _, _, rfl, rfl, _, a3, fun H4 a4 k4 => ?_⟩
      have kk4 : Keep [c.a] H' H4 := k4.keep (by simp)
      refine ⟨_, rfl, ?_⟩
      refine while_ix (fun m σ H5 => ∃ (last : Int) (rest : List Str) (plc : List (List Str)) (rw5 : V) (v5 v6 v7 : Option V) (ts5 : List V) (pre5 : List Str), m = rest.length ∧ σ = [some (.ref c.a), some rw5, some (.ref t), some (.ref x), some (.int last), v5, v6, v7] ∧ Std H5 ∧
        c.lines = pre5 ++ rest ∧ AtReader T H5 c.a ⟨.ref c.al, .int (pre5.length : Int), .ref c.dt, .ref c.db, .int (bar : Int), .ref c.lr⟩ ∧ H5 c.al = some (.lst (c.lines.map V.str)) ∧ H5 xl = some (.lst ts5) ∧ DpAll K H5 ts5 (plc.map placeD) ∧ plc.length = L.length ∧ PlacesR L.length last plc rest pl rest1 ∧
        H5 c.lr = some (.lst ys) ∧ LaterP H5 ys ((t, L.then_) :: ps)) r.length ⟨-1, r, L.places, _, _, _, _, ts, pre ++ [l], rfl, rfl, ?_, by rw [epre]; simp, ?_, ?_, ?_, ?_, wf4, hpl, ?_, ?_⟩ ?_
      · obtain ⟨b1, b2, b3, b4⟩ := sd
        exact ⟨b1.but k4 (by simp), b2.but k4 nta, by rw [k4.off d nad.symm]; exact b3, b4.but k4 nxa⟩
      · rw [List.length_append]
        exact a4
      · rw [k4.off c.al nala]; exact al3
      · rw [k4.off xl nxla]; exact xl3
      · exact dpAll_keep kk4 (NTa _ ⟨_, a3⟩) P3 (noLs_map noL_place _)
      · rw [k4.off c.lr nlra]; exact lr3
      · exact L3.keep kk4 (NTa _ ⟨_, a3⟩)
      · rintro m σ H5 ⟨last, rest, plc, rw5, v5, v6, v7, ts5, pre5, rfl, rfl, sd5, ep5, a5, al5, xl5, P5, lp5, hp5, lr5, L5⟩
        have R5 : RdS T H5 c rest bar := ⟨pre5, ep5, a5, al5, sl⟩
        refine ⟨_, rfl, c.a, _, rfl, a5, c, rest, bar, 2, rfl, R5, by decide, ?_⟩
        cases hp5 with
        | stop e4 =>
          rw [show 2 * 2 = 4 from rfl, e4]
          intro H6 s6
          refine ⟨_, rfl, ?_⟩
          refine ifF rfl ?_
          obtain ⟨b1, b2, b3, b4⟩ := sd5
          refine k H6 x xl ys (b1.same s6) (R5.same s6) ⟨b2.same s6, ?_, by simp [la]⟩ nx nxl ⟨ts5, b4.same s6, s6 _ _ xl5, s6.dpAll P5⟩ (s6 _ _ lr5) ly (L5.same s6)
          rw [kvN_snoc la]
          exact s6 _ _ b3
        | @step _ _ l' r' _ _ w' ss n hw' hn' hlt hnl s1' s3 hnames hasc hp' =>
          have er : rowW (l' :: r') (2 * 2) = some (w' :: ss) := hw'
          rw [er]
          intro H6 q6 s6 nq6 hq6
          refine ⟨_, rfl, ?_⟩
          refine ifT rfl ?_
          have q56 := sd5
          obtain ⟨b1, b2, b3, b4⟩ := sd5
          have R6 := R5.same s6
          refine ⟨_, rfl, c.a, _, rfl, a5.same s6, c, l' :: r', bar, 2, rfl, R6, by decide, ?_⟩
          rw [er]
          intro H7 q7 s7 nq7 hq7
          have s57 := s6.trans s7
          have sww := (wordsIn_short hw' (sl.2 l' (by rw [ep5]; simp))).1.2
          refine ⟨_, rfl, q7, _, _, V.str w', rfl, rfl, .inl (.inl hq7), atI_nat rfl, w', rfl, sww w' (by simp), fun H8 s8 => ?_⟩
          rw [hn']
          refine ⟨_, rfl, _, rfl, q7, _, rfl, .inl (.inl (s8 _ _ hq7)), fun q9 nq9 => ?_⟩
          rw [cut1, show (List.map V.str (w' :: ss)).drop 1 = ss.map V.str from rfl]
          have s59 : Same H5 (upd H8 q9 (.lst (ss.map V.str))) := (s57.trans s8).new nq9
          have hq9 : upd H8 q9 (.lst (ss.map V.str)) q9 = some (.lst (ss.map V.str)) := upd_same
          have fq9 : H5 q9 = none := (s57.trans s8).fresh nq9
          refine ⟨_, _, rfl, ?_⟩
          generalize upd H8 q9 (.lst (ss.map V.str)) = H9 at s59 hq9 ⊢
          refine ⟨_, rfl, c.a, _, rfl, a5.same s59, ?_⟩
          refine ⟨_, rfl, _, rfl, _, _, rfl, rfl, _, rfl, ?_⟩
          refine ifT (dT hlt) ⟨_, rfl, x, _, rfl, b4.same s59, _, _, rfl, rfl, _, rfl, ?_⟩
          refine ifT (dT (by omega)) ?_
          have l9 : ((ss.map V.str).length : Int) = (ss.length : Int) := by rw [List.length_map]
          refine ⟨_, rfl, _, _, rfl, .inl ⟨_, .inl (.inl hq9), rfl⟩, _, _, rfl, rfl, _, rfl, ?_⟩
          refine ifT (dT (by omega)) ?_
          refine ⟨_, _, rfl, rfl, c.a, ?_, ?_⟩
          · show [V.ref c.a, V.bl (decide (((ss.map V.str).length : Int) ≤ 3))] = _
            rw [dT (by omega)]
          -- the second want
          refine ⟨_, rfl, c.a, _, rfl, a5.same s59, ?_⟩
          refine ⟨_, rfl, q9, rfl, ⟨_, .inl (.inl hq9)⟩, fun D hD => ?_⟩
          refine lc_same walk_list (fun i y _ => y = .bl true) (stays_val _) (by rw [List.length_map]; exact lt_line (by omega)) hD (fun Hx sx => .inl (.inl (sx _ _ hq9))) ?_ ?_
          · rintro i v Hx Hy Z F hi sx ⟨rfl, ey⟩ hZ
            have ey : (ss.map V.str)[i]? = some v := ey
            rw [List.getElem?_map] at ey
            cases q : ss[i]? with
            | none => rw [q] at ey; cases ey
            | some sn =>
              rw [q] at ey
              cases ey
              have hmem := List.mem_of_getElem? q
              refine ⟨rfl, ?_⟩
              refine ⟨_, rfl, .str sn, .str sn, rfl, .str sn, (fun z ez => by cases ez; exact sww sn (by simp [hmem])), fun Hz sz => ?_⟩
              exact hZ _ _ sz (by show V.bl (nameOk sn) = _; rw [hnames sn hmem])
          · intro H10 zs s10 e10 l10 r10
            have eb := bools_of (f := fun _ => true) l10 r10
            have s510 := s59.trans s10
            refine ⟨D, _, rfl, .inl (.inl (by rw [e10, eb])), true, ?_, ?_⟩
            · rw [show (((List.range (ss.map V.str).length).map fun _ => true).all id) = true from by simp]
            refine ifT rfl ?_
            refine ⟨_, rfl, false, q9, _, rfl, .inl (.inl (s10 _ _ hq9)), by rw [List.length_map]; omega, .inr ⟨ss, rfl, fun H11 s11 => ?_⟩⟩
            rw [hasc]
            refine ⟨c.a, rfl, ?_⟩
            have s511 := s510.trans s11
            -- the sounds are put into their place
            refine ⟨_, rfl, q9, _, rfl, .inl ⟨.inl (.inl ((s10.trans s11) _ _ hq9)), fun q12 n12 => ?_⟩⟩
            have s512 : Same H5 (upd H11 q12 (.tup (ss.map V.str))) := s511.new n12
            have hq12 : upd H11 q12 (.tup (ss.map V.str)) q12 = some (.tup (ss.map V.str)) := upd_same
            generalize upd H11 q12 (.tup (ss.map V.str)) = H12 at s512 hq12 ⊢
            have lts : ts5.length = L.length := by
              have := P5.len
              rw [List.length_map] at this
              omega
            refine ⟨_, rfl, x, _, rfl, b4.same s512, _, rfl, xl, ts5, (n : Int), n, rfl, rfl, s512 _ _ xl5, ?_, ?_⟩
            · unfold ixN
              rw [if_pos (by omega), if_pos (by omega), Int.toNat_natCast]
            have nxx : xl ≠ x := nxxl
            have k13 : Keep [xl] H12 (upd H12 xl (.lst (ts5.set n (.ref q12)))) := (Keep.refl _ _).put (by simp)
            have NT13 : NT [xl] H12 := by
              intro z hz u e
              rw [List.mem_singleton] at hz
              rw [hz, s512 _ _ xl5] at e
              cases e
              rfl
            have ntxl : t ≠ xl := fun q => by rw [← q, et] at nxl; cases nxl
            have nalxl : c.al ≠ xl := fun q => by rw [← q, hal] at nxl; cases nxl
            have ndxl : d ≠ xl := nxld.symm
            have kk : Keep [c.a, c.lr, d] H (upd H12 xl (.lst (ts5.set n (.ref q12)))) := (b1.same s512).putN nxl
            have t13 := (b2.same s512).put (u := .lst (ts5.set n (.ref q12))) ntxl
            have d13 := upd_get (u := .lst (ts5.set n (.ref q12))) (s512 _ _ b3) ndxl
            have x13 := (b4.same s512).put (u := .lst (ts5.set n (.ref q12))) nxxl.symm
            have a13 := (a5.same s512).put (u := .lst (ts5.set n (.ref q12))) nxla.symm
            have al13 := upd_get (u := .lst (ts5.set n (.ref q12))) (s512 _ _ al5) nalxl
            have lr13 := upd_get (u := .lst (ts5.set n (.ref q12))) (s512 _ _ lr5) nxllr.symm
            have L13 := (L5.same s512).keep k13 NT13
            have xl13 : upd H12 xl (.lst (ts5.set n (.ref q12))) xl = some (.lst (ts5.set n (.ref q12))) := upd_same
            have nq12 : q12 ≠ xl := ne_of hq12 (s512 _ _ xl5) (by intro z; cases z)
            have P13 : DpAll K (upd H12 xl (.lst (ts5.set n (.ref q12)))) (ts5.set n (.ref q12)) ((plc.set n ss).map placeD) := by
              rw [List.map_set]
              refine dpAll_set (.tup (.inl (.inl (upd_get hq12 nq12))) (DpAll.strs ss)) n ?_
              exact dpAll_keep k13 NT13 (s512.dpAll P5) (noLs_map noL_place _)
            generalize upd H12 xl (.lst (ts5.set n (.ref q12))) = H13 at *
            refine ⟨_, rfl, ?_⟩
            refine ⟨_, rfl, c.a, _, rfl, a13, _, _, rfl, rfl, _, a13, fun H14 a14 k14 => ?_⟩
            have kk14 : Keep [c.a] H13 H14 := k14.keep (by simp)
            refine ⟨r'.length, Nat.lt_succ_self _, (n : Int), r', plc.set n ss, _, _, _, _, ts5.set n (.ref q12), pre5 ++ [l'], rfl, rfl, ⟨kk.but k14 (by simp), t13.but k14 nta, by rw [k14.off d nad.symm]; exact d13, x13.but k14 nxa⟩, by rw [ep5]; simp, ?_, ?_, ?_, ?_, by rw [List.length_set]; exact lp5, hp', ?_, ?_⟩
            · rw [List.length_append]
              exact a14
            · rw [k14.off c.al nala]; exact al13
            · rw [k14.off xl nxla]; exact xl13
            · exact dpAll_keep kk14 (NTa _ ⟨_, a13⟩) P13 (noLs_map noL_place _)
            · rw [k14.off c.lr nlra]; exact lr13
            · exact L13.keep kk14 (NTa _ ⟨_, a13⟩)
end
end Ev
end

section
namespace Ev
open PySem PySem.Spec PyProof.Rows L2
/-! ## reading.py, tracks -/
section
variable {K : PySem.W.Frag} {mg : Str → Option Value}
/-- a track, new behind H0 -/
def TrackAt (T : Txt K mg) (H0 H : Hp) (t : Addr) (M : TrackM) : Prop := ∃ d as, H0 t = none ∧ H0 d = none ∧ TrkP T H t d M.name M.loops as ∧ ∀ (i : Nat) (a : Addr) (L : LoopM), as[i]? = some a → M.loops[i]? = some L → LoopAt T H0 H a L
theorem TrkP.same {T : Txt K mg} {H H' : Hp} {t d : Addr} {nm : Str} {ls : List LoopM} {as : List Addr} (h : TrkP T H t d nm ls as) (s : Same H H') : TrkP T H' t d nm ls as := ⟨h.1.same s, s _ _ h.2.1, h.2.2⟩
theorem TrackAt.same {T : Txt K mg} {H0 H H' : Hp} {t : Addr} {M : TrackM} (h : TrackAt T H0 H t M) (s : Same H H') : TrackAt T H0 H' t M := by
  obtain ⟨d, as, n1, n2, h1, h2⟩ := h
  exact ⟨d, as, n1, n2, h1.same s, fun i a L e1 e2 => (h2 i a L e1 e2).same s⟩
theorem TrackAt.back {T : Txt K mg} {H0 H1 H : Hp} {t : Addr} {M : TrackM} (h : TrackAt T H1 H t M) (s : ∀ b, H1 b = none → H0 b = none) : TrackAt T H0 H t M := by
  obtain ⟨d, as, n1, n2, h1, h2⟩ := h
  exact ⟨d, as, s _ n1, s _ n2, h1, fun i a L e1 e2 => (h2 i a L e1 e2).back s⟩
theorem TrackAt.keep {T : Txt K mg} {H0 H H' : Hp} {S : List Addr} {t : Addr} {M : TrackM} (h : TrackAt T H0 H t M) (k : Keep S H H') (nt : NT S H) (hS : ∀ s ∈ S, ∃ u, H0 s = some u) : TrackAt T H0 H' t M := by
  obtain ⟨d, as, n1, n2, ⟨⟨dx, h1⟩, h2, h3⟩, h4⟩ := h
  refine ⟨d, as, n1, n2, ⟨⟨dx, k _ _ h1 fun q => ?_⟩, k _ _ h2 fun q => ?_, h3⟩, fun i a L e1 e2 => (h4 i a L e1 e2).keep k nt fun s q => .inl (hS s q)⟩
  · obtain ⟨u, hu⟩ := hS _ q
    rw [n1] at hu; cases hu
  · obtain ⟨u, hu⟩ := hS _ q
    rw [n2] at hu; cases hu
end
def spTrackInit {K : PySem.W.Frag} {mg : Str → Option Value} (T : Txt K mg) : Sp := fun vs H Q _ => ∃ (x dx : Addr) (nm : Str), vs = [.ref x, .str nm] ∧ H x = some (.ins T.Track.C dx []) ∧
  ∀ H' d, Keep [x] H H' → H d = none → TrkP T H' x d nm [] [] → Q .non H'
def spReadTrack {K : PySem.W.Frag} {mg : Str → Option Value} (T : Txt K mg) : Sp := fun vs H Q _ => ∃ (c : RC) (bar : Nat) (p : Addr) (w nm l : Str) (r : List Str) (loops : List LoopM) (rest1 : List Str) (ts : List TrackM) (as : List Addr) (xs : List V) (ps : List (Addr × Str)),
  vs = [.ref c.a, .ref p] ∧ RdS T H c (l :: r) bar ∧ H p = some (.lst ([w, nm].map V.str)) ∧ nameOk nm = true ∧ nm ∉ ts.map (·.name) ∧ ts.length < 4 ∧ LoopsR [] r loops rest1 ∧ loops ≠ [] ∧
  H c.dt = some (.dK (kvN (·.name) ts as)) ∧ as.length = ts.length ∧ H c.lr = some (.lst xs) ∧ xs.length ≤ 100 ∧ LaterP H xs ps ∧ c.lr ≠ c.al ∧
  ∀ H' t ys, Keep [c.a, c.lr, c.dt] H H' → RdS T H' c rest1 bar → H' c.dt = some (.dK (kvN (·.name) (ts ++ [⟨nm, loops⟩]) (as ++ [t]))) → TrackAt T H H' t ⟨nm, loops⟩ →
    H' c.lr = some (.lst ys) → ys.length ≤ xs.length + 3 → LaterP H' ys (ps ++ loops.map fun L => (t, L.then_)) → Q .non H'
/-- a track has at most three loops -/
theorem LoopsR.most {ls ls' : List LoopM} {r r' : List Str} (h : LoopsR ls r ls' r') (l3 : ls.length ≤ 3) : ls.length ≤ ls'.length ∧ ls'.length ≤ 3 := by
  induction h with
  | stop _ => exact ⟨Nat.le_refl _, l3⟩
  | step _ _ _ h3 _ _ ih =>
    have := ih (by simp; omega)
    simp at this
    omega
theorem PlacesR.le {n : Nat} {i : Int} {a b : List (List Str)} {r r' : List Str} (h : PlacesR n i a r b r') : r'.length ≤ r.length := by
  induction h with
  | stop _ => exact Nat.le_refl _
  | step _ _ _ _ _ _ _ _ _ ih => exact Nat.le_succ_of_le ih
/-- one more object at the end -/
theorem snoc_at {α : Type} {as : List Addr} {xs : List α} {P : Addr → α → Prop} (hl : as.length = xs.length) {a : Addr} {x : α} (h : ∀ (i : Nat) b y, as[i]? = some b → xs[i]? = some y → P b y) (h1 : P a x) :
    ∀ (i : Nat) b y, (as ++ [a])[i]? = some b → (xs ++ [x])[i]? = some y → P b y := fun i b y e1 e2 => by
  by_cases hi : i < as.length
  · rw [List.getElem?_append_left hi] at e1
    rw [List.getElem?_append_left (by omega)] at e2
    exact h i b y e1 e2
  · have h0 : i = as.length := by
      have := List.getElem?_eq_some_iff.mp e1
      obtain ⟨h2, _⟩ := this
      simp at h2
      omega
    subst h0
    rw [List.getElem?_append_right (Nat.le_refl _), Nat.sub_self] at e1
    rw [hl, List.getElem?_append_right (Nat.le_refl _), Nat.sub_self] at e2
    cases e1
    cases e2
    exact h1
section
variable {P : Program} {w : World} {K : PySem.W.Frag} {mg : Str → Option Value} {base : Heap}
theorem ok_TrackD_initD (T : Txt K mg) : FnOk P w K mg base CX0 1 T.Track.init.f T.Track.init.fd ["self", "name"] (spTrackInit T) := by
  refine T.Track.init.F.ok sc_TrackD_initD (fun vs H Q E h => ?_) (fun cdv A outer s H vs Q E hr h => ?_)
  · obtain ⟨x, dx, nm, rfl, _⟩ := h
    rfl
  · obtain ⟨x, dx, nm, rfl, hx, k⟩ := h
    refine ⟨_, (pss_cons (ps_fld (pv 0) (pv 1) rfl) (pss_one (ps_fld (pv 0) pe_dnewK rfl))), ?_⟩
    refine ⟨_, rfl, _, rfl, x, _, dx, _, rfl, hx, T.Track.cl, T.Track.na 0 _ rfl, by decide, ?_⟩
    refine fun d nd => ⟨_, rfl, x, _, dx, putF "name" (.str nm) [], rfl, upd_old upd_same nd, T.Track.cl, T.Track.na 1 _ rfl, by show 1 < 1000; decide, ?_⟩
    have ne : d ≠ x := fun q => by rw [q, upd_same] at nd; cases nd
    refine k _ d (((Keep.refl _ _).put1.new nd).put1) ?_ ?_
    · rw [upd_ne ne] at nd; exact nd
    · rw [pnTrack_name, pnTrack_own_loops]
      exact ⟨⟨dx, upd_same⟩, by rw [upd_ne ne]; exact upd_same, rfl⟩
theorem ok_Reader_read_track (T : Txt K mg) : FnOk P w K mg base CX0 5 T.Reader.d_Reader_read_track.f T.Reader.d_Reader_read_track.fd ["self", "row"] (spReadTrack T) := by
  refine T.Reader.d_Reader_read_track.F.ok sc_Reader_read_track (fun vs H Q E h => ?_) (fun cdv A outer s H vs Q E hr h => ?_)
  · obtain ⟨c, bar, p, w, nm, l, r, loops, rest1, ts, as, xs, ps, rfl, _⟩ := h
    rfl
  · obtain ⟨c, bar, p, w, nm, l, r, loops, rest1, ts, as, xs, ps, rfl, hc, hp, hnm, nnm, l4, hR, hne, hdt, las, hlr, lx, hL, nal, k⟩ := h
    refine ⟨_, (pss_cons (ps_expr (pe_methO nmReader_want (pe_meth (pe_mono (pv 0)) T.Reader.cl T.Reader.m_Reader_want (ok_Reader_want T) (hr.mono (by decide)) T.Reader.d_Reader_want.b .nil pass0 (pa_cons (pe_and (pe_cmpR op_eq (pe_callB call_len (by rfl) T.c.z_len (by decide +kernel) (pa_cons (pv 1) pa_nil)) pe_int (nomark _)) (pe_and (pe_call (ok_is_name T) (hr.mono (by decide)) rfl T.g_is_name T.d_is_name.F.kp T.d_is_name.b .nil pass0 (pa_cons (pe_ix ix_list (pv 1) pe_int (fun _ _ => rfl)) pa_nil)) (pe_one (pe_cmp (pc_dnotin (hu_of hr) (pe_ix ix_list (pv 1) pe_int (fun _ _ => rfl)) (pe_get (frReader_own_tracks T) (pv 0))) rfl)))) pa_nil)))) (pss_cons (ps_expr (pe_methO nmReader_want (pe_meth (pe_mono (pv 0)) T.Reader.cl T.Reader.m_Reader_want (ok_Reader_want T) (hr.mono (by decide)) T.Reader.d_Reader_want.b .nil pass0 (pa_cons (pe_cmpR op_lt (pe_callB call_lenD (by rfl) T.c.z_len (by decide +kernel) (pa_cons (pe_get (frReader_own_tracks T) (pv 0)) pa_nil)) (pe_gc rfl T.c.g_MOST_TRACKS) (nomark _)) pa_nil)))) (pss_cons (ps_set (i := 2) sc_Reader_read_track.nd rfl (Or.inl rfl) (pe_make T.Track.made (ok_TrackD_initD T) (hr.mono (by decide)) rfl T.Track.gC T.Track.init.b .nil pass0 (pa_cons (pe_ix ix_list (pv 1) pe_int (fun _ _ => rfl)) pa_nil))) (pss_cons (ps_dput (hu_of hr) (pe_get (frReader_own_tracks T) (pv 0)) (pe_get (frTrack_name T) (pv 2)) (pv 2) rfl) (pss_cons (ps_augF (frReader_at T) (pv 0) pe_int in_add) (pss_cons (ps_while PassesOwn.never (pt_mono (pt_cmp (pc_notN (pe_methO nmReader_headed (pe_meth (pe_mono (pv 0)) T.Reader.cl T.Reader.m_Reader_headed (ok_Reader_headed T) (hr.mono (by decide)) T.Reader.d_Reader_headed.b .nil pass0 (pa_cons pe_int (pa_cons (pe_gc rfl T.c.g_LOOP) pa_nil))))))) (pss_one (ps_expr (pe_methO nmReader_read_loop (pe_meth (pe_mono (pv 0)) T.Reader.cl T.Reader.m_Reader_read_loop (ok_Reader_read_loop T) (hr.mono (by decide)) T.Reader.d_Reader_read_loop.b .nil pass0 (pa_cons (pe_methO nmReader_row (pe_meth (pe_mono (pv 0)) T.Reader.cl T.Reader.m_Reader_row (ok_Reader_row T) (hr.mono (by decide)) T.Reader.d_Reader_row.b .nil pass0 (pa_cons pe_int pa_nil))) (pa_cons (pv 2) pa_nil))))))) (pss_one (ps_expr (pe_methO nmReader_want (pe_meth (pe_mono (pv 0)) T.Reader.cl T.Reader.m_Reader_want (ok_Reader_want T) (hr.mono (by decide)) T.Reader.d_Reader_want.b .nil pass0 (pa_cons (pe_cmpR (op_neDK hr.units0) (pe_get (frTrack_own_loops T) (pv 2)) pe_dnewK (nomark _)) pa_nil))))))))))), ?_⟩
    have hc' := hc
    obtain ⟨pre, epre, ha, hal, sl⟩ := hc
    obtain ⟨dxa, ea⟩ := ha
    have ha : AtReader T H c.a ⟨.ref c.al, .int (pre.length : Int), .ref c.dt, .ref c.db, .int (bar : Int), .ref c.lr⟩ := ⟨dxa, ea⟩
    -- the first want
    refine ⟨_, rfl, c.a, _, rfl, ha, ?_⟩
    refine ⟨_, rfl, _, _, rfl, .inl ⟨_, .inl (.inl hp), rfl⟩, rfl, _, rfl, ?_⟩
    refine ifT rfl ?_
    refine ⟨_, rfl, p, _, _, V.str nm, rfl, rfl, .inl (.inl hp), atI_nat rfl, V.str nm, .str nm, rfl, .str nm, (fun s e => by cases e; show nm.length ≤ 100000; exact Nat.le_trans (nameOk_short hnm) (by decide)), fun H1 s1 => ?_⟩
    have hp1 := s1 _ _ hp
    have ha1 := ha.same s1
    have hdt1 := s1 _ _ hdt
    refine ⟨true, by show V.bl (nameOk nm) = _; rw [hnm], ?_⟩
    refine ifT rfl ?_
    refine ⟨_, rfl, p, _, _, V.str nm, rfl, rfl, .inl (.inl hp1), atI_nat rfl, _, rfl, c.a, _, rfl, ha1, c.dt, _, rfl, DGet.k (k := Sum.inr nm) hdt1, c.a, ?_, ?_⟩
    · show [V.ref c.a, V.bl (!(valV (kvN (·.name) ts as) (Sum.inr nm)).isSome)] = _
      rw [valV_no nnm]
      rfl
    refine ⟨_, rfl, c.a, _, rfl, ha1, _, rfl, c.a, _, rfl, ha1, c.dt, _, rfl, hdt1, _, _, rfl, rfl, c.a, ?_, ?_⟩
    · show [V.ref c.a, V.bl (decide (((kvN (·.name) ts as).length : Int) < 4))] = _
      rw [kvN_len las, dT (by omega)]
    -- the track
    refine ⟨_, rfl, p, _, _, V.str nm, rfl, rfl, .inl (.inl hp1), atI_nat rfl, fun t dx nt ndx ne => ⟨t, dx, nm, rfl, upd_same, fun H2 d k2 nd hT => ⟨rfl, ?_⟩⟩⟩
    have s2 := make_keep nt ndx k2
    have nt0 : H t = none := s1.fresh nt
    have n1 : d ≠ t := fun q => by rw [q, upd_same] at nd; cases nd
    rw [upd_ne n1] at nd
    have n2 : d ≠ dx := fun q => by rw [q, upd_same] at nd; cases nd
    rw [upd_ne n2] at nd
    have nd0 : H d = none := s1.fresh nd
    have s02 := s1.trans s2
    have dt2 := s02 _ _ hdt
    obtain ⟨at2, ad2, _⟩ := hT
    refine ⟨_, rfl, _, rfl, c.a, _, rfl, ha.same s02, _, rfl, t, _, rfl, at2, c.dt, _, rfl, DPut.k (k := Sum.inr nm) dt2 (by rw [kvN_len las]; exact lt_line (by omega)), ?_⟩
    rw [putK_new (valV_no nnm)]
    have nad : c.a ≠ c.dt := ne_of ea hdt (by intro z; cases z)
    have nlrd : c.lr ≠ c.dt := ne_of hlr hdt (by intro z; cases z)
    have nald : c.al ≠ c.dt := ne_of hal hdt (by intro z; cases z)
    have nla : c.lr ≠ c.a := ne_of hlr ea (by intro z; cases z)
    have nala : c.al ≠ c.a := ne_of hal ea (by intro z; cases z)
    have ntd : t ≠ c.dt := fun q => by rw [q, hdt] at nt0; cases nt0
    have nta : t ≠ c.a := fun q => by rw [q, ea] at nt0; cases nt0
    have ndd : d ≠ c.dt := fun q => by rw [q, hdt] at nd0; cases nd0
    have nda : d ≠ c.a := fun q => by rw [q, ea] at nd0; cases nd0
    have NT3 : NT [c.a, c.lr, c.dt] H := by
      intro z hz u e
      simp at hz
      rcases hz with rfl | rfl | rfl
      · rw [ea] at e; cases e; rfl
      · rw [hlr] at e; cases e; rfl
      · rw [hdt] at e; cases e; rfl
    have k3 : Keep [c.a, c.lr, c.dt] H (upd H2 c.dt (.dK (kvN (·.name) ts as ++ [(Sum.inr nm, V.ref t)]))) := (Keep.of _ s02).put (by simp)
    have a3 := (ha.same s02).put (u := .dK (kvN (·.name) ts as ++ [(Sum.inr nm, V.ref t)])) nad
    have al3 := upd_get (u := .dK (kvN (·.name) ts as ++ [(Sum.inr nm, V.ref t)])) (s02 _ _ hal) nald
    have lr3 := upd_get (u := .dK (kvN (·.name) ts as ++ [(Sum.inr nm, V.ref t)])) (s02 _ _ hlr) nlrd
    have t3 := at2.put (u := .dK (kvN (·.name) ts as ++ [(Sum.inr nm, V.ref t)])) ntd
    have d3 := upd_get (u := .dK (kvN (·.name) ts as ++ [(Sum.inr nm, V.ref t)])) ad2 ndd
    have dt3 : upd H2 c.dt (.dK (kvN (·.name) ts as ++ [(Sum.inr nm, V.ref t)])) c.dt = some (.dK (kvN (·.name) ts as ++ [(Sum.inr nm, V.ref t)])) := upd_same
    generalize upd H2 c.dt (.dK (kvN (·.name) ts as ++ [(Sum.inr nm, V.ref t)])) = H3 at *
    refine ⟨_, rfl, c.a, _, rfl, a3, _, _, rfl, rfl, _, a3, fun H4 a4 k4 => ?_⟩
    have kk4 : Keep [c.a, c.lr, c.dt] H H4 := k3.but k4 (by simp)
    refine while_ix (fun m σ H5 => ∃ (rest : List Str) (ls : List LoopM) (bs : List Addr) (ys : List V), m = rest.length ∧ σ = [some (.ref c.a), some (.ref p), some (.ref t)] ∧ RdS T H5 c rest bar ∧ Keep [c.a, c.lr, c.dt] H H5 ∧
      H5 c.dt = some (.dK (kvN (·.name) ts as ++ [(Sum.inr nm, V.ref t)])) ∧ TrkP T H5 t d nm ls bs ∧ LoopsR ls rest loops rest1 ∧ (∀ (i : Nat) b L, bs[i]? = some b → ls[i]? = some L → LoopAt T H H5 b L) ∧
      H5 c.lr = some (.lst ys) ∧ ys.length ≤ xs.length + ls.length ∧ LaterP H5 ys (ps ++ ls.map fun L => (t, L.then_)) ∧ ls.length ≤ 3) r.length ⟨r, [], [], xs, rfl, rfl, ?_, kk4, ?_, ⟨t3.but k4 nta, ?_, rfl⟩, hR, fun i b L e => by simp at e, ?_, by simp, ?_, by simp⟩ ?_
    · exact ⟨pre ++ [l], by rw [epre]; simp, by rw [List.length_append]; exact a4, by rw [k4.off c.al nala]; exact al3, sl⟩
    · rw [k4.off c.dt nad.symm]; exact dt3
    · rw [k4.off d nda]; exact d3
    · rw [k4.off c.lr nla]; exact lr3
    · exact (hL.keep kk4 NT3).sub (by simp)
    · rintro m σ H5 ⟨rest, ls, bs, ys, rfl, rfl, R5, k5, dt5, T5, hR5, L5, lr5, ly5, P5, l35⟩
      have R5' := R5
      obtain ⟨pre5, ep5, a5, al5, _⟩ := R5'
      refine ⟨_, rfl, c.a, _, rfl, a5, c, rest, bar, 1, "loop", rfl, R5, by decide, ?_⟩
      cases hR5 with
      | stop e =>
        rw [show 2 * 1 = 2 from rfl, e]
        intro H6 s6
        refine ⟨_, rfl, ?_⟩
        refine ifF rfl ?_
        have a6 := a5.same s6
        have T6 := T5.same s6
        refine ⟨_, rfl, c.a, _, rfl, a6, _, rfl, t, _, rfl, T6.1, fun e he => ?_⟩
        have s7 : Same H5 (upd H6 e (.dK [])) := s6.new he
        refine ⟨d, e, _, [], rfl, rfl, (s7 _ _ T5.2.1), upd_same, .inl ⟨?_, c.a, rfl, ?_⟩⟩
        · rw [kvN_len T5.2.2]
          cases loops with
          | nil => exact absurd rfl hne
          | cons a b => simp
        refine k _ t ys (k5.same s7) (R5.same s7) ?_ ⟨d, bs, nt0, nd0, T5.same s7, fun i b L e1 e2 => (L5 i b L e1 e2).same s7⟩ (s7 _ _ lr5) (by omega) (P5.same s7)
        rw [kvN_snoc las]
        exact s7 _ _ dt5
      | @step _ l' r' ws L pl rest2 _ _ hhd hw hnm5 hl3 hpl hR6 =>
        rw [show 2 * 1 = 2 from rfl, hhd]
        intro H6 q6 s6 nq6 hq6
        refine ⟨_, rfl, ?_⟩
        refine ifT rfl ?_
        obtain ⟨hrow, _⟩ := headW_row hhd
        refine ⟨_, rfl, c.a, _, rfl, a5.same s6, _, rfl, c.a, _, rfl, a5.same s6, c, l' :: r', bar, 1, rfl, R5.same s6, by decide, ?_⟩
        rw [show 2 * 1 = 2 from rfl, hrow]
        intro H7 q7 s7 nq7 hq7
        have s57 := s6.trans s7
        have T7 := T5.same s57
        obtain ⟨sww, _⟩ := rowW_short hrow ep5 sl
        refine ⟨_, rfl, c, bar, t, d, q7, nm, l', r', ws, ls, bs, L, pl, rest2, ys, _, rfl, R5.same s57, T7, hq7, sww, hw, hnm5, hl3, hpl, s57 _ _ lr5, by omega, P5.same s57, nal, fun H8 x xl zs k8 R8 T8 nx nxl X8 lr8 lz8 P8 => ?_⟩
        have k7 : Keep [c.a, c.lr, c.dt] H H7 := k5.same s57
        have a7 := a5.same s57
        have lr7 := s57 _ _ lr5
        have dt7 := s57 _ _ dt5
        have fr : ∀ b, H7 b = none → H b = none := fun b e => by
          refine k7.free e ?_
          intro q
          simp at q
          rcases q with rfl | rfl | rfl
          · obtain ⟨_, e'⟩ := a7
            rw [e'] at e; cases e
          · rw [lr7] at e; cases e
          · rw [dt7] at e; cases e
        have NT8 : NT [c.a, c.lr, d] H7 := by
          intro z hz u e
          simp at hz
          rcases hz with rfl | rfl | rfl
          · obtain ⟨_, e'⟩ := a7
            rw [e'] at e; cases e; rfl
          · rw [lr7] at e; cases e; rfl
          · rw [T7.2.1] at e; cases e; rfl
        have hn : rest2.length ≤ r'.length := hpl.le
        refine ⟨rest2.length, by simp; omega, rest2, _, _, zs, rfl, rfl, R8, ?_, ?_, T8, hR6, ?_, lr8, by simp; omega, ?_, by simp; omega⟩
        · refine k7.transN k8 ?_
          intro z hz
          simp at hz
          rcases hz with rfl | rfl | rfl
          · exact .inl (by simp)
          · exact .inl (by simp)
          · exact .inr nd0
        · refine k8 _ _ dt7 ?_
          simp [nad.symm, nlrd.symm, ndd.symm]
        · refine snoc_at (P := fun b L => LoopAt T H H8 b L) T5.2.2 (fun i b L e1 e2 => ((L5 i b L e1 e2).same s57).keep k8 NT8 ?_) ?_
          · intro z hz
            simp at hz
            rcases hz with rfl | rfl | rfl
            · exact .inl ⟨_, ea⟩
            · exact .inl ⟨_, hlr⟩
            · exact .inr ⟨_, T7.2.1⟩
          · exact ⟨xl, fr _ nx, fr _ nxl, X8⟩
        · refine P8.sub ?_
          intro z hz
          simp at hz ⊢
          rcases hz with hz | hz | hz
          · exact .inr (.inr hz)
          · exact .inl hz
          · exact .inr (.inl hz)
end
end Ev
end

section
namespace Ev
open PySem PySem.Spec PyProof.Rows L2
/-! ## reading.py, buttons -/
section
variable {K : PySem.W.Frag} {mg : Str → Option Value}
def TracksAt (T : Txt K mg) (H0 H : Hp) (as : List Addr) (ts : List TrackM) : Prop := as.length = ts.length ∧ ∀ (i : Nat) (a : Addr) (M : TrackM), as[i]? = some a → ts[i]? = some M → TrackAt T H0 H a M
theorem TracksAt.same {T : Txt K mg} {H0 H H' : Hp} {as : List Addr} {ts : List TrackM} (h : TracksAt T H0 H as ts) (s : Same H H') : TracksAt T H0 H' as ts := ⟨h.1, fun i a M e1 e2 => (h.2 i a M e1 e2).same s⟩
theorem TracksAt.back {T : Txt K mg} {H0 H1 H : Hp} {as : List Addr} {ts : List TrackM} (h : TracksAt T H1 H as ts) (s : ∀ b, H1 b = none → H0 b = none) : TracksAt T H0 H as ts := ⟨h.1, fun i a M e1 e2 => (h.2 i a M e1 e2).back s⟩
theorem TracksAt.keep {T : Txt K mg} {H0 H H' : Hp} {S : List Addr} {as : List Addr} {ts : List TrackM} (h : TracksAt T H0 H as ts) (k : Keep S H H') (nt : NT S H) (hS : ∀ s ∈ S, ∃ u, H0 s = some u) : TracksAt T H0 H' as ts := ⟨h.1, fun i a M e1 e2 => (h.2 i a M e1 e2).keep k nt hS⟩
/-- what a button does, as a tuple -/
def deedD (x : Str × Str × Str) : PyData := .tuple [.str x.2.1, .str x.2.2]
theorem noL_deed (x : Str × Str × Str) : noL (deedD x) = true := rfl
/-- a button at b, its dict at d -/
def BtnP (T : Txt K mg) (H : Hp) (b d : Addr) (M : ButtonM) (ds : List (Str × Str × Str)) (as : List Addr) : Prop :=
  AtButton T H b ⟨.str M.name, .int (M.quantum : Int), .ref d⟩ ∧ H d = some (.dK (kvN (·.1) ds as)) ∧ as.length = ds.length ∧ ∀ (i : Nat) (a : Addr) x, as[i]? = some a → ds[i]? = some x → Dp K H (.ref a) (deedD x)
def ButtonAt (T : Txt K mg) (H0 H : Hp) (b : Addr) (M : ButtonM) : Prop := ∃ d as, H0 b = none ∧ H0 d = none ∧ BtnP T H b d M M.deeds as
theorem BtnP.same {T : Txt K mg} {H H' : Hp} {b d : Addr} {M : ButtonM} {ds : List (Str × Str × Str)} {as : List Addr} (h : BtnP T H b d M ds as) (s : Same H H') : BtnP T H' b d M ds as :=
  ⟨h.1.same s, s _ _ h.2.1, h.2.2.1, fun i a x e1 e2 => s.dp (h.2.2.2 i a x e1 e2)⟩
theorem ButtonAt.same {T : Txt K mg} {H0 H H' : Hp} {b : Addr} {M : ButtonM} (h : ButtonAt T H0 H b M) (s : Same H H') : ButtonAt T H0 H' b M := by
  obtain ⟨d, as, n1, n2, h⟩ := h
  exact ⟨d, as, n1, n2, h.same s⟩
theorem ButtonAt.back {T : Txt K mg} {H0 H1 H : Hp} {b : Addr} {M : ButtonM} (h : ButtonAt T H1 H b M) (s : ∀ b, H1 b = none → H0 b = none) : ButtonAt T H0 H b M := by
  obtain ⟨d, as, n1, n2, h⟩ := h
  exact ⟨d, as, s _ n1, s _ n2, h⟩
theorem ButtonAt.keep {T : Txt K mg} {H0 H H' : Hp} {S : List Addr} {b : Addr} {M : ButtonM} (h : ButtonAt T H0 H b M) (k : Keep S H H') (nt : NT S H) (hS : ∀ s ∈ S, ∃ u, H0 s = some u) : ButtonAt T H0 H' b M := by
  obtain ⟨d, as, n1, n2, ⟨dx, h1⟩, h2, h3, h4⟩ := h
  refine ⟨d, as, n1, n2, ⟨dx, k _ _ h1 fun q => ?_⟩, k _ _ h2 fun q => ?_, h3, fun i a x e1 e2 => dp_keep k nt (h4 i a x e1 e2) (noL_deed x)⟩
  · obtain ⟨u, hu⟩ := hS _ q
    rw [n1] at hu; cases hu
  · obtain ⟨u, hu⟩ := hS _ q
    rw [n2] at hu; cases hu
def ButtonsAt (T : Txt K mg) (H0 H : Hp) (as : List Addr) (bs : List ButtonM) : Prop := as.length = bs.length ∧ ∀ (i : Nat) (a : Addr) (M : ButtonM), as[i]? = some a → bs[i]? = some M → ButtonAt T H0 H a M
theorem ButtonsAt.same {T : Txt K mg} {H0 H H' : Hp} {as : List Addr} {bs : List ButtonM} (h : ButtonsAt T H0 H as bs) (s : Same H H') : ButtonsAt T H0 H' as bs := ⟨h.1, fun i a M e1 e2 => (h.2 i a M e1 e2).same s⟩
theorem ButtonsAt.back {T : Txt K mg} {H0 H1 H : Hp} {as : List Addr} {bs : List ButtonM} (h : ButtonsAt T H1 H as bs) (s : ∀ b, H1 b = none → H0 b = none) : ButtonsAt T H0 H as bs := ⟨h.1, fun i a M e1 e2 => (h.2 i a M e1 e2).back s⟩
theorem ButtonsAt.keep {T : Txt K mg} {H0 H H' : Hp} {S : List Addr} {as : List Addr} {bs : List ButtonM} (h : ButtonsAt T H0 H as bs) (k : Keep S H H') (nt : NT S H) (hS : ∀ s ∈ S, ∃ u, H0 s = some u) : ButtonsAt T H0 H' as bs := ⟨h.1, fun i a M e1 e2 => (h.2 i a M e1 e2).keep k nt hS⟩
end
theorem DeedW.shape {ts : List TrackM} {row : List Str} {d : Str × Str × Str} (h : DeedW ts row d) : ∃ tl, row = d.1 :: d.2.1 :: tl ∧ (tl = [] ∧ d.2.2 = "" ∨ tl = [d.2.2]) := by
  cases h with
  | stops => exact ⟨[], rfl, .inl ⟨rfl, rfl⟩⟩
  | begins _ _ _ _ => exact ⟨_, rfl, .inr rfl⟩
def spIsDeed {K : PySem.W.Frag} {mg : Str → Option Value} (T : Txt K mg) : Sp := fun vs H Q _ => ∃ (c : RC) (o : OReader) (p : Addr) (row : List Str) (d : Str × Str × Str) (ts : List TrackM) (as : List Addr) (H0 : Hp),
  vs = [.ref c.a, .ref p] ∧ AtReader T H c.a o ∧ o.own_tracks = .ref c.dt ∧ H p = some (.lst (row.map V.str)) ∧ DeedW ts row d ∧ H c.dt = some (.dK (kvN (·.name) ts as)) ∧ (ts.map (·.name)).Nodup ∧ TracksAt T H0 H as ts ∧
  ∀ H', Same H H' → Q (.bl true) H'
def spButtonInit {K : PySem.W.Frag} {mg : Str → Option Value} (T : Txt K mg) : Sp := fun vs H Q _ => ∃ (x dx : Addr) (nm : Str) (q : Nat), vs = [.ref x, .str nm, .int (q : Int)] ∧ H x = some (.ins T.Button.C dx []) ∧
  ∀ H' d, Keep [x] H H' → H d = none → BtnP T H' x d ⟨nm, q, []⟩ [] [] → Q .non H'
def spReadButton {K : PySem.W.Frag} {mg : Str → Option Value} (T : Txt K mg) : Sp := fun vs H Q _ => ∃ (c : RC) (bar : Nat) (p : Addr) (w nm qw l : Str) (r : List Str) (q : Nat) (bs : List ButtonM) (bas : List Addr) (ts : List TrackM) (tas : List Addr) (ds : List (Str × Str × Str)) (rest1 : List Str) (H0 : Hp),
  vs = [.ref c.a, .ref p] ∧ RdS T H c (l :: r) bar ∧ H p = some (.lst ([w, nm, "every", qw].map V.str)) ∧ shortS qw ∧ nameOk nm = true ∧ numIn qw = (q : Int) ∧ 1 ≤ q ∧ q ≤ 12 ∧ nm ∉ bs.map (·.name) ∧ bs.length < 5 ∧ Nat.lcm bar q ≤ 12 ∧ 1 ≤ bar ∧ bar ≤ 12 ∧
  DeedsR ts (ts.map (·.name)) [] r ds rest1 ∧ H c.db = some (.dK (kvN (·.name) bs bas)) ∧ bas.length = bs.length ∧ H c.dt = some (.dK (kvN (·.name) ts tas)) ∧ (ts.map (·.name)).Nodup ∧ ts.length ≤ 4 ∧ TracksAt T H0 H tas ts ∧ c.db ≠ c.dt ∧ (∃ u, H0 c.a = some u) ∧ (∃ u, H0 c.db = some u) ∧
  ∀ H' b, Keep [c.a, c.db] H H' → RdS T H' c rest1 (Nat.lcm bar q) → H' c.db = some (.dK (kvN (·.name) (bs ++ [⟨nm, q, ds⟩]) (bas ++ [b]))) → ButtonAt T H H' b ⟨nm, q, ds⟩ → Q .non H'
section
variable {P : Program} {w : World} {K : PySem.W.Frag} {mg : Str → Option Value} {base : Heap}
theorem ok_Reader_is_deed (T : Txt K mg) : FnOk P w K mg base CX0 1 T.Reader.d_Reader_is_deed.f T.Reader.d_Reader_is_deed.fd ["self", "row"] (spIsDeed T) := by
  refine T.Reader.d_Reader_is_deed.F.ok sc_Reader_is_deed (fun vs H Q E h => ?_) (fun cdv A outer s H vs Q E hr h => ?_)
  · obtain ⟨c, o, p, row, d, ts, as, H0, rfl, _⟩ := h
    rfl
  · obtain ⟨c, o, p, row, d, ts, as, H0, rfl, ha, eo, hp, hw, hdt, nd, hT, k⟩ := h
    refine ⟨_, (pss_cons (ps_if (pt_cmpR op_eq (pe_callB call_len (by rfl) T.c.z_len (by decide +kernel) (pa_cons (pv 1) pa_nil)) pe_int (nomark _)) (pss_one (ps_ret (pe_cmpR op_eq (pe_ix ix_list (pv 1) pe_int (fun _ _ => rfl)) (pe_gc rfl T.c.g_STOPS) (nomark _)))) pss_nil) (pss_one (ps_ret (pe_and (pe_cmpR op_eq (pe_callB call_len (by rfl) T.c.z_len (by decide +kernel) (pa_cons (pv 1) pa_nil)) pe_int (nomark _)) (pe_and (pe_cmpR op_in_seq (pe_ix ix_list (pv 1) pe_int (fun _ _ => rfl)) (pe_tup (pa_cons (pe_gc rfl T.c.g_PLAYS) (pa_cons (pe_gc rfl T.c.g_KEEPS) pa_nil))) rfl) (pe_one (pe_cmp (pc_din (hu_of hr) (pe_ix ix_list (pv 1) pe_int (fun _ _ => rfl)) (pe_get (frTrack_own_loops T) (pe_dget (hu_of hr) (pe_get (frReader_own_tracks T) (pv 0)) (pe_ix ix_list (pv 1) pe_int (fun _ _ => rfl)) (fun _ _ => rfl)))) rfl))))))), ?_⟩
    refine ⟨_, rfl, _, _, rfl, .inl ⟨_, .inl (.inl hp), rfl⟩, rfl, _, rfl, ?_⟩
    cases hw with
    | @stops t =>
      refine ifT rfl ?_
      exact ⟨_, rfl, p, _, _, V.str "stops", rfl, rfl, .inl (.inl hp), atI_nat rfl, rfl, k _ (Same.refl _)⟩
    | @begins t w lp tm ew hm htm hlp =>
      refine ifF rfl ?_
      refine ⟨_, rfl, _, _, rfl, .inl ⟨_, .inl (.inl hp), rfl⟩, rfl, true, rfl, ?_⟩
      refine ifT rfl ?_
      refine ⟨_, rfl, p, _, _, V.str w, rfl, rfl, .inl (.inl hp), atI_nat rfl, by show 2 ≤ sizeLine; exact le_line (by omega), fun tp htp => ?_⟩
      have s1 : Same H (upd H tp (.tup [.str "plays", .str "keeps"])) := same_upd htp
      refine ⟨tp, _, rfl, .inr (.inl (.inl upd_same)), rfl, rfl, true, ?_, ?_⟩
      · show V.bl (inV (.str w) ((["plays", "keeps"] : List Str).map V.str)) = _
        rw [inV_str]
        rcases ew with rfl | rfl <;> decide +kernel
      refine ifT rfl ?_
      subst htm
      obtain ⟨i, hi, ei⟩ := List.mem_iff_getElem.mp hm
      have e1 : ts[i]? = some tm := by rw [List.getElem?_eq_getElem hi, ei]
      have hl := hT.1
      have e2 : as[i]? = some (as[i]'(by omega)) := List.getElem?_eq_getElem (by omega)
      obtain ⟨d2, as2, _, _, ⟨at2, ad2, al2⟩, _⟩ := hT.2 i _ tm e2 e1
      refine ⟨_, rfl, p, _, _, V.str lp, rfl, rfl, .inl (.inl (s1 _ _ hp)), atI_nat rfl, ?_⟩
      refine ⟨_, rfl, c.a, o, rfl, ha.same s1, ?_⟩
      rw [eo]
      refine ⟨_, rfl, p, _, _, V.str tm.name, rfl, rfl, .inl (.inl (s1 _ _ hp)), atI_nat rfl, c.dt, .ref (as[i]'(by omega)), rfl, ?_, _, _, rfl, at2.same s1, d2, _, rfl, DGet.k (k := Sum.inr lp) (s1 _ _ ad2), ?_⟩
      · have g := DGet.k (k := Sum.inr tm.name) (s1 _ _ hdt)
        rw [valV_at nd e1 e2] at g
        exact g
      · have hs : (valV (kvN (·.name) tm.loops as2) (Sum.inr lp)).isSome = true := valV_yes al2 hlp
        rw [hs]
        exact k _ s1
theorem ok_ButtonD_initD (T : Txt K mg) : FnOk P w K mg base CX0 1 T.Button.init.f T.Button.init.fd ["self", "name", "quantum"] (spButtonInit T) := by
  refine T.Button.init.F.ok sc_ButtonD_initD (fun vs H Q E h => ?_) (fun cdv A outer s H vs Q E hr h => ?_)
  · obtain ⟨x, dx, nm, q, rfl, _⟩ := h
    rfl
  · obtain ⟨x, dx, nm, q, rfl, hx, k⟩ := h
    refine ⟨_, (pss_cons (ps_fld (pv 0) (pv 1) rfl) (pss_cons (ps_fld (pv 0) (pv 2) rfl) (pss_one (ps_fld (pv 0) pe_dnewK rfl)))), ?_⟩
    refine ⟨_, rfl, _, rfl, x, _, dx, _, rfl, hx, T.Button.cl, T.Button.na 0 _ rfl, by decide, ?_⟩
    refine ⟨_, rfl, _, rfl, x, _, dx, _, rfl, upd_same, T.Button.cl, T.Button.na 1 _ rfl, by show 1 < 1000; decide, ?_⟩
    refine fun d nd => ⟨_, rfl, x, _, dx, putF "quantum" (.int (q : Int)) (putF "name" (.str nm) []), rfl, upd_old upd_same nd, T.Button.cl, T.Button.na 2 _ rfl, by show 2 < 1000; decide, ?_⟩
    have ne : d ≠ x := fun q => by rw [q, upd_same] at nd; cases nd
    refine k _ d ((((Keep.refl _ _).put1.put1).new nd).put1) ?_ ?_
    · rw [upd_ne ne, upd_ne ne] at nd; exact nd
    · rw [pnButton_name, pnButton_quantum, pnButton_deeds]
      exact ⟨⟨dx, upd_same⟩, by rw [upd_ne ne]; exact upd_same, rfl, fun i a x e => by simp at e⟩
theorem ok_Reader_read_button (T : Txt K mg) : FnOk P w K mg base CX0 3 T.Reader.d_Reader_read_button.f T.Reader.d_Reader_read_button.fd ["self", "row"] (spReadButton T) := by
  refine T.Reader.d_Reader_read_button.F.ok sc_Reader_read_button (fun vs H Q E h => ?_) (fun cdv A outer s H vs Q E hr h => ?_)
  · obtain ⟨c, bar, p, w, nm, qw, l, r, q, bs, bas, ts, tas, ds, rest1, H0, rfl, _⟩ := h
    rfl
  · obtain ⟨c, bar, p, w, nm, qw, l, r, q, bs, bas, ts, tas, ds, rest1, H0, rfl, hc, hp, sqw, hnm, hq, q1, q12, nnm, l5, hlcm, bar1, bar12, hR, hdb, lbs, hdt, ndt, lt4, hT, ndbt, d0a, d0b, k⟩ := h
    refine ⟨_, (pss_cons (ps_expr (pe_methO nmReader_want (pe_meth (pe_mono (pv 0)) T.Reader.cl T.Reader.m_Reader_want (ok_Reader_want T) (hr.mono (by decide)) T.Reader.d_Reader_want.b .nil pass0 (pa_cons (pe_and (pe_cmpR op_eq (pe_callB call_len (by rfl) T.c.z_len (by decide +kernel) (pa_cons (pv 1) pa_nil)) pe_int (nomark _)) (pe_and (pe_call (ok_is_name T) (hr.mono (by decide)) rfl T.g_is_name T.d_is_name.F.kp T.d_is_name.b .nil pass0 (pa_cons (pe_ix ix_list (pv 1) pe_int (fun _ _ => rfl)) pa_nil)) (pe_one (pe_cmpR op_eq (pe_ix ix_list (pv 1) pe_int (fun _ _ => rfl)) (pe_gc rfl T.c.g_EVERY) (nomark _))))) pa_nil)))) (pss_cons (ps_set (i := 2) sc_Reader_read_button.nd rfl (Or.inl rfl) (pe_call (ok_number_in T) (hr.mono (by decide)) rfl T.g_number_in T.d_number_in.F.kp T.d_number_in.b .nil pass0 (pa_cons (pe_ix ix_list (pv 1) pe_int (fun _ _ => rfl)) pa_nil))) (pss_cons (ps_expr (pe_methO nmReader_want (pe_meth (pe_mono (pv 0)) T.Reader.cl T.Reader.m_Reader_want (ok_Reader_want T) (hr.mono (by decide)) T.Reader.d_Reader_want.b .nil pass0 (pa_cons (pe_and (pe_chain op_le op_le pe_int (pv 2) (pe_gc rfl T.c.g_MOST_BAR)) (pe_and (pe_cmp (pc_dnotin (hu_of hr) (pe_ix ix_list (pv 1) pe_int (fun _ _ => rfl)) (pe_get (frReader_own_buttons T) (pv 0))) rfl) (pe_one (pe_cmpR op_lt (pe_callB call_lenD (by rfl) T.c.z_len (by decide +kernel) (pa_cons (pe_get (frReader_own_buttons T) (pv 0)) pa_nil)) (pe_gc rfl T.c.g_MOST_BUTTONS) (nomark _))))) pa_nil)))) (pss_cons (ps_expr (pe_methO nmReader_want (pe_meth (pe_mono (pv 0)) T.Reader.cl T.Reader.m_Reader_want (ok_Reader_want T) (hr.mono (by decide)) T.Reader.d_Reader_want.b .nil pass0 (pa_cons (pe_cmpR op_le (pe_call (ok_common_multiple T) (hr.mono (by decide)) rfl T.g_common_multiple T.d_common_multiple.F.kp T.d_common_multiple.b .nil pass0 (pa_cons (pe_get (frReader_own_bar T) (pv 0)) (pa_cons (pv 2) pa_nil))) (pe_gc rfl T.c.g_MOST_BAR) (nomark _)) pa_nil)))) (pss_cons (ps_put (frReader_own_bar T) (pv 0) (pe_call (ok_common_multiple T) (hr.mono (by decide)) rfl T.g_common_multiple T.d_common_multiple.F.kp T.d_common_multiple.b .nil pass0 (pa_cons (pe_get (frReader_own_bar T) (pv 0)) (pa_cons (pv 2) pa_nil)))) (pss_cons (ps_set (i := 3) sc_Reader_read_button.nd rfl (Or.inl rfl) (pe_make T.Button.made (ok_ButtonD_initD T) (hr.mono (by decide)) rfl T.Button.gC T.Button.init.b .nil pass0 (pa_cons (pe_ix ix_list (pv 1) pe_int (fun _ _ => rfl)) (pa_cons (pv 2) pa_nil)))) (pss_cons (ps_dput (hu_of hr) (pe_get (frReader_own_buttons T) (pv 0)) (pe_get (frButton_name T) (pv 3)) (pv 3) rfl) (pss_cons (ps_augF (frReader_at T) (pv 0) pe_int in_add) (pss_cons (ps_set (i := 4) sc_Reader_read_button.nd rfl (Or.inl rfl) (pe_callTy (call_list_dK rfl) (by rfl) T.c.z_list (by decide +kernel) (pa_cons (pe_get (frReader_own_tracks T) (pv 0)) pa_nil))) (pss_one (ps_while PassesOwn.never (pt_mono (pt_cmp (pc_notN (pe_methO nmReader_row (pe_meth (pe_mono (pv 0)) T.Reader.cl T.Reader.m_Reader_row (ok_Reader_row T) (hr.mono (by decide)) T.Reader.d_Reader_row.b .nil pass0 (pa_cons pe_int pa_nil)))))) (pss_cons (ps_set (i := 1) sc_Reader_read_button.nd rfl (Or.inl rfl) (pe_methO nmReader_row (pe_meth (pe_mono (pv 0)) T.Reader.cl T.Reader.m_Reader_row (ok_Reader_row T) (hr.mono (by decide)) T.Reader.d_Reader_row.b .nil pass0 (pa_cons pe_int pa_nil)))) (pss_cons (ps_expr (pe_methO nmReader_want (pe_meth (pe_mono (pv 0)) T.Reader.cl T.Reader.m_Reader_want (ok_Reader_want T) (hr.mono (by decide)) T.Reader.d_Reader_want.b .nil pass0 (pa_cons (pe_and (pe_cmpR op_in_seq (pe_ix ix_list (pv 1) pe_int (fun _ _ => rfl)) (pv 4) rfl) (pe_one (pe_methO nmReader_is_deed (pe_meth (pe_mono (pv 0)) T.Reader.cl T.Reader.m_Reader_is_deed (ok_Reader_is_deed T) (hr.mono (by decide)) T.Reader.d_Reader_is_deed.b .nil pass0 (pa_cons (pv 1) pa_nil))))) pa_nil)))) (pss_cons (ps_dput (hu_of hr) (pe_get (frButton_deeds T) (pv 3)) (pe_ix ix_list (pv 1) pe_int (fun _ _ => rfl)) (pe_tup (pa_cons (pe_ix ix_list (pv 1) pe_int (fun _ _ => rfl)) (pa_cons (pe_mono (pe_ifExp (pt_cmpR op_gt (pe_callB call_len (by rfl) T.c.z_len (by decide +kernel) (pa_cons (pv 1) pa_nil)) pe_int (nomark _)) (pe_ix ix_list (pv 1) pe_int (fun _ _ => rfl)) pe_str)) pa_nil))) rfl) (pss_cons (ps_set (i := 4) sc_Reader_read_button.nd rfl (Or.inl rfl) (pe_slice sl_list (pv 4) (po_some (pe_op op_add (pe_bm PySem.F.plainAttrs_list PySem.F.slot_list_index PySem.F.type_list_index mt_index (pv 4) (pa_cons (pe_ix ix_list (pv 1) pe_int (fun _ _ => rfl)) pa_nil)) pe_int)) po_none)) (pss_one (ps_augF (frReader_at T) (pv 0) pe_int in_add))))))))))))))))), ?_⟩
    have hc' := hc
    obtain ⟨pre, epre, ha, hal, sl⟩ := hc
    obtain ⟨dxa, ea⟩ := ha
    have ha : AtReader T H c.a ⟨.ref c.al, .int (pre.length : Int), .ref c.dt, .ref c.db, .int (bar : Int), .ref c.lr⟩ := ⟨dxa, ea⟩
    -- the wants
    refine ⟨_, rfl, c.a, _, rfl, ha, ?_⟩
    refine ⟨_, rfl, _, _, rfl, .inl ⟨_, .inl (.inl hp), rfl⟩, rfl, _, rfl, ?_⟩
    refine ifT rfl ?_
    refine ⟨_, rfl, p, _, _, V.str nm, rfl, rfl, .inl (.inl hp), atI_nat rfl, V.str nm, .str nm, rfl, .str nm, (fun s e => by cases e; show nm.length ≤ 100000; exact Nat.le_trans (nameOk_short hnm) (by decide)), fun H1 s1 => ?_⟩
    refine ⟨true, by show V.bl (nameOk nm) = _; rw [hnm], ?_⟩
    refine ifT rfl ?_
    refine ⟨_, rfl, p, _, _, V.str "every", rfl, rfl, .inl (.inl (s1 _ _ hp)), atI_nat rfl, rfl, c.a, rfl, ?_⟩
    refine ⟨_, rfl, p, _, _, V.str qw, rfl, rfl, .inl (.inl (s1 _ _ hp)), atI_nat rfl, qw, rfl, sqw, fun H2 s2' => ?_⟩
    have s2 := s1.trans s2'
    rw [hq]
    refine ⟨_, rfl, c.a, _, rfl, ha.same s2, ?_⟩
    refine ⟨_, rfl, _, _, rfl, rfl, _, rfl, ?_⟩
    refine ifT (dT (by omega)) ⟨_, _, rfl, rfl, _, rfl, ?_⟩
    refine ifT (dT (by omega)) ?_
    refine ⟨_, rfl, p, _, _, V.str nm, rfl, rfl, .inl (.inl (s2 _ _ hp)), atI_nat rfl, _, rfl, c.a, _, rfl, ha.same s2, c.db, _, rfl, DGet.k (k := Sum.inr nm) (s2 _ _ hdb), true, ?_, ?_⟩
    · show V.bl (!(valV (kvN (·.name) bs bas) (Sum.inr nm)).isSome) = _
      rw [valV_no nnm]
      rfl
    refine ifT rfl ?_
    refine ⟨_, rfl, c.a, _, rfl, ha.same s2, c.db, _, rfl, s2 _ _ hdb, _, _, rfl, rfl, c.a, ?_, ?_⟩
    · show [V.ref c.a, V.bl (decide (((kvN (·.name) bs bas).length : Int) < 5))] = _
      rw [kvN_len lbs, dT (by omega)]
    refine ⟨_, rfl, c.a, _, rfl, ha.same s2, ?_⟩
    refine ⟨_, rfl, c.a, _, rfl, ha.same s2, _, rfl, bar, q, rfl, bar1, q1, by omega, by omega, _, _, rfl, rfl, c.a, ?_, ?_⟩
    · show [V.ref c.a, V.bl (decide (((Nat.lcm bar q : Nat) : Int) ≤ 12))] = _
      rw [dT (by omega)]
    -- the bar
    refine ⟨_, rfl, c.a, _, rfl, ha.same s2, _, rfl, bar, q, rfl, bar1, q1, by omega, by omega, _, rfl, c.a, _, rfl, ha.same s2, fun H3 a3 k3 => ?_⟩
    have kp3 : Keep [c.a, c.db] H H3 := (Keep.of _ s2).but k3 (by simp)
    have npa : p ≠ c.a := ne_of hp ea (by intro z; cases z)
    have ndba : c.db ≠ c.a := ne_of hdb ea (by intro z; cases z)
    have nala : c.al ≠ c.a := ne_of hal ea (by intro z; cases z)
    have nald : c.al ≠ c.db := ne_of hal hdb (by intro z; cases z)
    have ndta : c.dt ≠ c.a := ne_of hdt ea (by intro z; cases z)
    have npd : p ≠ c.db := ne_of hp hdb (by intro z; cases z)
    have hp3 := (k3.off p npa).trans (s2 _ _ hp)
    have db3 := (k3.off c.db ndba).trans (s2 _ _ hdb)
    have al3 := (k3.off c.al nala).trans (s2 _ _ hal)
    have dt3 := (k3.off c.dt ndta).trans (s2 _ _ hdt)
    have NT2 : ∀ {Hx : Hp} {o : OReader} {kvs}, AtReader T Hx c.a o → Hx c.db = some (.dK kvs) → NT [c.a, c.db] Hx := by
      rintro Hx o kvs ⟨dx, e1⟩ e2 z hz u e
      simp at hz
      rcases hz with rfl | rfl
      · rw [e1] at e; cases e; rfl
      · rw [e2] at e; cases e; rfl
    have S0 : ∀ s ∈ [c.a, c.db], ∃ u, H0 s = some u := by
      intro z hz
      simp at hz
      rcases hz with rfl | rfl
      · exact d0a
      · exact d0b
    have T3 : TracksAt T H0 H3 tas ts := hT.keep kp3 (NT2 ha hdb) S0
    -- the button
    refine ⟨_, rfl, p, _, _, V.str nm, rfl, rfl, .inl (.inl hp3), atI_nat rfl, _, rfl, fun b dx nb ndx ne => ⟨b, dx, nm, q, rfl, upd_same, fun H4 d k4 nd hB => ⟨rfl, ?_⟩⟩⟩
    have s4 := make_keep nb ndx k4
    have n1 : d ≠ b := fun q => by rw [q, upd_same] at nd; cases nd
    rw [upd_ne n1] at nd
    have n2 : d ≠ dx := fun q => by rw [q, upd_same] at nd; cases nd
    rw [upd_ne n2] at nd
    have fr3 : ∀ x, H3 x = none → H x = none := fun x e => by
      refine kp3.free e ?_
      intro q
      simp at q
      rcases q with rfl | rfl
      · obtain ⟨_, e'⟩ := a3
        rw [e'] at e; cases e
      · rw [db3] at e; cases e
    have nb0 := fr3 _ nb
    have nd0 := fr3 _ nd
    obtain ⟨ab4, ad4, _, _⟩ := hB
    refine ⟨_, rfl, _, rfl, c.a, _, rfl, a3.same s4, _, rfl, b, _, rfl, ab4, c.db, _, rfl, DPut.k (k := Sum.inr nm) (s4 _ _ db3) (by rw [kvN_len lbs]; exact lt_line (by omega)), ?_⟩
    rw [putK_new (valV_no nnm)]
    have nbd : b ≠ c.db := fun q => by rw [q, hdb] at nb0; cases nb0
    have nba : b ≠ c.a := fun q => by rw [q, ea] at nb0; cases nb0
    have ndd : d ≠ c.db := fun q => by rw [q, hdb] at nd0; cases nd0
    have nda : d ≠ c.a := fun q => by rw [q, ea] at nd0; cases nd0
    have ndal : c.al ≠ d := fun q => by rw [← q, hal] at nd0; cases nd0
    have nddt : c.dt ≠ d := fun q => by rw [← q, hdt] at nd0; cases nd0
    have kp5 : Keep [c.a, c.db] H (upd H4 c.db (.dK (kvN (·.name) bs bas ++ [(Sum.inr nm, V.ref b)]))) := (kp3.same s4).put (by simp)
    have a5 := (a3.same s4).put (u := .dK (kvN (·.name) bs bas ++ [(Sum.inr nm, V.ref b)])) ndba.symm
    have al5 := upd_get (u := .dK (kvN (·.name) bs bas ++ [(Sum.inr nm, V.ref b)])) (s4 _ _ al3) nald
    have dt5 := upd_get (u := .dK (kvN (·.name) bs bas ++ [(Sum.inr nm, V.ref b)])) (s4 _ _ dt3) ndbt.symm
    have b5 := ab4.put (u := .dK (kvN (·.name) bs bas ++ [(Sum.inr nm, V.ref b)])) nbd
    have d5 := upd_get (u := .dK (kvN (·.name) bs bas ++ [(Sum.inr nm, V.ref b)])) ad4 ndd
    have db5 : upd H4 c.db (.dK (kvN (·.name) bs bas ++ [(Sum.inr nm, V.ref b)])) c.db = some (.dK (kvN (·.name) bs bas ++ [(Sum.inr nm, V.ref b)])) := upd_same
    generalize upd H4 c.db (.dK (kvN (·.name) bs bas ++ [(Sum.inr nm, V.ref b)])) = H5 at *
    refine ⟨_, rfl, c.a, _, rfl, a5, _, _, rfl, rfl, _, a5, fun H6 a6 k6 => ?_⟩
    have kp6 : Keep [c.a, c.db] H H6 := kp5.but k6 (by simp)
    have dt6 := (k6.off c.dt ndta).trans dt5
    refine ⟨_, rfl, c.a, _, rfl, a6, c.dt, _, rfl, dt6, fun lf nlf => ?_⟩
    rw [kvN_keys hT.1]
    have kp7 : Keep [c.a, c.db] H (upd H6 lf (.lst ((ts.map (·.name)).map V.str))) := kp6.new nlf
    have s67 : Same H6 (upd H6 lf (.lst ((ts.map (·.name)).map V.str))) := same_upd nlf
    have lf7 : upd H6 lf (.lst ((ts.map (·.name)).map V.str)) lf = some (.lst ((ts.map (·.name)).map V.str)) := upd_same
    generalize upd H6 lf (.lst ((ts.map (·.name)).map V.str)) = H7 at *
    refine while_ix (fun m σ Hx => ∃ (rest : List Str) (left : List Str) (dsx : List (Str × Str × Str)) (asx : List Addr) (rw : V) (lfx : Addr), m = rest.length ∧ σ = [some (.ref c.a), some rw, some (.int (q : Int)), some (.ref b), some (.ref lfx)] ∧ Hx lfx = some (.lst (left.map V.str)) ∧ RdS T Hx c rest (Nat.lcm bar q) ∧ Keep [c.a, c.db] H Hx ∧
      Hx c.db = some (.dK (kvN (·.name) bs bas ++ [(Sum.inr nm, V.ref b)])) ∧ BtnP T Hx b d ⟨nm, q, []⟩ dsx asx ∧ DeedsR ts left dsx rest ds rest1 ∧ left.Nodup ∧ (∀ x ∈ dsx, x.1 ∉ left) ∧ dsx.length + left.length ≤ 4) r.length ⟨r, ts.map (·.name), [], [], _, lf, rfl, rfl, lf7, ?_, kp7, ?_, ⟨(b5.but k6 nba).same s67, ?_, rfl, fun i a x e => by simp at e⟩, hR, ndt, by simp, by simpa using lt4⟩ ?_
    · exact ⟨pre ++ [l], by rw [epre]; simp, by rw [List.length_append]; exact a6.same s67, s67 _ _ ((k6.off c.al nala).trans al5), sl⟩
    · exact s67 _ _ ((k6.off c.db ndba).trans db5)
    · exact s67 _ _ ((k6.off d nda).trans d5)
    · rintro m σ Hx ⟨rest, left, dsx, asx, rwv, lfx, rfl, rfl, lfe, Rx, kx, dbx, Bx, hRx, ndl, nin, cnt⟩
      have Rx' := Rx
      obtain ⟨prex, epx, ax, alx, _⟩ := Rx'
      have dtx : Hx c.dt = some (.dK (kvN (·.name) ts tas)) := kx _ _ hdt (by simp [ndta, ndbt.symm])
      have Tx : TracksAt T H0 Hx tas ts := hT.keep kx (NT2 ha hdb) S0
      refine ⟨_, rfl, c.a, _, rfl, ax, c, rest, _, 1, rfl, Rx, by decide, ?_⟩
      cases hRx with
      | stop e =>
        rw [show 2 * 1 = 2 from rfl, e]
        intro H8 s8
        refine ⟨_, rfl, ?_⟩
        refine ifF rfl ?_
        refine k H8 b (kx.same s8) (Rx.same s8) ?_ ⟨d, asx, nb0, nd0, ?_⟩
        · rw [kvN_snoc lbs]
          exact s8 _ _ dbx
        · exact Bx.same s8
      | @step _ _ l' r' row dd _ _ hrow hdw hin hR' =>
        have er : rowW (l' :: r') (2 * 1) = some row := hrow
        rw [er]
        intro H8 q8 s8 nq8 hq8
        refine ⟨_, rfl, ?_⟩
        refine ifT rfl ?_
        refine ⟨_, rfl, c.a, _, rfl, ax.same s8, c, l' :: r', _, 1, rfl, Rx.same s8, by decide, ?_⟩
        rw [er]
        intro H9 q9 s9' nq9 hq9
        have s9 := s8.trans s9'
        obtain ⟨tl, erow, etl⟩ := hdw.shape
        have hq9' : H9 q9 = some (.lst ((dd.1 :: dd.2.1 :: tl).map V.str)) := by rw [← erow]; exact hq9
        -- the want
        refine ⟨_, rfl, c.a, _, rfl, ax.same s9, ?_⟩
        refine ⟨_, rfl, q9, _, _, V.str dd.1, rfl, rfl, .inl (.inl hq9'), atI_nat rfl, _, rfl, lfx, _, rfl, .inl (.inl (.inl (s9 _ _ lfe))), rfl, flat_strs _, true, ?_, ?_⟩
        · show V.bl (inV (.str dd.1) (left.map V.str)) = _
          rw [inV_str, dT hin]
        refine ifT rfl ?_
        refine ⟨_, rfl, c.a, _, rfl, ax.same s9, _, rfl, c, _, q9, row, dd, ts, tas, H0, rfl, ax.same s9, rfl, hq9, hdw, s9 _ _ dtx, ndt, Tx.same s9, fun H10 s10' => ?_⟩
        have s10 := s9.trans s10'
        have hq10 := s10' _ _ hq9'
        refine ⟨c.a, rfl, ?_⟩
        -- the deed
        refine ⟨_, rfl, q9, _, _, V.str dd.2.1, rfl, rfl, .inl (.inl hq10), atI_nat rfl, fun v Hv => Hv = H10 ∧ v = .str dd.2.2, ?_, ?_⟩
        · refine ⟨_, rfl, _, _, rfl, .inl ⟨_, .inl (.inl hq10), rfl⟩, _, _, rfl, rfl, _, rfl, ?_⟩
          rcases etl with ⟨rfl, e0⟩ | rfl
          · refine ifF rfl ?_
            exact ⟨rfl, by rw [e0]⟩
          · refine ifT rfl ?_
            exact ⟨_, rfl, q9, _, _, V.str dd.2.2, rfl, rfl, .inl (.inl hq10), atI_nat rfl, rfl, rfl⟩
        rintro v Hv ⟨rfl, rfl⟩
        refine ⟨by show 2 ≤ sizeLine; exact le_line (by omega), fun tp htp => ?_⟩
        have s11 : Same Hx (upd Hv tp (.tup [.str dd.2.1, .str dd.2.2])) := s10.new htp
        have htp0 : H tp = none := by
          refine kx.free (s10.fresh htp) ?_
          intro z
          simp at z
          rcases z with rfl | rfl
          · obtain ⟨_, e'⟩ := ax.same s10
            rw [e'] at htp; cases htp
          · rw [s10 _ _ dbx] at htp; cases htp
        have tp11 : upd Hv tp (.tup [.str dd.2.1, .str dd.2.2]) tp = some (.tup [.str dd.2.1, .str dd.2.2]) := upd_same
        have hq11 : upd Hv tp (.tup [.str dd.2.1, .str dd.2.2]) q9 = _ := upd_old hq10 htp
        generalize upd Hv tp (.tup [.str dd.2.1, .str dd.2.2]) = H11 at *
        obtain ⟨bx1, bx2, bx3, bx4⟩ := Bx
        have nink : dd.1 ∉ dsx.map (·.1) := fun z => by
          obtain ⟨y, hy, ey⟩ := List.mem_map.mp z
          exact nin y hy (by rw [ey]; exact hin)
        refine ⟨_, rfl, b, _, rfl, bx1.same s11, _, rfl, q9, _, _, V.str dd.1, rfl, rfl, .inl (.inl hq11), atI_nat rfl, d, _, rfl, DPut.k (k := Sum.inr dd.1) (s11 _ _ bx2) (by rw [kvN_len bx3]; exact lt_line (by omega)), ?_⟩
        rw [putK_new (valV_no nink)]
        have k12 : Keep [d] Hx (upd H11 d (.dK (kvN (·.1) dsx asx ++ [(Sum.inr dd.1, V.ref tp)]))) := (Keep.of _ s11).put (by simp)
        have d12 : upd H11 d (.dK (kvN (·.1) dsx asx ++ [(Sum.inr dd.1, V.ref tp)])) d = some (.dK (kvN (·.1) dsx asx ++ [(Sum.inr dd.1, V.ref tp)])) := upd_same
        have ntp : tp ≠ d := ne_of tp11 (s11 _ _ bx2) (by intro z; cases z)
        have tp12 := upd_get (u := .dK (kvN (·.1) dsx asx ++ [(Sum.inr dd.1, V.ref tp)])) tp11 ntp
        have hq12 := upd_get (u := .dK (kvN (·.1) dsx asx ++ [(Sum.inr dd.1, V.ref tp)])) hq11 (ne_of hq11 (s11 _ _ bx2) (by intro z; cases z))
        generalize upd H11 d (.dK (kvN (·.1) dsx asx ++ [(Sum.inr dd.1, V.ref tp)])) = H12 at *
        have NTd : NT [d] Hx := by
          intro z hz u e
          rw [List.mem_singleton] at hz
          rw [hz, bx2] at e
          cases e
          rfl
        have nbdd : b ≠ d := n1.symm
        have b12 : AtButton T H12 b ⟨.str nm, .int (q : Int), .ref d⟩ := by
          obtain ⟨dx, e⟩ := bx1
          exact ⟨dx, k12 _ _ e (by simpa using nbdd)⟩
        have a12 : AtReader T H12 c.a ⟨.ref c.al, .int (prex.length : Int), .ref c.dt, .ref c.db, .int ((Nat.lcm bar q : Nat) : Int), .ref c.lr⟩ := by
          obtain ⟨dx, e⟩ := ax
          exact ⟨dx, k12 _ _ e (by simpa using nda.symm)⟩
        have al12 := k12 _ _ alx (by simpa using ndal)
        have db12 := k12 _ _ dbx (by simpa using ndd.symm)
        have lf12 := k12 _ _ lfe (by simpa using ne_of lfe bx2 (by intro z; cases z))
        have kk12 : Keep [c.a, c.db] H H12 := kx.transN k12 (by
          intro z hz
          rw [List.mem_singleton] at hz
          exact .inr (by rw [hz]; exact nd0))
        obtain ⟨ix1, ix2⟩ := idx_at hin
        refine ⟨_, rfl, _, rfl, .inl ⟨rfl, _, .inl (.inl lf12)⟩, _, rfl, q9, _, _, V.str dd.1, rfl, rfl, .inl (.inl hq12), atI_nat rfl, lfx, _, .str dd.1, left.idxOf dd.1, .str dd.1, rfl, rfl, .inl (.inl lf12), rfl, flat_strs _, ix1, by show (dd.1 == dd.1) = true; exact beq_self_eq_true _, ix2, _, _, rfl, rfl, _, rfl, lfx, _, rfl, .inl (.inl lf12), fun lf2 nlf2 => ?_⟩
        rw [show ((left.idxOf dd.1 : Nat) : Int) + 1 = ((left.idxOf dd.1 + 1 : Nat) : Int) from rfl, cutFrom, ← List.map_drop]
        show _
        have s13 : Same H12 (upd H12 lf2 (.lst ((behind left dd.1).map V.str))) := same_upd nlf2
        have lf13 : upd H12 lf2 (.lst ((behind left dd.1).map V.str)) lf2 = some (.lst ((behind left dd.1).map V.str)) := upd_same
        rw [show left.drop (left.idxOf dd.1 + 1) = behind left dd.1 from rfl]
        generalize upd H12 lf2 (.lst ((behind left dd.1).map V.str)) = H13 at *
        have a13 := a12.same s13
        refine ⟨_, rfl, c.a, _, rfl, a13, _, _, rfl, rfl, _, a13, fun H14 a14 k14 => ?_⟩
        have nlfa : lf2 ≠ c.a := by
          obtain ⟨_, e'⟩ := a13
          exact ne_of lf13 e' (by intro z; cases z)
        obtain ⟨bf1, bf2, bf3⟩ := behind_facts ndl hin
        have bl : (behind left dd.1).length + 1 ≤ left.length := by
          have := List.idxOf_lt_length_of_mem hin
          show (left.drop (left.idxOf dd.1 + 1)).length + 1 ≤ left.length
          rw [List.length_drop]
          omega
        have NTa : NT [c.a] H13 := by
          obtain ⟨_, e'⟩ := a13
          intro z hz u e
          rw [List.mem_singleton] at hz
          rw [hz, e'] at e
          cases e
          rfl
        have kk14 : Keep [c.a] H13 H14 := k14.keep (by simp)
        refine ⟨r'.length, Nat.lt_succ_self _, r', behind left dd.1, dsx ++ [dd], asx ++ [tp], _, lf2, rfl, rfl, (k14.off lf2 nlfa).trans lf13, ⟨prex ++ [l'], by rw [epx]; simp, by rw [List.length_append]; exact a14, (k14.off c.al nala).trans (s13 _ _ al12), sl⟩, (kk12.same s13).but k14 (by simp), (k14.off c.db ndba).trans (s13 _ _ db12), ⟨(b12.same s13).but k14 nba, ?_, by simp [bx3], ?_⟩, hR', bf1, ?_, by simp; omega⟩
        · rw [kvN_snoc bx3]
          exact (k14.off d nda).trans (s13 _ _ d12)
        · refine snoc_at (P := fun a x => Dp K H14 (.ref a) (deedD x)) bx3 (fun i a x e1 e2 => ?_) ?_
          · exact dp_keep kk14 NTa (s13.dp (dp_keep k12 NTd (bx4 i a x e1 e2) (noL_deed x))) (noL_deed x)
          · refine dp_keep kk14 NTa (s13.dp ?_) (noL_deed dd)
            exact .tup (.inl (.inl tp12)) (.cons (.str _) (.cons (.str _) .nil))
        · intro x hx
          rcases List.mem_append.mp hx with hx | hx
          · exact fun z => nin x hx (bf3 _ z)
          · rw [List.mem_singleton] at hx
            rw [hx]
            exact bf2
end
end Ev
end

section
namespace Ev
open PySem PySem.Spec PyProof.Rows L2
/-! ## reading.py, whole -/
def spReaderInit {K : PySem.W.Frag} {mg : Str → Option Value} (T : Txt K mg) : Sp := fun vs H Q _ => ∃ (x dx al : Addr), vs = [.ref x, .ref al] ∧ H x = some (.ins T.Reader.C dx []) ∧
  ∀ H' dt db lr, Keep [x] H H' → H dt = none → H db = none → H lr = none → AtReader T H' x ⟨.ref al, .int 0, .ref dt, .ref db, .int 1, .ref lr⟩ → H' dt = some (.dK []) → H' db = some (.dK []) → H' lr = some (.lst []) → dt ≠ db → Q .non H'
def spRead {K : PySem.W.Frag} {mg : Str → Option Value} (T : Txt K mg) : Sp := fun vs H Q _ => ∃ (c : RC) (B : BoardM), vs = [.ref c.a] ∧ RdS T H c c.lines 1 ∧ BoardR c.lines B ∧ H c.dt = some (.dK []) ∧ H c.db = some (.dK []) ∧ H c.lr = some (.lst []) ∧ c.lr ≠ c.al ∧ c.dt ≠ c.db ∧
  ∀ H' tas bas, Keep [c.a, c.lr, c.dt, c.db] H H' → AtReader T H' c.a ⟨.ref c.al, .int (c.lines.length : Int), .ref c.dt, .ref c.db, .int (B.bar : Int), .ref c.lr⟩ → H' c.dt = some (.dK (kvN (·.name) B.tracks tas)) → H' c.db = some (.dK (kvN (·.name) B.buttons bas)) →
    TracksAt T H H' tas B.tracks → ButtonsAt T H H' bas B.buttons → Q .non H'
theorem LoopsR.le {ls ls' : List LoopM} {r r' : List Str} (h : LoopsR ls r ls' r') : r'.length ≤ r.length := by
  induction h with
  | stop _ => exact Nat.le_refl _
  | step _ _ _ _ hp _ ih =>
    have := hp.le
    simp
    omega
section
variable {P : Program} {w : World} {K : PySem.W.Frag} {mg : Str → Option Value} {base : Heap}
theorem ok_ReaderD_initD (T : Txt K mg) : FnOk P w K mg base CX0 1 T.Reader.init.f T.Reader.init.fd ["self", "lines"] (spReaderInit T) := by
  refine T.Reader.init.F.ok sc_ReaderD_initD (fun vs H Q E h => ?_) (fun cdv A outer s H vs Q E hr h => ?_)
  · obtain ⟨x, dx, al, rfl, _⟩ := h
    rfl
  · obtain ⟨x, dx, al, rfl, hx, k⟩ := h
    refine ⟨_, (pss_cons (ps_fld (pv 0) (pv 1) rfl) (pss_cons (ps_fld (pv 0) pe_int rfl) (pss_cons (ps_fld (pv 0) pe_dnewK rfl) (pss_cons (ps_fld (pv 0) pe_dnewK rfl) (pss_cons (ps_fld (pv 0) pe_int rfl) (pss_one (ps_fld (pv 0) (pe_lst pa_nil) rfl))))))), ?_⟩
    refine ⟨_, rfl, _, rfl, x, _, dx, _, rfl, hx, T.Reader.cl, T.Reader.na 0 _ rfl, by decide, ?_⟩
    refine ⟨_, rfl, x, _, dx, _, rfl, upd_same, T.Reader.cl, T.Reader.na 1 _ rfl, by show 1 < 1000; decide, ?_⟩
    have k2 : Keep [x] H (upd (upd H x (.ins T.Reader.C dx (putF "own_lines" (.ref al) []))) x (.ins T.Reader.C dx (putF "at" (.int 0) (putF "own_lines" (.ref al) [])))) := (Keep.refl _ _).put1.put1
    have e2 : upd (upd H x (.ins T.Reader.C dx (putF "own_lines" (.ref al) []))) x (.ins T.Reader.C dx (putF "at" (.int 0) (putF "own_lines" (.ref al) []))) x = some (.ins T.Reader.C dx [("own_lines", .ref al), ("at", .int 0)]) := by
      rw [upd_same, pnReader_own_lines, pnReader_at]
    show _
    generalize upd (upd H x (.ins T.Reader.C dx (putF "own_lines" (.ref al) []))) x (.ins T.Reader.C dx (putF "at" (.int 0) (putF "own_lines" (.ref al) []))) = H2 at *
    refine fun dt ndt => ⟨_, rfl, x, _, dx, _, rfl, upd_old e2 ndt, T.Reader.cl, T.Reader.na 2 _ rfl, by show 2 < 1000; decide, ?_⟩
    have xdt : dt ≠ x := fun q => by rw [q, e2] at ndt; cases ndt
    have dt3 : upd (upd H2 dt (.dK [])) x (.ins T.Reader.C dx (putF "own_tracks" (.ref dt) [("own_lines", .ref al), ("at", .int 0)])) dt = some (.dK []) := upd_get upd_same xdt
    have k3 : Keep [x] H (upd (upd H2 dt (.dK [])) x (.ins T.Reader.C dx (putF "own_tracks" (.ref dt) [("own_lines", .ref al), ("at", .int 0)]))) := (k2.new ndt).put1
    have e3 : upd (upd H2 dt (.dK [])) x (.ins T.Reader.C dx (putF "own_tracks" (.ref dt) [("own_lines", .ref al), ("at", .int 0)])) x = some (.ins T.Reader.C dx [("own_lines", .ref al), ("at", .int 0), ("own_tracks", .ref dt)]) := by
      rw [upd_same, pnReader_own_tracks]
    generalize upd (upd H2 dt (.dK [])) x (.ins T.Reader.C dx (putF "own_tracks" (.ref dt) [("own_lines", .ref al), ("at", .int 0)])) = H3 at *
    refine fun db ndb => ⟨_, rfl, x, _, dx, _, rfl, upd_old e3 ndb, T.Reader.cl, T.Reader.na 3 _ rfl, by show 3 < 1000; decide, ?_⟩
    have xdb : db ≠ x := fun q => by rw [q, e3] at ndb; cases ndb
    have dtb : dt ≠ db := fun q => by rw [← q, dt3] at ndb; cases ndb
    refine ⟨_, rfl, x, _, dx, _, rfl, upd_same, T.Reader.cl, T.Reader.na 4 _ rfl, by rw [pnReader_own_buttons]; show 4 < 1000; decide, ?_⟩
    rw [pnReader_own_buttons, pnReader_own_bar]
    have db4 : upd (upd (upd H3 db (.dK [])) x (.ins T.Reader.C dx [("own_lines", .ref al), ("at", .int 0), ("own_tracks", .ref dt), ("own_buttons", .ref db)])) x (.ins T.Reader.C dx [("own_lines", .ref al), ("at", .int 0), ("own_tracks", .ref dt), ("own_buttons", .ref db), ("own_bar", .int 1)]) db = some (.dK []) := upd_get (upd_get upd_same xdb) xdb
    have dt4 : upd (upd (upd H3 db (.dK [])) x (.ins T.Reader.C dx [("own_lines", .ref al), ("at", .int 0), ("own_tracks", .ref dt), ("own_buttons", .ref db)])) x (.ins T.Reader.C dx [("own_lines", .ref al), ("at", .int 0), ("own_tracks", .ref dt), ("own_buttons", .ref db), ("own_bar", .int 1)]) dt = some (.dK []) := upd_get (upd_get (upd_old dt3 ndb) xdt) xdt
    have k4 : Keep [x] H (upd (upd (upd H3 db (.dK [])) x (.ins T.Reader.C dx [("own_lines", .ref al), ("at", .int 0), ("own_tracks", .ref dt), ("own_buttons", .ref db)])) x (.ins T.Reader.C dx [("own_lines", .ref al), ("at", .int 0), ("own_tracks", .ref dt), ("own_buttons", .ref db), ("own_bar", .int 1)])) := (k3.new ndb).put1.put1
    have e4 : upd (upd (upd H3 db (.dK [])) x (.ins T.Reader.C dx [("own_lines", .ref al), ("at", .int 0), ("own_tracks", .ref dt), ("own_buttons", .ref db)])) x (.ins T.Reader.C dx [("own_lines", .ref al), ("at", .int 0), ("own_tracks", .ref dt), ("own_buttons", .ref db), ("own_bar", .int 1)]) x = some (.ins T.Reader.C dx [("own_lines", .ref al), ("at", .int 0), ("own_tracks", .ref dt), ("own_buttons", .ref db), ("own_bar", .int 1)]) := upd_same
    generalize upd (upd (upd H3 db (.dK [])) x (.ins T.Reader.C dx [("own_lines", .ref al), ("at", .int 0), ("own_tracks", .ref dt), ("own_buttons", .ref db)])) x (.ins T.Reader.C dx [("own_lines", .ref al), ("at", .int 0), ("own_tracks", .ref dt), ("own_buttons", .ref db), ("own_bar", .int 1)]) = H4 at *
    refine ⟨by show 0 ≤ sizeLine; omega, fun lr nlr => ⟨_, rfl, x, _, dx, _, rfl, upd_old e4 nlr, T.Reader.cl, T.Reader.na 5 _ rfl, by show 5 < 1000; decide, ?_⟩⟩
    have xlr : lr ≠ x := fun q => by rw [q, e4] at nlr; cases nlr
    rw [pnReader_later]
    have f3 := k3.free ndb (by simpa using xdb)
    have f2 := k2.free ndt (by simpa using xdt)
    refine k _ dt db lr ((k4.new nlr).put1) f2 f3 (k4.free nlr (by simpa using xlr)) ⟨dx, upd_same⟩ ?_ ?_ ?_ dtb
    · exact upd_get (upd_old dt4 nlr) xdt
    · exact upd_get (upd_old db4 nlr) xdb
    · exact upd_get upd_same xlr
theorem ok_Reader_read (T : Txt K mg) : FnOk P w K mg base CX0 6 T.Reader.d_Reader_read.f T.Reader.d_Reader_read.fd ["self"] (spRead T) := by
  refine T.Reader.d_Reader_read.F.ok sc_Reader_read (fun vs H Q E h => ?_) (fun cdv A outer s H vs Q E hr h => ?_)
  · obtain ⟨c, B, rfl, _⟩ := h
    rfl
  · obtain ⟨c, B, rfl, hc, hB, hdt, hdb, hlr, nal, ndd, k⟩ := h
    refine ⟨_, (pss_cons (ps_expr (pe_methO nmReader_want (pe_meth (pe_mono (pv 0)) T.Reader.cl T.Reader.m_Reader_want (ok_Reader_want T) (hr.mono (by decide)) T.Reader.d_Reader_want.b .nil pass0 (pa_cons (pe_cmp (pc_notN (pe_methO nmReader_headed (pe_meth (pe_mono (pv 0)) T.Reader.cl T.Reader.m_Reader_headed (ok_Reader_headed T) (hr.mono (by decide)) T.Reader.d_Reader_headed.b .nil pass0 (pa_cons pe_int (pa_cons (pe_gc rfl T.c.g_TRACK) pa_nil))))) rfl) pa_nil)))) (pss_cons (ps_while PassesOwn.never (pt_mono (pt_cmp (pc_notN (pe_methO nmReader_headed (pe_meth (pe_mono (pv 0)) T.Reader.cl T.Reader.m_Reader_headed (ok_Reader_headed T) (hr.mono (by decide)) T.Reader.d_Reader_headed.b .nil pass0 (pa_cons pe_int (pa_cons (pe_gc rfl T.c.g_TRACK) pa_nil))))))) (pss_one (ps_expr (pe_methO nmReader_read_track (pe_meth (pe_mono (pv 0)) T.Reader.cl T.Reader.m_Reader_read_track (ok_Reader_read_track T) (hr.mono (by decide)) T.Reader.d_Reader_read_track.b .nil pass0 (pa_cons (pe_methO nmReader_row (pe_meth (pe_mono (pv 0)) T.Reader.cl T.Reader.m_Reader_row (ok_Reader_row T) (hr.mono (by decide)) T.Reader.d_Reader_row.b .nil pass0 (pa_cons pe_int pa_nil))) pa_nil)))))) (pss_cons (ps_expr (pe_methO nmReader_want (pe_meth (pe_mono (pv 0)) T.Reader.cl T.Reader.m_Reader_want (ok_Reader_want T) (hr.mono (by decide)) T.Reader.d_Reader_want.b .nil pass0 (pa_cons (pe_cmp (pc_notN (pe_methO nmReader_headed (pe_meth (pe_mono (pv 0)) T.Reader.cl T.Reader.m_Reader_headed (ok_Reader_headed T) (hr.mono (by decide)) T.Reader.d_Reader_headed.b .nil pass0 (pa_cons pe_int (pa_cons (pe_gc rfl T.c.g_BUTTON) pa_nil))))) rfl) pa_nil)))) (pss_cons (ps_while PassesOwn.never (pt_mono (pt_cmp (pc_notN (pe_methO nmReader_headed (pe_meth (pe_mono (pv 0)) T.Reader.cl T.Reader.m_Reader_headed (ok_Reader_headed T) (hr.mono (by decide)) T.Reader.d_Reader_headed.b .nil pass0 (pa_cons pe_int (pa_cons (pe_gc rfl T.c.g_BUTTON) pa_nil))))))) (pss_one (ps_expr (pe_methO nmReader_read_button (pe_meth (pe_mono (pv 0)) T.Reader.cl T.Reader.m_Reader_read_button (ok_Reader_read_button T) (hr.mono (by decide)) T.Reader.d_Reader_read_button.b .nil pass0 (pa_cons (pe_methO nmReader_row (pe_meth (pe_mono (pv 0)) T.Reader.cl T.Reader.m_Reader_row (ok_Reader_row T) (hr.mono (by decide)) T.Reader.d_Reader_row.b .nil pass0 (pa_cons pe_int pa_nil))) pa_nil)))))) (pss_cons (ps_expr (pe_methO nmReader_want (pe_meth (pe_mono (pv 0)) T.Reader.cl T.Reader.m_Reader_want (ok_Reader_want T) (hr.mono (by decide)) T.Reader.d_Reader_want.b .nil pass0 (pa_cons (pe_cmpR op_eq (pe_get (frReader_at T) (pv 0)) (pe_callB call_len (by rfl) T.c.z_len (by decide +kernel) (pa_cons (pe_get (frReader_own_lines T) (pv 0)) pa_nil)) (nomark _)) pa_nil)))) (pss_one (ps_for PassesOwn.never rfl (pi_list (pe_get (frReader_later T) (pv 0))) (pg_tup rfl (pgs_cons (pg_name (i := 1) sc_Reader_read.nd rfl (Or.inl rfl)) (pgs_cons (pg_name (i := 2) sc_Reader_read.nd rfl (Or.inl rfl)) (pgs_cons (pg_name (i := 3) sc_Reader_read.nd rfl (Or.inl rfl)) pgs_nil)))) (pss_one (ps_if (pt_cmp (pc_dnotin (hu_of hr) (pv 3) (pe_get (frTrack_own_loops T) (pv 2))) rfl) (pss_one ps_never) pss_nil))))))))), ?_⟩
    have wB := hB.well
    obtain ⟨⟨mid, h1, hT, h2, hBt⟩, th⟩ := hB
    have hc' := hc
    obtain ⟨pre, epre, ha, hal, sl⟩ := hc
    have e0 : pre = [] := by
      have := congrArg List.length epre
      rw [List.length_append] at this
      exact List.length_eq_zero_iff.mp (by omega)
    subst e0
    obtain ⟨dxa, ea⟩ := ha
    have ha : AtReader T H c.a ⟨.ref c.al, .int (([] : List Str).length : Int), .ref c.dt, .ref c.db, .int ((1 : Nat) : Int), .ref c.lr⟩ := ⟨dxa, ea⟩
    refine ⟨_, rfl, c.a, _, rfl, ha, ?_⟩
    refine ⟨_, rfl, c.a, _, rfl, ha, c, c.lines, 1, 0, "track", rfl, hc', by decide, ?_⟩
    cases hh : headW c.lines 0 "track" with
    | none => exact absurd hh h1
    | some ws0 =>
    intro H1 q1 s1 nq1 hq1
    refine ⟨c.a, rfl, ?_⟩
    have nad : c.a ≠ c.dt := ne_of ea hdt (by intro z; cases z)
    have nab : c.a ≠ c.db := ne_of ea hdb (by intro z; cases z)
    have nla : c.lr ≠ c.a := ne_of hlr ea (by intro z; cases z)
    have nld : c.lr ≠ c.dt := ne_of hlr hdt (by intro z; cases z)
    have nlb : c.lr ≠ c.db := ne_of hlr hdb (by intro z; cases z)
    have NT4 : ∀ {Hx : Hp} {o : OReader} {ys ks kt}, AtReader T Hx c.a o → Hx c.lr = some (.lst ys) → Hx c.dt = some (.dK ks) → Hx c.db = some (.dK kt) → NT [c.a, c.lr, c.dt, c.db] Hx := by
      rintro Hx o ys ks kt ⟨dx, e1⟩ e2 e3 e4 z hz u e
      simp at hz
      rcases hz with rfl | rfl | rfl | rfl
      · rw [e1] at e; cases e; rfl
      · rw [e2] at e; cases e; rfl
      · rw [e3] at e; cases e; rfl
      · rw [e4] at e; cases e; rfl
    have S4 : ∀ s ∈ [c.a, c.lr, c.dt, c.db], ∃ u, H s = some u := by
      intro z hz
      simp at hz
      rcases hz with rfl | rfl | rfl | rfl
      · exact ⟨_, ea⟩
      · exact ⟨_, hlr⟩
      · exact ⟨_, hdt⟩
      · exact ⟨_, hdb⟩
    have fr4 : ∀ {Hx : Hp} {o : OReader} {ys ks kt}, Keep [c.a, c.lr, c.dt, c.db] H Hx → AtReader T Hx c.a o → Hx c.lr = some (.lst ys) → Hx c.dt = some (.dK ks) → Hx c.db = some (.dK kt) → ∀ b, Hx b = none → H b = none := by
      rintro Hx o ys ks kt kx ⟨dx, e1⟩ e2 e3 e4 b e
      refine kx.free e ?_
      intro z
      simp at z
      rcases z with rfl | rfl | rfl | rfl
      · rw [e1] at e; cases e
      · rw [e2] at e; cases e
      · rw [e3] at e; cases e
      · rw [e4] at e; cases e
    refine while_ix (fun m σ Hx => ∃ (rest : List Str) (ts : List TrackM) (tas : List Addr) (ys : List V) (ps : List (Addr × Str)), m = rest.length ∧ σ = [some (.ref c.a), none, none, none] ∧ RdS T Hx c rest 1 ∧ Keep [c.a, c.lr, c.dt, c.db] H Hx ∧
      Hx c.dt = some (.dK (kvN (·.name) ts tas)) ∧ Hx c.db = some (.dK []) ∧ Hx c.lr = some (.lst ys) ∧ ys.length ≤ 3 * ts.length ∧ LaterP Hx ys ps ∧ (∀ t nm, (t, nm) ∈ ps → ∃ (i : Nat) (M : TrackM) (L : LoopM), tas[i]? = some t ∧ ts[i]? = some M ∧ L ∈ M.loops ∧ L.then_ = nm) ∧
      TracksAt T H Hx tas ts ∧ TracksR ts rest B.tracks mid) c.lines.length ⟨c.lines, [], [], [], [], rfl, rfl, hc'.same s1, Keep.of _ s1, s1 _ _ hdt, s1 _ _ hdb, s1 _ _ hlr, by simp, fun x hx => by simp at hx, fun t nm hx => by simp at hx, ⟨rfl, fun i a M e => by simp at e⟩, hT⟩ ?_
    rintro m σ Hx ⟨rest, ts, tas, ys, ps, rfl, rfl, Rx, kx, dtx, dbx, lrx, lyx, Px, psx, Tx, hTx⟩
    have Rx' := Rx
    obtain ⟨prex, epx, ax, alx, _⟩ := Rx'
    refine ⟨_, rfl, c.a, _, rfl, ax, c, rest, 1, 0, "track", rfl, Rx, by decide, ?_⟩
    cases hTx with
    | stop e =>
      rw [show 2 * 0 = 0 from rfl, e]
      intro H2 s2
      refine ⟨_, rfl, ?_⟩
      refine ifF rfl ?_
      -- the buttons
      refine ⟨_, rfl, c.a, _, rfl, ax.same s2, ?_⟩
      refine ⟨_, rfl, c.a, _, rfl, ax.same s2, c, mid, 1, 0, "button", rfl, Rx.same s2, by decide, ?_⟩
      cases hh2 : headW mid 0 "button" with
      | none => exact absurd hh2 h2
      | some wsb =>
      intro H3 q3 s3' nq3 hq3
      have s3 := s2.trans s3'
      refine ⟨c.a, rfl, ?_⟩
      refine while_ix (fun m σ Hy => ∃ (rb : List Str) (bs : List ButtonM) (bas : List Addr) (bar : Nat), m = rb.length ∧ σ = [some (.ref c.a), none, none, none] ∧ RdS T Hy c rb bar ∧ Keep [c.a, c.lr, c.dt, c.db] H Hy ∧
        Hy c.dt = some (.dK (kvN (·.name) B.tracks tas)) ∧ Hy c.db = some (.dK (kvN (·.name) bs bas)) ∧ Hy c.lr = some (.lst ys) ∧ LaterP Hy ys ps ∧ TracksAt T H Hy tas B.tracks ∧ ButtonsAt T H Hy bas bs ∧ 1 ≤ bar ∧ bar ≤ 12 ∧ ButtonsR B.tracks bs bar rb B.buttons B.bar []) mid.length
        ⟨mid, [], [], 1, rfl, rfl, Rx.same s3, kx.same s3, s3 _ _ dtx, s3 _ _ dbx, s3 _ _ lrx, Px.same s3, Tx.same s3, ⟨rfl, fun i a M e => by simp at e⟩, Nat.le_refl _, by decide, hBt⟩ ?_
      rintro m σ Hy ⟨rb, bs, bas, bar, rfl, rfl, Ry, ky, dty, dby, lry, Py, Ty, By, bar1, bar12, hBy⟩
      have Ry' := Ry
      obtain ⟨prey, epy, ay, aly, _⟩ := Ry'
      refine ⟨_, rfl, c.a, _, rfl, ay, c, rb, bar, 0, "button", rfl, Ry, by decide, ?_⟩
      cases hBy with
      | stop e =>
        rw [show 2 * 0 = 0 from rfl, e]
        intro H4 s4
        refine ⟨_, rfl, ?_⟩
        refine ifF rfl ?_
        have epl : prey = c.lines := by rw [epy, List.append_nil]
        subst epl
        have a4 := ay.same s4
        refine ⟨_, rfl, c.a, _, rfl, a4, ?_⟩
        refine ⟨_, rfl, c.a, _, rfl, a4, _, rfl, c.a, _, rfl, a4, _, _, rfl, .inl ⟨_, .inl (.inl (s4 _ _ aly)), rfl⟩, rfl, c.a, ?_, ?_⟩
        · show [V.ref c.a, V.bl (decide (V.int (c.lines.length : Int) = V.int (((c.lines.map V.str).length : Nat) : Int)))] = _
          rw [List.length_map, dT rfl]
        refine ⟨_, rfl, c.a, _, rfl, a4, c.lr, rfl, ⟨_, .inl (.inl (s4 _ _ lry))⟩, ?_⟩
        refine for_it walk_list (fun i σ Hz => Same Hy Hz ∧ ∃ v1 v2 v3, σ = [some (.ref c.a), v1, v2, v3]) ⟨s4, _, _, _, rfl⟩ (fun i σ Hz _ hz => .inl (.inl (hz.1 _ _ lry))) ?_ ?_
        · rintro i v σ Hz Hz' hi ⟨sz, v1, v2, v3, rfl⟩ ⟨rfl, ev⟩
          have ev : ys[i]? = some v := ev
          obtain ⟨tp, n, t, nm, rfl, etp, hps, hnm⟩ := Py v (List.mem_of_getElem? ev)
          obtain ⟨j, M, L, f1, f2, f3, f4⟩ := psx t nm hps
          obtain ⟨d2, as2, _, _, ⟨at2, ad2, al2⟩, _⟩ := Ty.2 j t M f1 f2
          refine ⟨tp, _, rfl, .inl (.inl (sz _ _ etp)), rfl, _, _, rfl, _, _, rfl, _, _, rfl, rfl, ?_⟩
          have hin : nm ∈ M.loops.map (·.name) := by
            rw [← f4]
            exact wB.th M (List.mem_of_getElem? f2) L f3 (by rw [f4]; exact hnm)
          refine ⟨_, rfl, _, rfl, t, _, rfl, at2.same sz, d2, _, rfl, DGet.k (k := Sum.inr nm) (sz _ _ ad2), _, rfl, ?_⟩
          refine ifF (by rw [valV_yes al2 hin]; rfl) ?_
          exact ⟨sz, _, _, _, rfl⟩
        · rintro σ Hz ⟨sz, v1, v2, v3, rfl⟩
          exact k Hz tas bas (ky.same sz) (ay.same sz) (sz _ _ dty) (sz _ _ dby) (Ty.same sz) (By.same sz)
      | @step _ _ l' r' ds rest1 _ _ _ w' nm qw q hhd hnm hq q1 q12 hn h5 hlcm hd hB' =>
        rw [show 2 * 0 = 0 from rfl, hhd]
        intro H4 q4 s4 nq4 hq4
        refine ⟨_, rfl, ?_⟩
        refine ifT rfl ?_
        obtain ⟨hrow, _⟩ := headW_row hhd
        refine ⟨_, rfl, c.a, _, rfl, ay.same s4, _, rfl, c.a, _, rfl, ay.same s4, c, l' :: r', bar, 0, rfl, Ry.same s4, by decide, ?_⟩
        rw [show 2 * 0 = 0 from rfl, hrow]
        intro H5 q5 s5' nq5 hq5
        have s5 := s4.trans s5'
        obtain ⟨sww, _⟩ := rowW_short hrow epy sl
        refine ⟨c, bar, q5, w', nm, qw, l', r', q, bs, bas, B.tracks, tas, ds, rest1, H, rfl, Ry.same s5, hq5, sww.2 qw (by simp), hnm, hq, q1, q12, hn, h5, hlcm, bar1, bar12, hd, s5 _ _ dby, By.1, s5 _ _ dty, wB.ndt, wB.t4, Ty.same s5, ndd.symm, ⟨_, ea⟩, ⟨_, hdb⟩, fun H6 b k6 R6 db6 B6 => ?_⟩
        have f5 := fr4 (ky.same s5) (ay.same s5) (s5 _ _ lry) (s5 _ _ dty) (s5 _ _ dby)
        have nt5 : NT [c.a, c.db] H5 := fun z hz => NT4 (ay.same s5) (s5 _ _ lry) (s5 _ _ dty) (s5 _ _ dby) z (by simp at hz ⊢; rcases hz with h | h <;> simp [h])
        have S5 : ∀ z ∈ [c.a, c.db], ∃ u, H z = some u := fun z hz => S4 z (by simp at hz ⊢; rcases hz with h | h <;> simp [h])
        have hle := hd.le
        refine ⟨rest1.length, by simp; omega, rest1, _, _, _, rfl, rfl, R6, (ky.same s5).trans (k6.sub (by simp)), ?_, db6, ?_, (Py.same s5).keep k6 nt5, (Ty.same s5).keep k6 nt5 S5, ⟨by simp [By.1], snoc_at (P := fun a M => ButtonAt T H H6 a M) By.1 (fun i a M e1 e2 => ((By.same s5).2 i a M e1 e2).keep k6 nt5 S5) (B6.back f5)⟩, Nat.lcm_pos bar1 q1, hlcm, hB'⟩
        · exact k6 _ _ (s5 _ _ dty) (by simp [nad.symm, ndd])
        · exact k6 _ _ (s5 _ _ lry) (by simp [nla, nlb])
    | @step _ l' r' loops rest1 _ _ w' nm hhd hnm hn h4 hl hne hT' =>
      rw [show 2 * 0 = 0 from rfl, hhd]
      intro H2 q2 s2 nq2 hq2
      refine ⟨_, rfl, ?_⟩
      refine ifT rfl ?_
      obtain ⟨hrow, _⟩ := headW_row hhd
      refine ⟨_, rfl, c.a, _, rfl, ax.same s2, _, rfl, c.a, _, rfl, ax.same s2, c, l' :: r', 1, 0, rfl, Rx.same s2, by decide, ?_⟩
      rw [show 2 * 0 = 0 from rfl, hrow]
      intro H3 q3 s3' nq3 hq3
      have s3 := s2.trans s3'
      refine ⟨c, 1, q3, w', nm, l', r', loops, rest1, ts, tas, ys, ps, rfl, Rx.same s3, hq3, hnm, hn, h4, hl, hne, s3 _ _ dtx, Tx.1, s3 _ _ lrx, by omega, Px.same s3, nal, fun H4 t zs k4 R4 dt4 T4 lr4 lz4 P4 => ?_⟩
      have f3 := fr4 (kx.same s3) (ax.same s3) (s3 _ _ lrx) (s3 _ _ dtx) (s3 _ _ dbx)
      have nt3 : NT [c.a, c.lr, c.dt] H3 := fun z hz => NT4 (ax.same s3) (s3 _ _ lrx) (s3 _ _ dtx) (s3 _ _ dbx) z (by simp at hz ⊢; rcases hz with h | h | h <;> simp [h])
      refine ⟨rest1.length, ?_, rest1, _, _, zs, _, rfl, rfl, R4, (kx.same s3).trans (k4.sub (by simp)), dt4, ?_, lr4, by simp; omega, P4, ?_, ?_, hT'⟩
      · have : rest1.length ≤ r'.length := hl.le
        simp; omega
      · exact k4 _ _ (s3 _ _ dbx) (by simp [nab.symm, nlb.symm, ndd.symm])
      · intro t' nm' hx
        rcases List.mem_append.mp hx with hx | hx
        · obtain ⟨i, M, L, e1, e2, e3⟩ := psx t' nm' hx
          have i1 := (List.getElem?_eq_some_iff.mp e1).1
          have i2 := (List.getElem?_eq_some_iff.mp e2).1
          exact ⟨i, M, L, by rw [List.getElem?_append_left i1]; exact e1, by rw [List.getElem?_append_left i2]; exact e2, e3⟩
        · obtain ⟨L, hL, e⟩ := List.mem_map.mp hx
          cases e
          exact ⟨tas.length, ⟨nm, loops⟩, L, by simp, by rw [Tx.1]; simp, hL, rfl⟩
      · refine ⟨by simp [Tx.1], snoc_at (P := fun a M => TrackAt T H H4 a M) Tx.1 (fun i a M e1 e2 => ((Tx.same s3).2 i a M e1 e2).keep k4 nt3 fun z hz => S4 z (by simp at hz ⊢; rcases hz with h | h | h <;> simp [h])) (T4.back f3)⟩
end
end Ev
end

section
namespace Ev
open PySem PySem.Spec PyProof.Rows L2
/-! ## boards.py, what all need -/
section
variable {K : PySem.W.Frag} {mg : Str → Option Value}
/-- nothing stood -/
abbrev noH : Hp := fun _ => none
/-- a board at a -/
def BoardAt (T : Txt K mg) (H : Hp) (a : Addr) (text : Str) (B : BoardM) : Prop := ∃ dt db tas bas, AtBoard T H a ⟨.str text, .ref dt, .ref db, .int (B.bar : Int)⟩ ∧ H dt = some (.dK (kvN (·.name) B.tracks tas)) ∧ H db = some (.dK (kvN (·.name) B.buttons bas)) ∧
  TracksAt T noH H tas B.tracks ∧ ButtonsAt T noH H bas B.buttons ∧ B.Well
theorem BoardAt.same {T : Txt K mg} {H H' : Hp} {a : Addr} {text : Str} {B : BoardM} (h : BoardAt T H a text B) (s : Same H H') : BoardAt T H' a text B := by
  obtain ⟨dt, db, tas, bas, h1, h2, h3, h4, h5, h6⟩ := h
  exact ⟨dt, db, tas, bas, h1.same s, s _ _ h2, s _ _ h3, h4.same s, h5.same s, h6⟩
/-- the lines of a text -/
def linesOf (text : Str) : List Str := Txt.split text "\n"
/-- the text of a board -/
structure TextOf (text : Str) (B : BoardM) : Prop where
  r : BoardR (linesOf text) B
  s : ShortL (linesOf text)
  n : text.length ≤ 1000000
/-- whether data is the name of a button -/
def inB (B : BoardM) : PyData → Bool
  | .str s => decide (s ∈ B.buttons.map (·.name))
  | _ => false
end
/-- all that is new behind H0, and all tuples -/
def Part (H0 H G : Hp) : Prop := ∀ b o, H b = some o → H0 b = none ∨ isTupH o = true → G b = some o
section
variable {K : PySem.W.Frag} {mg : Str → Option Value} {T : Txt K mg} {H0 H G : Hp}
theorem sqt_part (p : Part H0 H G) {a : Addr} {xs : List V} (h : SqT K H a xs) : SqT K G a xs := by
  rcases h with (h | ⟨o, h⟩) | h
  · exact .inl (.inl (p _ _ h (.inr rfl)))
  · exact .inl (.inr ⟨o, p _ _ h (.inr rfl)⟩)
  · exact .inr h
mutual
theorem dp_part (p : Part H0 H G) : ∀ {v : V} {d : PyData}, Dp K H v d → noL d = true → Dp K G v d
  | _, _, .non, _ => .non
  | _, _, .bl b, _ => .bl b
  | _, _, .int i, _ => .int i
  | _, _, .str x, _ => .str x
  | _, _, .lst h t, q => by cases q
  | _, _, .tup h t, q => .tup (sqt_part p h) (dpAll_part p t q)
theorem dpAll_part (p : Part H0 H G) : ∀ {vs : List V} {ds : List PyData}, DpAll K H vs ds → noLs ds = true → DpAll K G vs ds
  | _, _, .nil, _ => .nil
  | _, _, .cons h t, q => by
    have q' : (noL _ && noLs _) = true := q
    rw [Bool.and_eq_true] at q'
    exact .cons (dp_part p h q'.1) (dpAll_part p t q'.2)
end
theorem LoopAt.part {a : Addr} {L : LoopM} (h : LoopAt T H0 H a L) (p : Part H0 H G) : LoopAt T noH G a L := by
  obtain ⟨pl, n1, n2, ts, ⟨dx, h1⟩, h2, h3⟩ := h
  exact ⟨pl, rfl, rfl, ts, ⟨dx, p _ _ h1 (.inl n1)⟩, p _ _ h2 (.inl n2), dpAll_part p h3 (noLs_map noL_place _)⟩
theorem TrackAt.part {a : Addr} {M : TrackM} (h : TrackAt T H0 H a M) (p : Part H0 H G) : TrackAt T noH G a M := by
  obtain ⟨d, as, n1, n2, ⟨⟨dx, h1⟩, h2, h3⟩, h4⟩ := h
  exact ⟨d, as, rfl, rfl, ⟨⟨dx, p _ _ h1 (.inl n1)⟩, p _ _ h2 (.inl n2), h3⟩, fun i a L e1 e2 => (h4 i a L e1 e2).part p⟩
theorem TracksAt.part {as : List Addr} {ts : List TrackM} (h : TracksAt T H0 H as ts) (p : Part H0 H G) : TracksAt T noH G as ts := ⟨h.1, fun i a M e1 e2 => (h.2 i a M e1 e2).part p⟩
theorem ButtonAt.part {b : Addr} {M : ButtonM} (h : ButtonAt T H0 H b M) (p : Part H0 H G) : ButtonAt T noH G b M := by
  obtain ⟨d, as, n1, n2, ⟨dx, h1⟩, h2, h3, h4⟩ := h
  exact ⟨d, as, rfl, rfl, ⟨dx, p _ _ h1 (.inl n1)⟩, p _ _ h2 (.inl n2), h3, fun i a x e1 e2 => dp_part p (h4 i a x e1 e2) rfl⟩
theorem ButtonsAt.part {as : List Addr} {bs : List ButtonM} (h : ButtonsAt T H0 H as bs) (p : Part H0 H G) : ButtonsAt T noH G as bs := ⟨h.1, fun i a M e1 e2 => (h.2 i a M e1 e2).part p⟩
end
def spBoardInit {K : PySem.W.Frag} {mg : Str → Option Value} (T : Txt K mg) : Sp := fun vs H Q _ => ∃ (x dx : Addr) (text : Str) (B : BoardM), vs = [.ref x, .str text] ∧ H x = some (.ins T.Board.C dx []) ∧ TextOf text B ∧
  ∀ H', Keep [x] H H' → (∀ G, (∀ b o, H' b = some o → H b = none ∨ isTupH o = true ∨ b = x → G b = some o) → BoardAt T G x text B) → Q .non H'
def spContains {K : PySem.W.Frag} {mg : Str → Option Value} (T : Txt K mg) : Sp := fun vs H Q _ => ∃ (a : Addr) (x : V) (d : PyData) (text : Str) (B : BoardM), vs = [.ref a, x] ∧ BoardAt T H a text B ∧ Dp K H x d ∧ Q (.bl (inB B d)) H
section
variable {P : Program} {w : World} {K : PySem.W.Frag} {mg : Str → Option Value} {base : Heap}
theorem ok_BoardD_initD (T : Txt K mg) : FnOk P w K mg base CX0 7 T.Board.init.f T.Board.init.fd ["self", "text"] (spBoardInit T) := by
  refine T.Board.init.F.ok sc_BoardD_initD (fun vs H Q E h => ?_) (fun cdv A outer s H vs Q E hr h => ?_)
  · obtain ⟨x, dx, text, B, rfl, _⟩ := h
    rfl
  · obtain ⟨x, dx, text, B, rfl, hx, ⟨hB, hs, hn⟩, k⟩ := h
    refine ⟨_, (pss_cons (ps_if (pt_not (pt_val (pe_callB call_isi (by rfl) T.c.z_isinstance (by decide +kernel) (pa_cons (pv 1) (pa_cons (pe_bltn (v := .ty "str") rfl T.c.z_str (by decide +kernel) rfl) pa_nil))))) (pss_one ps_never) pss_nil) (pss_cons (ps_set (i := 2) sc_BoardD_initD.nd rfl (Or.inl rfl) (pe_make T.Reader.made (ok_ReaderD_initD T) (hr.mono (by decide)) rfl T.Reader.gC T.Reader.init.b .nil pass0 (pa_cons (pe_split (pv 1) (pe_gc rfl T.c.g_FEED)) pa_nil))) (pss_cons (ps_expr (pe_methO nmReader_read (pe_meth0 (pe_mono (pv 2)) T.Reader.cl T.Reader.m_Reader_read (ok_Reader_read T) (hr.mono (by decide)) T.Reader.d_Reader_read.b .nil pass0))) (pss_cons (ps_fld (pv 0) (pv 1) rfl) (pss_cons (ps_fld (pv 0) (pe_get (frReader_own_tracks T) (pv 2)) rfl) (pss_cons (ps_fld (pv 0) (pe_get (frReader_own_buttons T) (pv 2)) rfl) (pss_one (ps_fld (pv 0) (pe_get (frReader_own_bar T) (pv 2)) rfl)))))))), ?_⟩
    refine ⟨_, rfl, _, _, _, _, _, rfl, .ty _, tyx_dp (.str text), kit_s _, _, rfl, ?_⟩
    refine ifF rfl ?_
    refine ⟨_, rfl, ⟨_, rfl⟩, _, _, rfl, rfl, rfl, by rw [sizeLine_eq]; omega, fun al nal => ?_⟩
    have s1 : Same H (upd H al (.lst ((linesOf text).map V.str))) := same_upd nal
    have al1 : upd H al (.lst ((linesOf text).map V.str)) al = some (.lst ((linesOf text).map V.str)) := upd_same
    have xal : x ≠ al := ne_of_none hx nal
    refine fun ca dxr nca ndx ne => ⟨ca, dxr, al, rfl, upd_same, fun H2 dt db lr k2 ndt ndb nlr a2 dt2 db2 lr2 ndd => ⟨rfl, ?_⟩⟩
    have s2 := make_keep nca ndx k2
    have out : ∀ {z : Addr}, upd (upd (upd H al (.lst ((linesOf text).map V.str))) dxr (.own ca)) ca (.ins T.Reader.C dxr []) z = none → H z = none := fun {z} e => by
      have n1 : z ≠ ca := fun q => by rw [q, upd_same] at e; cases e
      rw [upd_ne n1] at e
      have n2 : z ≠ dxr := fun q => by rw [q, upd_same] at e; cases e
      rw [upd_ne n2] at e
      exact s1.fresh e
    have hca : H ca = none := s1.fresh nca
    have hdt0 := out ndt
    have hdb0 := out ndb
    have hlr0 := out nlr
    have lral : lr ≠ al := fun q => by
      have n1 : al ≠ ca := ne_of_none al1 nca
      have n2 : al ≠ dxr := ne_of_none al1 ndx
      rw [q, upd_ne n1, upd_ne n2] at nlr
      exact nomatch al1.symm.trans nlr
    have s02 := s1.trans s2
    refine ⟨_, rfl, ca, _, rfl, a2, ⟨ca, al, dt, db, lr, linesOf text⟩, B, rfl, ⟨[], rfl, a2, s2 _ _ al1, hs⟩, hB, dt2, db2, lr2, lral, ndd, fun H3 tas bas k3 a3 dt3 db3 T3 B3 => ?_⟩
    have wB := hB.well
    have k03 : Keep [x] H H3 := fun b o e n => k3 b o (s02 b o e) (by
      simp
      exact ⟨ne_of_none e hca, ne_of_none e hlr0, ne_of_none e hdt0, ne_of_none e hdb0⟩)
    have x3 : H3 x = some (.ins T.Board.C dx []) := k3 x _ (s02 _ _ hx) (by
      simp
      exact ⟨ne_of_none hx hca, ne_of_none hx hlr0, ne_of_none hx hdt0, ne_of_none hx hdb0⟩)
    have nxca : ca ≠ x := fun q => by rw [q, hx] at hca; cases hca
    have nxdt : dt ≠ x := fun q => by rw [q, hx] at hdt0; cases hdt0
    have nxdb : db ≠ x := fun q => by rw [q, hx] at hdb0; cases hdb0
    refine ⟨_, rfl, _, rfl, x, _, dx, _, rfl, x3, T.Board.cl, T.Board.na 0 _ rfl, by decide, ?_⟩
    refine ⟨_, rfl, ca, _, rfl, a3.put nxca, _, rfl, x, _, dx, _, rfl, upd_same, T.Board.cl, T.Board.na 1 _ rfl, by show 1 < 1000; decide, ?_⟩
    refine ⟨_, rfl, ca, _, rfl, (a3.put nxca).put nxca, _, rfl, x, _, dx, _, rfl, upd_same, T.Board.cl, T.Board.na 2 _ rfl, by show 2 < 1000; decide, ?_⟩
    refine ⟨_, rfl, ca, _, rfl, ((a3.put nxca).put nxca).put nxca, _, rfl, x, _, dx, _, rfl, upd_same, T.Board.cl, T.Board.na 3 _ rfl, by show 3 < 1000; decide, ?_⟩
    rw [pnBoard_own_text, pnBoard_own_tracks, pnBoard_own_buttons, pnBoard_own_bar]
    have NTx : ∀ {Hx : Hp} {fs}, Hx x = some (.ins T.Board.C dx fs) → NT [x] Hx := by
      intro Hx fs e z hz u e'
      rw [List.mem_singleton] at hz
      rw [hz, e] at e'
      cases e'
      rfl
    have H0x : ∀ z ∈ [x], ∃ u, H z = some u := fun z hz => by
      rw [List.mem_singleton] at hz
      exact ⟨_, by rw [hz]; exact hx⟩
    have fr2 : ∀ b, H2 b = none → H b = none := fun b e => s02.fresh e
    have hT := T3.back (H0 := H) fr2
    have hBt := B3.back (H0 := H) fr2
    have kf : ∀ {u1 u2 u3 u4 : HO}, Keep [x] H3 (upd (upd (upd (upd H3 x u1) x u2) x u3) x u4) := fun {u1 u2 u3 u4} => (Keep.refl _ _).put1.put1.put1.put1
    refine k _ (((k03.put1).put1).put1.put1) fun G hG => ?_
    have pt : ∀ {Hx : Hp}, (∀ b o, Hx b = some o → H b = none ∨ isTupH o = true ∨ b = x → G b = some o) → Part H Hx G := fun hG b o e q => hG b o e (q.imp id .inl)
    exact ⟨dt, db, tas, bas, ⟨dx, hG _ _ upd_same (.inr (.inr rfl))⟩, hG _ _ (kf _ _ dt3 (by simpa using nxdt)) (.inl hdt0), hG _ _ (kf _ _ db3 (by simpa using nxdb)) (.inl hdb0), (hT.keep kf (NTx x3) H0x).part (pt hG), (hBt.keep kf (NTx x3) H0x).part (pt hG), wB⟩
theorem ok_BoardD_containsD (T : Txt K mg) : FnOk P w K mg base CX0 1 T.Board.d_BoardD_containsD.f T.Board.d_BoardD_containsD.fd ["self", "value"] (spContains T) := by
  refine T.Board.d_BoardD_containsD.F.ok sc_BoardD_containsD (fun vs H Q E h => ?_) (fun cdv A outer s H vs Q E hr h => ?_)
  · obtain ⟨a, x, d, text, B, rfl, _⟩ := h
    rfl
  · obtain ⟨a, x, d, text, B, rfl, hB, hd, k⟩ := h
    obtain ⟨dt, db, tas, bas, h1, h2, h3, h4, h5, h6⟩ := hB
    refine ⟨_, (pss_one (ps_ret (pe_and (pe_callB call_isi (by rfl) T.c.z_isinstance (by decide +kernel) (pa_cons (pv 1) (pa_cons (pe_bltn (v := .ty "str") rfl T.c.z_str (by decide +kernel) rfl) pa_nil))) (pe_one (pe_cmp (pc_din (hu_of hr) (pv 1) (pe_get (frBoard_own_buttons T) (pv 0))) rfl))))), ?_⟩
    refine ⟨_, rfl, _, _, _, _, _, rfl, .ty _, tyx_dp hd, kit_s d, _, rfl, ?_⟩
    have k' : ∀ b, inB B d = b → Q (.bl b) H := fun b e => e ▸ k
    cases hd with
    | str z =>
      refine ifT rfl ?_
      refine ⟨_, rfl, _, rfl, a, _, rfl, h1, db, _, rfl, DGet.k (k := Sum.inr z) h3, ?_⟩
      exact k' _ (valV_dec h5.1).symm
    | non => exact ifF rfl (k' _ rfl)
    | bl _ => exact ifF rfl (k' _ rfl)
    | int _ => exact ifF rfl (k' _ rfl)
    | lst _ _ => exact ifF rfl (k' _ rfl)
    | tup _ _ => exact ifF rfl (k' _ rfl)
end
end Ev
end

section
namespace Ev
open PySem PySem.Spec PyProof.Rows L2
/-! ## machine.py -/
def spBegunL {K : PySem.W.Frag} {mg : Str → Option Value} (T : Txt K mg) : Sp := fun vs H Q _ => ∃ (a : Addr) (H0 : Hp) (L : LoopM), vs = [.ref a] ∧ LoopAt T H0 H a L ∧ ∀ H' v, Same H H' → Dp K H' v (stD (beginL L)) → Q v H'
def spFollowed {K : PySem.W.Frag} {mg : Str → Option Value} (T : Txt K mg) : Sp := fun vs H Q _ => ∃ (t : Addr) (v : V) (H0 : Hp) (M : TrackM) (s : St3), vs = [.ref t, v] ∧ TrackAt T H0 H t M ∧ M.Well ∧ (∀ L ∈ M.loops, L.then_ ≠ "" → L.then_ ∈ M.loops.map (·.name)) ∧ Dp K H v (stD s) ∧ stOk M s ∧
  ∀ H' v', Same H H' → Dp K H' v' (stD (follow M s)) → Q v' H'
def spBegunBy {K : PySem.W.Frag} {mg : Str → Option Value} (T : Txt K mg) : Sp := fun vs H Q _ => ∃ (b t : Addr) (v : V) (H0 : Hp) (ts : List TrackM) (B : ButtonM) (M : TrackM) (s : St3), vs = [.ref b, .ref t, v] ∧ ButtonAt T H0 H b B ∧ B.Well ts ∧ TrackAt T H0 H t M ∧ M.Well ∧ M ∈ ts ∧ (ts.map (·.name)).Nodup ∧ Dp K H v (stD s) ∧ stOk M s ∧
  ∀ H' v', Same H H' → Dp K H' v' (stD (begunBy B M s)) → Q v' H'
def spSoundsOf {K : PySem.W.Frag} {mg : Str → Option Value} (T : Txt K mg) : Sp := fun vs H Q _ => ∃ (t : Addr) (v : V) (H0 : Hp) (M : TrackM) (s : St3), vs = [.ref t, v] ∧ TrackAt T H0 H t M ∧ M.Well ∧ Dp K H v (stD s) ∧ stOk M s ∧
  ∀ H' v', Same H H' → Dp K H' v' (placeD (soundsOf M s)) → Q v' H'
section
variable {K : PySem.W.Frag} {mg : Str → Option Value}
/-- the loop of a name that stands -/
theorem TrackAt.loop {T : Txt K mg} {H0 H : Hp} {t : Addr} {M : TrackM} (h : TrackAt T H0 H t M) (w : M.Well) : ∃ d as, AtTrack T H t ⟨.str M.name, .ref d⟩ ∧ H d = some (.dK (kvN (·.name) M.loops as)) ∧ as.length = M.loops.length ∧ ∀ L ∈ M.loops, ∃ a, valV (kvN (·.name) M.loops as) (Sum.inr L.name) = some (.ref a) ∧ LoopAt T H0 H a L := by
  obtain ⟨d, as, _, _, ⟨h1, h2, h3⟩, h4⟩ := h
  refine ⟨d, as, h1, h2, h3, fun L hL => ?_⟩
  obtain ⟨i, hi, ei⟩ := List.mem_iff_getElem.mp hL
  have e1 : M.loops[i]? = some L := by rw [List.getElem?_eq_getElem hi, ei]
  have e2 : as[i]? = some (as[i]'(by omega)) := List.getElem?_eq_getElem (by omega)
  exact ⟨_, valV_at w.nd e1 e2, h4 i _ L e2 e1⟩
end
def spStrikesOf {K : PySem.W.Frag} {mg : Str → Option Value} (T : Txt K mg) : Sp := fun vs H Q _ => ∃ (a : Addr) (v : V) (H0 : Hp) (tas : List Addr) (ts : List TrackM) (ss : List St3), vs = [.ref a, v] ∧ SqL K H a (tas.map V.ref) ∧ TracksAt T H0 H tas ts ∧ (∀ t ∈ ts, t.Well) ∧ ts.length ≤ 4 ∧
  Dp K H v (.tuple (ss.map stD)) ∧ stsOk ts ss ∧ ∀ H' v', Same H H' → Dp K H' v' (.tuple (strikesD ts ss)) → Q v' H'
def spAllFollowed {K : PySem.W.Frag} {mg : Str → Option Value} (T : Txt K mg) : Sp := fun vs H Q _ => ∃ (a : Addr) (v : V) (H0 : Hp) (tas : List Addr) (ts : List TrackM) (ss : List St3), vs = [.ref a, v] ∧ SqL K H a (tas.map V.ref) ∧ TracksAt T H0 H tas ts ∧ (∀ t ∈ ts, t.Well) ∧ ts.length ≤ 4 ∧ (∀ t ∈ ts, ∀ L ∈ t.loops, L.then_ ≠ "" → L.then_ ∈ t.loops.map (·.name)) ∧
  Dp K H v (.tuple (ss.map stD)) ∧ stsOk ts ss ∧ ∀ H' v', Same H H' → Dp K H' v' (.tuple ((followAll ts ss).map stD)) → Q v' H'
def spAllBegun {K : PySem.W.Frag} {mg : Str → Option Value} (T : Txt K mg) : Sp := fun vs H Q _ => ∃ (b a : Addr) (v : V) (H0 : Hp) (tas : List Addr) (ts : List TrackM) (B : ButtonM) (ss : List St3), vs = [.ref b, .ref a, v] ∧ SqL K H a (tas.map V.ref) ∧ ButtonAt T H0 H b B ∧ B.Well ts ∧ TracksAt T H0 H tas ts ∧ (∀ t ∈ ts, t.Well) ∧ ts.length ≤ 4 ∧ (ts.map (·.name)).Nodup ∧
  Dp K H v (.tuple (ss.map stD)) ∧ stsOk ts ss ∧ ∀ H' v', Same H H' → Dp K H' v' (.tuple ((begunAll B ts ss).map stD)) → Q v' H'
section
variable {P : Program} {w : World} {K : PySem.W.Frag} {mg : Str → Option Value} {base : Heap}
theorem ok_Loop_begun (T : Txt K mg) : FnOk P w K mg base CX0 1 T.Loop.d_Loop_begun.f T.Loop.d_Loop_begun.fd ["self"] (spBegunL T) := by
  refine T.Loop.d_Loop_begun.F.ok sc_Loop_begun (fun vs H Q E h => ?_) (fun cdv A outer s H vs Q E hr h => ?_)
  · obtain ⟨a, H0, L, rfl, _⟩ := h
    rfl
  · obtain ⟨a, H0, L, rfl, ⟨pl, _, _, ts, h1, h2, h3⟩, k⟩ := h
    refine ⟨_, (pss_one (ps_ret (pe_tup (pa_cons (pe_get (frLoop_name T) (pv 0)) (pa_cons pe_int (pa_cons (pe_get (frLoop_span T) (pv 0)) pa_nil)))))), ?_⟩
    refine ⟨_, rfl, a, _, rfl, h1, _, rfl, a, _, rfl, h1, by show 3 ≤ sizeLine; exact le_line (by omega), fun p hp => ?_⟩
    exact k _ _ (same_upd hp) (.tup (.inl (.inl upd_same)) (.cons (.str _) (.cons (.int _) (.cons (.int _) .nil))))
theorem ok_followed (T : Txt K mg) : FnOk P w K mg base CX0 2 T.d_followed.f T.d_followed.fd ["track", "standing"] (spFollowed T) := by
  refine T.d_followed.F.ok sc_followed (fun vs H Q E h => ?_) (fun cdv A outer s H vs Q E hr h => ?_)
  · obtain ⟨t, v, H0, M, s, rfl, _⟩ := h
    rfl
  · obtain ⟨t, v, H0, M, st, rfl, hT, wM, th, hv, ho, k⟩ := h
    refine ⟨_, (pss_cons (ps_if (pt_cmpR (op_eqD hr.units) (pv 1) (pe_tup pa_nil) (nomark _)) (pss_one (ps_ret (pe_tup pa_nil))) pss_nil) (pss_cons (ps_asg (pv 1) (pg_tup rfl (pgs_cons (pg_name (i := 2) sc_followed.nd rfl (Or.inl rfl)) (pgs_cons (pg_name (i := 3) sc_followed.nd rfl (Or.inl rfl)) (pgs_cons (pg_name (i := 4) sc_followed.nd rfl (Or.inl rfl)) pgs_nil))))) (pss_cons (ps_set (i := 5) sc_followed.nd rfl (Or.inl rfl) (pe_dget (hu_of hr) (pe_get (frTrack_own_loops T) (pv 0)) (pv 2) (fun _ _ => rfl))) (pss_cons (ps_if (pt_cmpR op_eq (pv 4) pe_int (nomark _)) (pss_one (ps_ret (pe_ifExp (pt_cmpR op_ne (pe_get (frLoop_then T) (pv 5)) pe_str (nomark _)) (pe_methO nmLoop_begun (pe_meth0 (pe_mono (pe_dget (hu_of hr) (pe_get (frTrack_own_loops T) (pv 0)) (pe_get (frLoop_then T) (pv 5)) (fun _ _ => rfl))) T.Loop.cl T.Loop.m_Loop_begun (ok_Loop_begun T) (hr.mono (by decide)) T.Loop.d_Loop_begun.b .nil pass0)) (pe_tup pa_nil)))) pss_nil) (pss_one (ps_ret (pe_tup (pa_cons (pv 2) (pa_cons (pe_op op_mod (pe_op op_add (pv 3) pe_int) (pe_get (frLoop_length T) (pv 5))) (pa_cons (pe_ifExp (pt_cmpR op_gt (pv 4) pe_int (nomark _)) (pe_op op_sub (pv 4) pe_int) pe_int) pa_nil)))))))))), ?_⟩
    refine ⟨_, rfl, by show 0 ≤ sizeLine; omega, fun e he => ?_⟩
    have s1 : Same H (upd H e (.tup [])) := same_upd he
    have e1 : upd H e (.tup []) e = some (.tup []) := upd_same
    generalize upd H e (.tup []) = H1 at *
    refine ⟨stD st, .tuple [], s1.dp hv, .tup (.inl (.inl e1)) .nil, shaped_st wM ho, shaped_nil, _, rfl, ?_⟩
    rw [eqv_st]
    cases st with
    | none =>
      refine ifT rfl ?_
      refine ⟨by show 0 ≤ sizeLine; omega, fun e2 he2 => ?_⟩
      exact k _ _ (s1.new he2) (.tup (.inl (.inl upd_same)) .nil)
    | some x =>
      obtain ⟨n, p, l⟩ := x
      refine ifF rfl ?_
      obtain ⟨L, hL, rfl, hp, hl⟩ := ho
      obtain ⟨a, xs, rfl, hxs, hd⟩ := (s1.dp hv).tup_of
      cases hd with
      | cons d1 hd =>
      cases hd with
      | cons d2 hd =>
      cases hd with
      | cons d3 hd =>
      cases hd
      cases d1
      cases d2
      cases d3
      have hT1 := hT.same s1
      obtain ⟨d, as, t1, t2, t3, t4⟩ := hT1.loop wM
      obtain ⟨la, v1, l1⟩ := t4 L hL
      have l1' := l1
      obtain ⟨pl, _, _, ts, a1, _, _⟩ := l1'
      have g := DGet.k (k := Sum.inr L.name) t2
      rw [v1] at g
      refine ⟨_, rfl, a, _, rfl, hxs, rfl, _, _, rfl, _, _, rfl, _, _, rfl, rfl, ?_⟩
      refine ⟨_, rfl, t, _, rfl, t1, _, rfl, d, _, rfl, g, ?_⟩
      have wL := wM.lw L hL
      have ef : follow M (some (L.name, p, l)) = if l = 1 then (if L.then_ = "" then none else (loopOf M L.then_).bind beginL) else some (L.name, (p + 1) % L.length, l - 1) := by
        show (loopOf M L.name).bind _ = _
        rw [loopOf_some wM hL]
        rfl
      rw [ef] at k
      refine ⟨_, rfl, rfl, _, rfl, ?_⟩
      by_cases hl1 : l = 1
      · rw [if_pos hl1] at k
        refine ifT (dT (by rw [hl1]; rfl)) ?_
        refine ⟨_, rfl, la, _, rfl, a1, rfl, _, rfl, ?_⟩
        by_cases hth : L.then_ = ""
        · rw [if_pos hth] at k
          refine ifF (by show (!decide _) = false; rw [dT (congrArg V.str hth)]; rfl) ?_
          exact ⟨by show 0 ≤ sizeLine; omega, fun e2 he2 => k _ _ (s1.new he2) (.tup (.inl (.inl upd_same)) .nil)⟩
        · rw [if_neg hth] at k
          refine ifT (by show (!decide _) = true; rw [dF fun q => hth (V.str.inj q)]; rfl) ?_
          obtain ⟨L2, hL2, e2⟩ := List.mem_map.mp (th L hL hth)
          rw [← e2, loopOf_some wM hL2] at k
          obtain ⟨lb, v2, l2⟩ := t4 L2 hL2
          have g2 := DGet.k (k := Sum.inr L2.name) t2
          rw [v2] at g2
          have l2' := l2
          obtain ⟨pl2, _, _, ts2, b1, _, _⟩ := l2'
          refine ⟨_, rfl, t, _, rfl, t1, _, rfl, la, _, rfl, a1, d, .ref lb, rfl, ?_, lb, _, rfl, b1, lb, H0, L2, rfl, l2, fun H' v' s' hd' => k H' v' (s1.trans s') hd'⟩
          show DGet H1 d (.str L.then_) (some (.ref lb))
          rw [← e2]
          exact g2
      · rw [if_neg hl1] at k
        refine ifF (dF fun q => hl1 (by have := V.int.inj q; omega)) ?_
        have hmod : (((p : Int) + 1) % (L.length : Int)) = (((p + 1) % L.length : Nat) : Int) := by rw [Int.natCast_emod]; rfl
        refine ⟨_, rfl, _, rfl, _, _, rfl, rfl, _, rfl, la, _, rfl, a1, _, _, rfl, rfl, by have := wL.l1; omega, ?_⟩
        refine ⟨_, rfl, _, _, rfl, rfl, _, rfl, ?_⟩
        by_cases h0 : (0 : Int) < (l : Int)
        · refine ifT (dT h0) ?_
          refine ⟨_, rfl, _, _, rfl, rfl, by show 3 ≤ sizeLine; exact le_line (by omega), fun e2 he2 => ?_⟩
          refine k _ _ (s1.new he2) (.tup (.inl (.inl upd_same)) (.cons (.str _) (.cons (by rw [← hmod]; exact .int _) (.cons ?_ .nil))))
          rw [show ((l - 1 : Nat) : Int) = (l : Int) - 1 by omega]
          exact .int _
        · refine ifF (dF h0) ?_
          refine ⟨by show 3 ≤ sizeLine; exact le_line (by omega), fun e2 he2 => ?_⟩
          refine k _ _ (s1.new he2) (.tup (.inl (.inl upd_same)) (.cons (.str _) (.cons (by rw [← hmod]; exact .int _) (.cons ?_ .nil))))
          rw [show l - 1 = 0 by omega]
          exact .int 0
theorem ok_begun_by (T : Txt K mg) : FnOk P w K mg base CX0 2 T.d_begun_by.f T.d_begun_by.fd ["button", "track", "come"] (spBegunBy T) := by
  refine T.d_begun_by.F.ok sc_begun_by (fun vs H Q E h => ?_) (fun cdv A outer s H vs Q E hr h => ?_)
  · obtain ⟨b, t, v, H0, ts, B, M, s, rfl, _⟩ := h
    rfl
  · obtain ⟨b, t, v, H0, ts, B, M, st, rfl, hB, wB, hT, wM, hMt, ndt, hv, ho, k⟩ := h
    refine ⟨_, (pss_cons (ps_if (pt_cmp (pc_dnotin (hu_of hr) (pe_get (frTrack_name T) (pv 1)) (pe_get (frButton_deeds T) (pv 0))) rfl) (pss_one (ps_ret (pv 2))) pss_nil) (pss_cons (ps_asg (pe_dget (hu_of hr) (pe_get (frButton_deeds T) (pv 0)) (pe_get (frTrack_name T) (pv 1)) (fun _ _ => rfl)) (pg_tup rfl (pgs_cons (pg_name (i := 3) sc_begun_by.nd rfl (Or.inl rfl)) (pgs_cons (pg_name (i := 4) sc_begun_by.nd rfl (Or.inl rfl)) pgs_nil)))) (pss_cons (ps_if (pt_cmpR op_eq (pv 3) (pe_gc rfl T.c.g_STOPS) (nomark _)) (pss_one (ps_ret (pe_tup pa_nil))) pss_nil) (pss_cons (ps_set (i := 5) sc_begun_by.nd rfl (Or.inl rfl) (pe_dget (hu_of hr) (pe_get (frTrack_own_loops T) (pv 1)) (pv 4) (fun _ _ => rfl))) (pss_cons (ps_if (PW.pt (pw_or (pt_cmpR op_eq (pv 3) (pe_gc rfl T.c.g_PLAYS) (nomark _)) (pw_or1 (pt_cmpR (op_eqD hr.units) (pv 2) (pe_tup pa_nil) (nomark _))))) (pss_one (ps_ret (pe_methO nmLoop_begun (pe_meth0 (pe_mono (pv 5)) T.Loop.cl T.Loop.m_Loop_begun (ok_Loop_begun T) (hr.mono (by decide)) T.Loop.d_Loop_begun.b .nil pass0)))) pss_nil) (pss_one (ps_ret (pe_tup (pa_cons (pv 4) (pa_cons (pe_op op_mod (pe_ix ix_tup (pv 2) pe_int (fun _ _ => rfl)) (pe_get (frLoop_length T) (pv 5))) (pa_cons (pe_get (frLoop_span T) (pv 5)) pa_nil))))))))))), ?_⟩
    obtain ⟨bd, bas, _, _, b1, b2, b3, b4⟩ := hB
    obtain ⟨d, as, t1, t2, t3, t4⟩ := hT.loop wM
    refine ⟨_, rfl, t, _, rfl, t1, _, rfl, b, _, rfl, b1, bd, _, rfl, DGet.k (k := Sum.inr M.name) b2, _, rfl, ?_⟩
    rw [valV_dec b3]
    unfold begunBy at k
    cases hf : B.deeds.find? (fun d => decide (d.1 = M.name)) with
    | none =>
      rw [hf] at k
      have hno : M.name ∉ B.deeds.map (·.1) := fun q => by
        obtain ⟨x, hx, ex⟩ := List.mem_map.mp q
        have := List.find?_eq_none.mp hf x hx
        simp [ex] at this
      refine ifT (by rw [dF hno]; rfl) ?_
      exact ⟨_, rfl, k H v (Same.refl _) hv⟩
    | some dd =>
      rw [hf] at k
      have k : ∀ H' v', Same H H' → Dp K H' v' (stD (begunOf M dd st)) → Q v' H' := k
      have hdm := List.mem_of_find?_eq_some hf
      have hdn : dd.1 = M.name := by simpa using List.find?_some hf
      have hin : M.name ∈ B.deeds.map (·.1) := by rw [← hdn]; exact List.mem_map_of_mem hdm
      refine ifF (by rw [dT hin]; rfl) ?_
      obtain ⟨i, hi, ei⟩ := List.mem_iff_getElem.mp hdm
      have f1 : B.deeds[i]? = some dd := by rw [List.getElem?_eq_getElem hi, ei]
      have f2 : bas[i]? = some (bas[i]'(by omega)) := List.getElem?_eq_getElem (by omega)
      have g := DGet.k (k := Sum.inr M.name) b2
      rw [← hdn, valV_at wB.nd f1 f2, hdn] at g
      have hdp := b4 i _ dd f2 f1
      obtain ⟨a, xs, ea, hxs, hd⟩ := hdp.tup_of
      cases ea
      cases hd with
      | cons d1 hd =>
      cases hd with
      | cons d2 hd =>
      cases hd
      cases d1
      cases d2
      refine ⟨_, rfl, b, _, rfl, b1, _, rfl, t, _, rfl, t1, bd, _, rfl, g, _, _, rfl, hxs, rfl, _, _, rfl, _, _, rfl, rfl, ?_⟩
      refine ⟨_, rfl, rfl, _, rfl, ?_⟩
      by_cases hs : dd.2.1 = "stops"
      · rw [begunOf_stops hs] at k
        refine ifT (dT (congrArg V.str hs)) ?_
        exact ⟨by show 0 ≤ sizeLine; omega, fun e2 he2 => k _ _ (same_upd he2) (.tup (.inl (.inl upd_same)) .nil)⟩
      · obtain ⟨L, hL, eL⟩ := wB.loop hdm hMt hdn ndt hs
        have eO : loopOf M dd.2.2 = some L := by rw [← eL]; exact loopOf_some wM hL
        refine ifF (dF fun q => hs (V.str.inj q)) ?_
        obtain ⟨la, v1, l1⟩ := t4 L hL
        have g2 := DGet.k (k := Sum.inr L.name) t2
        rw [v1] at g2
        have wL := wM.lw L hL
        have l1' := l1
        obtain ⟨pl, _, _, tz, a1, _, _⟩ := l1'
        refine ⟨_, rfl, t, _, rfl, t1, _, rfl, d, .ref la, rfl, by rw [← eL]; exact g2, ?_⟩
        refine ⟨_, rfl, rfl, _, rfl, ?_⟩
        by_cases hp : dd.2.1 = "plays"
        · rw [begunOf_plays hs eO hp] at k
          refine ifT (dT (congrArg V.str hp)) ?_
          refine ifT rfl ?_
          exact ⟨_, rfl, la, _, rfl, a1, la, H0, L, rfl, l1, fun H' v' s' hd' => k H' v' s' hd'⟩
        · refine ifF (dF fun q => hp (V.str.inj q)) ?_
          refine ⟨_, rfl, by show 0 ≤ sizeLine; omega, fun e2 he2 => ?_⟩
          have s1 : Same H (upd H e2 (.tup [])) := same_upd he2
          have e1 : upd H e2 (.tup []) e2 = some (.tup []) := upd_same
          generalize upd H e2 (.tup []) = H1 at *
          refine ⟨stD st, .tuple [], s1.dp hv, .tup (.inl (.inl e1)) .nil, shaped_st wM ho, shaped_nil, _, rfl, ?_⟩
          rw [eqv_st]
          cases st with
          | none =>
            rw [begunOf_none hs eO hp] at k
            refine ifT rfl ?_
            exact ⟨_, rfl, la, _, rfl, a1.same s1, la, H0, L, rfl, l1.same s1, fun H' v' s' hd' => k H' v' (s1.trans s') hd'⟩
          | some x =>
            obtain ⟨n, p, l⟩ := x
            rw [begunOf_some hs eO hp] at k
            refine ifF rfl ?_
            obtain ⟨av, xv, rfl, hxv, hdv⟩ := (s1.dp hv).tup_of
            cases hdv with
            | cons d1 hdv =>
            cases hdv with
            | cons d2 hdv =>
            cases hdv with
            | cons d3 hdv =>
            cases hdv
            cases d1
            cases d2
            cases d3
            have hmod : ((p : Int) % (L.length : Int)) = ((p % L.length : Nat) : Int) := by rw [Int.natCast_emod]
            refine ⟨_, rfl, _, rfl, av, _, _, .int (p : Int), rfl, rfl, hxv, atI_nat rfl, _, rfl, la, _, rfl, a1.same s1, _, _, rfl, rfl, by have := wL.l1; omega, _, rfl, la, _, rfl, a1.same s1, by show 3 ≤ sizeLine; exact le_line (by omega), fun e3 he3 => ?_⟩
            exact k _ _ (s1.new he3) (.tup (.inl (.inl upd_same)) (.cons (.str _) (.cons (by rw [← hmod]; exact .int _) (.cons (.int _) .nil))))
theorem ok_all_followed (T : Txt K mg) : FnOk P w K mg base CX0 3 T.d_all_followed.f T.d_all_followed.fd ["tracks", "standings"] (spAllFollowed T) := by
  refine T.d_all_followed.F.ok sc_all_followed (fun vs H Q E h => ?_) (fun cdv A outer s H vs Q E hr h => ?_)
  · obtain ⟨a, v, H0, tas, ts, ss, rfl, _⟩ := h
    rfl
  · obtain ⟨a, v, H0, tas, ts, ss, rfl, ha, hT, wT, l4, th, hv, ho, k⟩ := h
    refine ⟨_, (pss_one (ps_ret (pe_callTy call_tuple_of (by rfl) T.c.z_tuple (by decide +kernel) (pa_cons (pe_lc (own := [("track", 2), ("standing", 3)]) (g := (gTup K 2 (gCons (gName 2) (gCons (gName 3) gNil)))) rfl sc_all_followed.nd (pi_zipX rfl T.c.z_zip (pa_cons (pv 0) (pa_cons (pv 1) pa_nil))) (blkOk_by (own := [("track", 2), ("standing", 3)]) (N := ["tracks", "standings", "track", "standing"]) (sc := defScope s_all_followed) (by decide +kernel)) (fun _ _ _ _ _ => (pg_tup rfl (pgs_cons (pg_name (i := 2) sc_all_followed.nd rfl (Or.inl rfl)) (pgs_cons (pg_name (i := 3) sc_all_followed.nd rfl (Or.inl rfl)) pgs_nil)))) (fun _ _ _ _ _ => pts_nil) (fun _ _ _ _ _ => (pe_call (ok_followed T) (hr.mono (by decide)) rfl T.g_followed T.d_followed.F.kp T.d_followed.b .nil pass0 (pa_cons (pv 2) (pa_cons (pv 3) pa_nil))))) pa_nil)))), ?_⟩
    obtain ⟨b, xs, rfl, hxs, hd⟩ := hv.tup_of
    have lx : xs.length = ss.length := by rw [hd.len, List.length_map]
    refine ⟨_, rfl, _, rfl, a, b, _, xs, false, true, rfl, ha, hxs, fun D hD => ?_⟩
    refine lc_same (walk_zipX rfl) (fun i y H => Dp K H y (stD ((followAll ts ss).getD i none))) (stays_dp _ fun i => noL_st _) (lt_line (by simp [hT.1]; omega)) hD (fun H' s' => ⟨s'.seq ha, s'.sqt hxs⟩) ?_ ?_
    · rintro i z H2 H3 Z F hi s2 ⟨Tt, x, y, rfl, hTt, rfl, e1, e2⟩ hZ
      have e1 : (tas.map V.ref)[i]? = some x := e1
      have e2 : xs[i]? = some y := e2
      refine ⟨Tt, [x, y], rfl, .inl (.inl upd_same), rfl, _, _, rfl, _, _, rfl, rfl, ?_⟩
      refine ⟨rfl, ?_⟩
      have s3 := s2.new (u := .tup [x, y]) hTt
      rw [List.getElem?_map] at e1
      cases q : tas[i]? with
      | none => rw [q] at e1; cases e1
      | some t =>
        rw [q] at e1
        cases e1
        have it : i < ts.length := by rw [← hT.1]; exact (List.getElem?_eq_some_iff.mp q).1
        have q2 : ts[i]? = some (ts[i]'it) := List.getElem?_eq_getElem it
        obtain ⟨d, f1, f2⟩ := hd.get e2
        rw [List.getElem?_map] at f1
        cases q3 : ss[i]? with
        | none => rw [q3] at f1; cases f1
        | some st =>
          rw [q3] at f1
          cases f1
          have ht := hT.2 i t _ q q2
          have hm := List.mem_of_getElem? q2
          refine ⟨_, rfl, _, rfl, t, y, H0, ts[i]'it, st, rfl, ht.same s3, wT _ hm, th _ hm, s3.dp f2, ho.2 i _ st q2 q3, fun H4 v4 s4 d4 => hZ _ _ ((same_upd hTt).trans s4) ?_⟩
          have : (followAll ts ss).getD i none = follow (ts[i]'it) st := by
            rw [List.getD_eq_getElem?_getD, followAll, List.getElem?_zipWith, q2, q3]
            rfl
          rw [this]
          exact d4
    · intro H1 ys s1 e l r
      refine ⟨D, ys, rfl, .inl ⟨.inl (.inl e), fun p hp => ?_⟩⟩
      refine k _ _ (s1.new hp) (.tup (.inl (.inl upd_same)) ?_)
      have s2 : Same H1 (upd H1 p (.tup ys)) := same_upd hp
      refine s2.dpAll (dpAll_of ?_ fun i y d e1 e2 => ?_)
      · rw [l, List.length_map, List.length_map, followAll, List.length_zipWith, lx, hT.1]
      · rw [List.getElem?_map] at e2
        have := r i y e1
        rw [List.getD_eq_getElem?_getD] at this
        cases q : (followAll ts ss)[i]? with
        | none => rw [q] at e2; cases e2
        | some st =>
          rw [q] at e2 this
          cases e2
          exact this
theorem ok_all_begun (T : Txt K mg) : FnOk P w K mg base CX0 3 T.d_all_begun.f T.d_all_begun.fd ["button", "tracks", "come"] (spAllBegun T) := by
  refine T.d_all_begun.F.ok sc_all_begun (fun vs H Q E h => ?_) (fun cdv A outer s H vs Q E hr h => ?_)
  · obtain ⟨b, a, v, H0, tas, ts, B, ss, rfl, _⟩ := h
    rfl
  · obtain ⟨bb, a, v, H0, tas, ts, B, ss, rfl, ha, hB, wB, hT, wT, l4, ndt, hv, ho, k⟩ := h
    refine ⟨_, (pss_one (ps_ret (pe_callTy call_tuple_of (by rfl) T.c.z_tuple (by decide +kernel) (pa_cons (pe_lc (own := [("track", 3), ("standing", 4)]) (g := (gTup K 2 (gCons (gName 3) (gCons (gName 4) gNil)))) rfl sc_all_begun.nd (pi_zipX rfl T.c.z_zip (pa_cons (pv 1) (pa_cons (pv 2) pa_nil))) (blkOk_by (own := [("track", 3), ("standing", 4)]) (N := ["button", "tracks", "come", "track", "standing"]) (sc := defScope s_all_begun) (by decide +kernel)) (fun _ _ _ _ _ => (pg_tup rfl (pgs_cons (pg_name (i := 3) sc_all_begun.nd rfl (Or.inl rfl)) (pgs_cons (pg_name (i := 4) sc_all_begun.nd rfl (Or.inl rfl)) pgs_nil)))) (fun _ _ _ _ _ => pts_nil) (fun _ _ _ _ _ => (pe_call (ok_begun_by T) (hr.mono (by decide)) rfl T.g_begun_by T.d_begun_by.F.kp T.d_begun_by.b .nil pass0 (pa_cons (pv 0) (pa_cons (pv 3) (pa_cons (pv 4) pa_nil)))))) pa_nil)))), ?_⟩
    obtain ⟨b, xs, rfl, hxs, hd⟩ := hv.tup_of
    have lx : xs.length = ss.length := by rw [hd.len, List.length_map]
    refine ⟨_, rfl, _, rfl, a, b, _, xs, false, true, rfl, ha, hxs, fun D hD => ?_⟩
    refine lc_same (walk_zipX rfl) (fun i y H => Dp K H y (stD ((begunAll B ts ss).getD i none))) (stays_dp _ fun i => noL_st _) (lt_line (by simp [hT.1]; omega)) hD (fun H' s' => ⟨s'.seq ha, s'.sqt hxs⟩) ?_ ?_
    · rintro i z H2 H3 Z F hi s2 ⟨Tt, x, y, rfl, hTt, rfl, e1, e2⟩ hZ
      have e1 : (tas.map V.ref)[i]? = some x := e1
      have e2 : xs[i]? = some y := e2
      refine ⟨Tt, [x, y], rfl, .inl (.inl upd_same), rfl, _, _, rfl, _, _, rfl, rfl, ?_⟩
      refine ⟨rfl, ?_⟩
      have s3 := s2.new (u := .tup [x, y]) hTt
      rw [List.getElem?_map] at e1
      cases q : tas[i]? with
      | none => rw [q] at e1; cases e1
      | some t =>
        rw [q] at e1
        cases e1
        have it : i < ts.length := by rw [← hT.1]; exact (List.getElem?_eq_some_iff.mp q).1
        have q2 : ts[i]? = some (ts[i]'it) := List.getElem?_eq_getElem it
        obtain ⟨d, f1, f2⟩ := hd.get e2
        rw [List.getElem?_map] at f1
        cases q3 : ss[i]? with
        | none => rw [q3] at f1; cases f1
        | some st =>
          rw [q3] at f1
          cases f1
          have ht := hT.2 i t _ q q2
          have hm := List.mem_of_getElem? q2
          refine ⟨_, rfl, _, rfl, _, rfl, bb, t, y, H0, ts, B, ts[i]'it, st, rfl, hB.same s3, wB, ht.same s3, wT _ hm, hm, ndt, s3.dp f2, ho.2 i _ st q2 q3, fun H4 v4 s4 d4 => hZ _ _ ((same_upd hTt).trans s4) ?_⟩
          have : (begunAll B ts ss).getD i none = begunBy B (ts[i]'it) st := by
            rw [List.getD_eq_getElem?_getD, begunAll, List.getElem?_zipWith, q2, q3]
            rfl
          rw [this]
          exact d4
    · intro H1 ys s1 e l r
      refine ⟨D, ys, rfl, .inl ⟨.inl (.inl e), fun p hp => ?_⟩⟩
      refine k _ _ (s1.new hp) (.tup (.inl (.inl upd_same)) ?_)
      have s2 : Same H1 (upd H1 p (.tup ys)) := same_upd hp
      refine s2.dpAll (dpAll_of ?_ fun i y d e1 e2 => ?_)
      · rw [l, List.length_map, List.length_map, begunAll, List.length_zipWith, lx, hT.1]
      · rw [List.getElem?_map] at e2
        have := r i y e1
        rw [List.getD_eq_getElem?_getD] at this
        cases q : (begunAll B ts ss)[i]? with
        | none => rw [q] at e2; cases e2
        | some st =>
          rw [q] at e2 this
          cases e2
          exact this
theorem ok_sounds_of (T : Txt K mg) : FnOk P w K mg base CX0 1 T.d_sounds_of.f T.d_sounds_of.fd ["track", "standing"] (spSoundsOf T) := by
  refine T.d_sounds_of.F.ok sc_sounds_of (fun vs H Q E h => ?_) (fun cdv A outer s H vs Q E hr h => ?_)
  · obtain ⟨t, v, H0, M, s, rfl, _⟩ := h
    rfl
  · obtain ⟨t, v, H0, M, st, rfl, hT, wM, hv, ho, k⟩ := h
    refine ⟨_, (pss_one (ps_ret (pe_ifExp (pt_cmpR (op_neD hr.units) (pv 1) (pe_tup pa_nil) (nomark _)) (pe_ix ix_list (pe_get (frLoop_places T) (pe_dget (hu_of hr) (pe_get (frTrack_own_loops T) (pv 0)) (pe_ix ix_tup (pv 1) pe_int (fun _ _ => rfl)) (fun _ _ => rfl))) (pe_ix ix_tup (pv 1) pe_int (fun _ _ => rfl)) (fun _ _ => rfl)) (pe_tup pa_nil)))), ?_⟩
    refine ⟨_, rfl, by show 0 ≤ sizeLine; omega, fun e he => ?_⟩
    have s1 : Same H (upd H e (.tup [])) := same_upd he
    have e1 : upd H e (.tup []) e = some (.tup []) := upd_same
    generalize upd H e (.tup []) = H1 at *
    refine ⟨stD st, .tuple [], s1.dp hv, .tup (.inl (.inl e1)) .nil, shaped_st wM ho, shaped_nil, _, rfl, ?_⟩
    rw [eqv_st]
    cases st with
    | none =>
      refine ifF rfl ?_
      exact ⟨by show 0 ≤ sizeLine; omega, fun e2 he2 => k _ _ (s1.new he2) (.tup (.inl (.inl upd_same)) .nil)⟩
    | some x =>
      obtain ⟨n, p, l⟩ := x
      refine ifT rfl ?_
      obtain ⟨L, hL, rfl, hp, hl⟩ := ho
      obtain ⟨av, xv, rfl, hxv, hdv⟩ := (s1.dp hv).tup_of
      cases hdv with
      | cons d1 hdv =>
      cases hdv with
      | cons d2 hdv =>
      cases hdv with
      | cons d3 hdv =>
      cases hdv
      cases d1
      cases d2
      cases d3
      obtain ⟨d, as, t1, t2, t3, t4⟩ := (hT.same s1).loop wM
      obtain ⟨la, v1, l1⟩ := t4 L hL
      obtain ⟨pl, _, _, ts, a1, pl1, pd⟩ := l1
      have g := DGet.k (k := Sum.inr L.name) t2
      rw [v1] at g
      have wL := wM.lw L hL
      have lp : p < L.places.length := by rw [wL.pl]; exact hp
      have lts : ts.length = L.places.length := by rw [pd.len, List.length_map]
      have ep : ts[p]? = some (ts[p]'(by omega)) := List.getElem?_eq_getElem (by omega)
      obtain ⟨dd, f1, f2⟩ := pd.get ep
      rw [List.getElem?_map, List.getElem?_eq_getElem lp] at f1
      cases f1
      have es : soundsOf M (some (L.name, p, l)) = L.places[p]'lp := by
        show ((loopOf M L.name).map _).getD [] = _
        rw [loopOf_some wM hL]
        show L.places.getD p [] = _
        rw [List.getD_eq_getElem?_getD, List.getElem?_eq_getElem lp]
        rfl
      rw [es] at k
      refine ⟨_, rfl, t, _, rfl, t1, _, rfl, av, _, _, .str L.name, rfl, rfl, hxv, atI_nat rfl, d, .ref la, rfl, g, la, _, rfl, a1, ?_⟩
      exact ⟨_, rfl, av, _, _, .int (p : Int), rfl, rfl, hxv, atI_nat rfl, pl, ts, _, _, rfl, rfl, .inl (.inl pl1), atI_nat ep, k _ _ s1 f2⟩
theorem ok_strikes_of (T : Txt K mg) : FnOk P w K mg base CX0 2 T.d_strikes_of.f T.d_strikes_of.fd ["tracks", "standings"] (spStrikesOf T) := by
  refine T.d_strikes_of.F.ok sc_strikes_of (fun vs H Q E h => ?_) (fun cdv A outer s H vs Q E hr h => ?_)
  · obtain ⟨a, v, H0, tas, ts, ss, rfl, _⟩ := h
    rfl
  · obtain ⟨a, v, H0, tas, ts, ss, rfl, ha, hT, wT, l4, hv, ho, k⟩ := h
    refine ⟨_, (pss_cons (ps_set (i := 2) sc_strikes_of.nd rfl (Or.inl rfl) (pe_lst pa_nil)) (pss_cons (ps_for PassesOwn.never rfl (pi_zipX rfl T.c.z_zip (pa_cons (pv 0) (pa_cons (pv 1) pa_nil))) (pg_tup rfl (pgs_cons (pg_name (i := 3) sc_strikes_of.nd rfl (Or.inr rfl)) (pgs_cons (pg_name (i := 4) sc_strikes_of.nd rfl (Or.inl rfl)) pgs_nil))) (pss_one (ps_expr (pe_bm PySem.F.plainAttrs_list PySem.F.slot_list_extend PySem.F.type_list_extend mt_extend (pv 2) (pa_cons (pe_lc (own := [("sound", 5)]) (g := (gName 5)) rfl sc_strikes_of.nd (pi_tup (pe_call (ok_sounds_of T) (hr.mono (by decide)) rfl T.g_sounds_of T.d_sounds_of.F.kp T.d_sounds_of.b .nil pass0 (pa_cons (pv 3) (pa_cons (pv 4) pa_nil)))) (blkOk_by (own := [("sound", 5)]) (N := ["tracks", "standings", "found", "track", "standing", "sound"]) (sc := defScope s_strikes_of) (by decide +kernel)) (fun _ _ _ _ _ => (pg_name (i := 5) sc_strikes_of.nd rfl (Or.inl rfl))) (fun _ _ _ _ _ => pts_nil) (fun _ _ _ _ _ => (pe_tup (pa_cons (pe_get (frTrack_name T) (pv 3)) (pa_cons (pv 5) pa_nil))))) pa_nil))))) (pss_one (ps_ret (pe_callTy call_tuple_of (by rfl) T.c.z_tuple (by decide +kernel) (pa_cons (pe_callB (cr_sortedD hr.units) (by rfl) T.c.z_sorted (by decide +kernel) (pa_cons (pv 2) pa_nil)) pa_nil)))))), ?_⟩
    obtain ⟨b, xs, rfl, hxs, hd⟩ := hv.tup_of
    have lx : xs.length = ss.length := by rw [hd.len, List.length_map]
    refine ⟨by show 0 ≤ sizeLine; omega, fun f hf => ?_⟩
    have s0 : Same H (upd H f (.lst [])) := same_upd hf
    have f0 : upd H f (.lst []) f = some (.lst []) := upd_same
    generalize upd H f (.lst []) = Hf at *
    refine ⟨_, rfl, _, rfl, a, b, _, xs, false, true, rfl, s0.seq ha, s0.sqt hxs, ?_⟩
    refine for_it (walk_zipX rfl) (fun i σ Hz => Same H Hz ∧ (∃ v3 v4 v5, σ = [some (.ref a), some (.ref b), some (.ref f), v3, v4, v5]) ∧ ∃ ys, Hz f = some (.lst ys) ∧ ys.length ≤ 3 * i ∧ DpAll K Hz ys ((heardAt (ts.take i) (ss.take i)).map pairD)) ⟨s0, ⟨_, _, _, rfl⟩, [], f0, by simp, .nil⟩ (fun i σ Hz _ hz => ⟨hz.1.seq ha, hz.1.sqt hxs⟩) ?_ ?_
    · rintro i z σ Hz Hz' hi ⟨sz, ⟨v3, v4, v5, rfl⟩, ys, fy, ly, dy⟩ ⟨Tt, x, y, rfl, hTt, rfl, e1, e2⟩
      have e1 : (tas.map V.ref)[i]? = some x := e1
      have e2 : xs[i]? = some y := e2
      have hi4 : i < 4 := by
        have := (List.getElem?_eq_some_iff.mp e1).1
        rw [List.length_map, hT.1] at this
        omega
      refine ⟨Tt, [x, y], rfl, .inl (.inl upd_same), rfl, _, _, rfl, _, _, rfl, rfl, ?_⟩
      have s3 := sz.new (u := .tup [x, y]) hTt
      have sT : Same Hz (upd Hz Tt (.tup [x, y])) := same_upd hTt
      generalize upd Hz Tt (.tup [x, y]) = Hy at *
      rw [List.getElem?_map] at e1
      cases q : tas[i]? with
      | none => rw [q] at e1; cases e1
      | some t =>
        rw [q] at e1
        cases e1
        have it : i < ts.length := by rw [← hT.1]; exact (List.getElem?_eq_some_iff.mp q).1
        have q2 : ts[i]? = some (ts[i]'it) := List.getElem?_eq_getElem it
        obtain ⟨d, f1, f2⟩ := hd.get e2
        rw [List.getElem?_map] at f1
        cases q3 : ss[i]? with
        | none => rw [q3] at f1; cases f1
        | some st =>
          rw [q3] at f1
          cases f1
          have ht := hT.2 i t _ q q2
          have hm := List.mem_of_getElem? q2
          have wM := wT _ hm
          obtain ⟨so1, so2⟩ := sounds_ok wM (ho.2 i _ st q2 q3)
          refine ⟨_, rfl, .inl ⟨rfl, _, .inl (.inl (sT _ _ fy))⟩, ?_⟩
          refine ⟨_, rfl, _, rfl, t, y, H0, ts[i]'it, st, rfl, ht.same s3, wM, s3.dp f2, ho.2 i _ st q2 q3, fun H4 v4 s4 d4 => ?_⟩
          obtain ⟨ap, ps, rfl, hps, hpd⟩ := d4.tup_of
          refine ⟨ap, rfl, ⟨_, hps⟩, fun D hD => ?_⟩
          have lps : ps.length = (soundsOf (ts[i]'it) st).length := by rw [hpd.len, List.length_map]
          refine lc_same walk_tup (fun j y H => Dp K H y (pairD ((ts[i]'it).name, (soundsOf (ts[i]'it) st).getD j ""))) (stays_dp _ fun j => rfl) (lt_line (by omega)) hD (fun H' s' => s'.sqt hps) ?_ ?_
          · rintro j w' Hx Hx' Z F hj sx ⟨rfl, ew⟩ hZ
            have ew : ps[j]? = some w' := ew
            obtain ⟨dd, g1, g2⟩ := hpd.get ew
            rw [List.getElem?_map] at g1
            cases q4 : (soundsOf (ts[i]'it) st)[j]? with
            | none => rw [q4] at g1; cases g1
            | some sn =>
              rw [q4] at g1
              cases g1
              have g2' := sx.dp g2
              cases g2'
              obtain ⟨td, tas2, _, _, ⟨at1, _, _⟩, _⟩ := (ht.same s3).same (s4.trans sx)
              refine ⟨rfl, ?_⟩
              refine ⟨_, rfl, t, _, rfl, at1, _, rfl, by show 2 ≤ sizeLine; exact le_line (by omega), fun p hp => hZ _ _ (same_upd hp) ?_⟩
              rw [List.getD_eq_getElem?_getD, q4]
              exact .tup (.inl (.inl upd_same)) (.cons (.str _) (.cons (.str _) .nil))
          · intro H5 zs s5 e5 l5 r5
            have s45 := s4.trans s5
            have s05 := s3.trans s45
            have fy5 := s45 _ _ (sT _ _ fy)
            refine ⟨f, D, ys, zs, rfl, rfl, fy5, e5, le_line (by omega), ?_⟩
            refine ⟨fun b o e => upd_get (s05 _ _ e) (ne_of_none e hf), ⟨_, _, _, rfl⟩, ys ++ zs, upd_same, by rw [List.length_append]; omega, ?_⟩
            rw [heardAt_snoc q2 q3, List.map_append]
            refine dpAll_lst fy5 ?_ ?_
            · refine dpAll_app ?_ (s45.dpAll (sT.dpAll dy))
              refine dpAll_of (by rw [List.length_map, List.length_map]; omega) fun j y' d' h1 h2 => ?_
              have := r5 j y' h1
              rw [List.getElem?_map, List.getElem?_map] at h2
              rw [List.getD_eq_getElem?_getD] at this
              cases q4 : (soundsOf (ts[i]'it) st)[j]? with
              | none => rw [q4] at h2; cases h2
              | some sn =>
                rw [q4] at h2 this
                cases h2
                exact this
            · rw [← List.map_append]
              exact noLs_map (fun _ => rfl) _
    · rintro σ Hz ⟨sz, ⟨v3, v4, v5, rfl⟩, ys, fy, ly, dy⟩
      have em : min (tas.map V.ref).length xs.length = ts.length := by rw [List.length_map, hT.1, lx, ho.1, Nat.min_self]
      rw [em, List.take_of_length_le (Nat.le_refl _), List.take_of_length_le (by rw [ho.1]; exact Nat.le_refl _)] at dy
      obtain ⟨z1, z2, z3⟩ := dpAll_zip dy
      obtain ⟨k1, k2⟩ := alike_pairs (heardAt ts ss)
      refine ⟨_, rfl, f, ys.zip ((heardAt ts ss).map pairD), rfl, .inl (.inl (by rw [z2]; exact fy)), fun b hb => ⟨z1 b hb, ?_⟩, by rw [z3]; exact k1, by rw [z3]; exact k2, fun p hp => ?_⟩
      · have hb2 : b.2 ∈ (heardAt ts ss).map pairD := by rw [← z3]; exact List.mem_map_of_mem hb
        obtain ⟨x, _, e⟩ := List.mem_map.mp hb2
        rw [← e]
        show 1 ≤ 50
        omega
      have sp : Same Hz (upd Hz p (.lst (((ys.zip ((heardAt ts ss).map pairD)).mergeSort (PySem.W.dataLe false (·.2))).map (·.1)))) := same_upd hp
      refine ⟨p, _, rfl, .inl ⟨.inl (.inl upd_same), fun l hl => ?_⟩⟩
      refine k _ _ ((sz.trans sp).new hl) (.tup (.inl (.inl upd_same)) ?_)
      refine (sp.new hl).dpAll ?_
      have em2 : strikesD ts ss = ((ys.zip ((heardAt ts ss).map pairD)).mergeSort (PySem.W.dataLe false (·.2))).map (·.2) := by
        rw [sorted_snd, z3]
        rfl
      rw [em2]
      exact dpAll_pairs fun b hb => z1 b (List.mem_mergeSort.mp hb)
end
end Ev
end

section
namespace Ev
open PySem PySem.Spec PyProof.Rows L2
/-! ## playing.py -/
/-- whether data is a step and a button of a board -/
def pressB (B : BoardM) : PyData → Bool
  | .tuple [.int s, b] => decide (0 ≤ s) && inB B b
  | _ => false
def stepOf : PyData → Int
  | .tuple (.int s :: _) => s
  | _ => 0
/-- whether data is presses of a board -/
def arePr (B : BoardM) : PyData → Bool
  | .tuple ds => (ds.all fun d => isTupN d 2 2) && (ds.all (pressB B)) && ascB ltI (ds.map stepOf)
  | _ => false
/-- data is not too long -/
def fewD : PyData → Prop
  | .tuple ds => ds.length ≤ 100000
  | _ => True
def spArePresses {K : PySem.W.Frag} {mg : Str → Option Value} (T : Txt K mg) : Sp := fun vs H Q _ => ∃ (a : Addr) (x : V) (text : Str) (B : BoardM) (d : PyData), vs = [.ref a, x] ∧ BoardAt T H a text B ∧ Dp K H x d ∧ noL d = true ∧ fewD d ∧ ∀ H', Same H H' → Q (.bl (arePr B d)) H'
def buttonOf (B : BoardM) (b : Str) : Option ButtonM := B.buttons.find? fun M => decide (M.name = b)
def quantOf (B : BoardM) (b : Str) : Nat := ((buttonOf B b).map (·.quantum)).getD 1
/-- the step at which a press begins if no other comes -/
def beginOf (B : BoardM) (p : Nat × Str) : Nat := (p.1 + quantOf B p.2 - 1) / quantOf B p.2 * quantOf B p.2
def pressD (p : Nat × Str) : PyData := .tuple [.int (p.1 : Int), .str p.2]
theorem buttonOf_some {B : BoardM} (w : B.Well) {M : ButtonM} (h : M ∈ B.buttons) : buttonOf B M.name = some M := by
  have nd := w.ndb
  unfold buttonOf
  generalize B.buttons = ls at h nd
  induction ls with
  | nil => cases h
  | cons a r ih =>
    rw [List.map_cons, List.nodup_cons] at nd
    rcases List.mem_cons.mp h with rfl | h
    · simp
    · have ne : a.name ≠ M.name := fun e => nd.1 (by rw [e]; exact List.mem_map_of_mem h)
      rw [List.find?_cons_of_neg (by simpa using ne)]
      exact ih h nd.2
theorem BoardAt.button {K : PySem.W.Frag} {mg : Str → Option Value} {T : Txt K mg} {H : Hp} {a : Addr} {text : Str} {B : BoardM} (h : BoardAt T H a text B) {M : ButtonM} (hM : M ∈ B.buttons) : ∃ dt db tas bas b, AtBoard T H a ⟨.str text, .ref dt, .ref db, .int (B.bar : Int)⟩ ∧ H db = some (.dK (kvN (·.name) B.buttons bas)) ∧
    valV (kvN (·.name) B.buttons bas) (Sum.inr M.name) = some (.ref b) ∧ ButtonAt T noH H b M ∧ H dt = some (.dK (kvN (·.name) B.tracks tas)) ∧ TracksAt T noH H tas B.tracks := by
  obtain ⟨dt, db, tas, bas, h1, h2, h3, h4, h5, h6⟩ := h
  obtain ⟨i, hi, ei⟩ := List.mem_iff_getElem.mp hM
  have e1 : B.buttons[i]? = some M := by rw [List.getElem?_eq_getElem hi, ei]
  have hl := h5.1
  have e2 : bas[i]? = some (bas[i]'(by omega)) := List.getElem?_eq_getElem (by omega)
  exact ⟨dt, db, tas, bas, _, h1, h3, valV_at h6.ndb e1 e2, h5.2 i _ M e2 e1, h2, h4⟩
/-- which button begins by the press at i -/
def begTurn (B : BoardM) (ps : List (Nat × Str)) (i : Nat) : List (Nat × Str) := match ps[i]? with
  | none => []
  | some p => match ps[i + 1]? with
    | none => [(beginOf B p, p.2)]
    | some q => if beginOf B p < q.1 then [(beginOf B p, p.2)] else []
def allBegins (B : BoardM) (ps : List (Nat × Str)) : List (Nat × Str) := (List.range ps.length).flatMap (begTurn B ps)
/-- tuples of a step and a button -/
def BegAt (H : Hp) (p : Addr) (x : Nat × Str) : Prop := H p = some (.tup [.int (x.1 : Int), .str x.2])
theorem paired_mono {α β : Type} {R S : α → β → Prop} (h : ∀ a b, R a b → S a b) : ∀ {xs : List α} {ys : List β}, Paired R xs ys → Paired S xs ys
  | _, _, .nil => .nil
  | _, _, .cons a b => .cons (h _ _ a) (paired_mono h b)
theorem paired_snoc {α β : Type} {R : α → β → Prop} {a : α} {b : β} (h : R a b) : ∀ {xs : List α} {ys : List β}, Paired R xs ys → Paired R (xs ++ [a]) (ys ++ [b])
  | _, _, .nil => .cons h .nil
  | _, _, .cons x t => .cons x (paired_snoc h t)
def spAllBegins {K : PySem.W.Frag} {mg : Str → Option Value} (T : Txt K mg) : Sp := fun vs H Q _ => ∃ (a : Addr) (x : V) (text : Str) (B : BoardM) (ps : List (Nat × Str)), vs = [.ref a, x] ∧ BoardAt T H a text B ∧ Dp K H x (.tuple (ps.map pressD)) ∧ (∀ p ∈ ps, p.2 ∈ B.buttons.map (·.name)) ∧ ps.length ≤ 100000 ∧
  ∀ H' l o pas, Same H H' → H' l = some (.frz o (.tup (pas.map V.ref))) → o.dict = none → Paired (BegAt H') pas (allBegins B ps) → Q (.ref l) H'
def spCheckPresses {K : PySem.W.Frag} {mg : Str → Option Value} (T : Txt K mg) : Sp := fun vs H Q _ => ∃ (a : Addr) (x : V) (text : Str) (B : BoardM) (d : PyData), vs = [.ref a, x] ∧ BoardAt T H a text B ∧ Dp K H x d ∧ noL d = true ∧ fewD d ∧ arePr B d = true ∧ ∀ H', Same H H' → Q .non H'
def spCheckStep : Sp := fun vs H Q _ => ∃ (i lo hi : Int), vs = [.int i, .int lo, .int hi] ∧ lo ≤ i ∧ i ≤ hi ∧ Q .non H
def spBeginOf {K : PySem.W.Frag} {mg : Str → Option Value} (T : Txt K mg) : Sp := fun vs H Q _ => ∃ (a : Addr) (x : V) (text : Str) (B : BoardM) (p : Nat × Str), vs = [.ref a, x] ∧ BoardAt T H a text B ∧ Dp K H x (pressD p) ∧ p.2 ∈ B.buttons.map (·.name) ∧ Q (.int ((beginOf B p : Nat) : Int)) H
/-- right presses -/
structure PrOk (B : BoardM) (ps : List (Nat × Str)) : Prop where
  mem : ∀ p ∈ ps, p.2 ∈ B.buttons.map (·.name)
  few : ps.length ≤ 100000
  asc : ascB ltI (ps.map fun p => (p.1 : Int)) = true
theorem noL_presses (ps : List (Nat × Str)) : noL (.tuple (ps.map pressD)) = true := noLs_map (fun _ => rfl) ps
theorem PrOk.are {B : BoardM} {ps : List (Nat × Str)} (h : PrOk B ps) : arePr B (.tuple (ps.map pressD)) = true := by
  show (((ps.map pressD).all fun d => isTupN d 2 2) && ((ps.map pressD).all (pressB B)) && ascB ltI ((ps.map pressD).map stepOf)) = true
  rw [List.all_map, List.all_map, List.map_map]
  have e1 : (ps.all ((fun d => isTupN d 2 2) ∘ pressD)) = true := List.all_eq_true.mpr fun p _ => rfl
  have e2 : (ps.all (pressB B ∘ pressD)) = true := List.all_eq_true.mpr fun p hp => by
    show (decide ((0 : Int) ≤ (p.1 : Int)) && decide (p.2 ∈ B.buttons.map (·.name))) = true
    rw [decide_eq_true (by omega), decide_eq_true (h.mem p hp)]
    rfl
  rw [e1, e2]
  exact h.asc
theorem begs_dp {K : PySem.W.Frag} {H : Hp} {l : Addr} {o : Obj} {pas : List Addr} {bs : List (Nat × Str)} (hl : H l = some (.frz o (.tup (pas.map V.ref)))) (h : Paired (BegAt H) pas bs) : Dp K H (.ref l) (.tuple (bs.map pressD)) := by
  refine .tup (.inl (.inr ⟨o, hl⟩)) ?_
  clear hl
  induction h with
  | nil => exact .nil
  | cons a _ ih => exact .cons (.tup (.inl (.inl a)) (.cons (.int _) (.cons (.str _) .nil))) ih
def spBegun {K : PySem.W.Frag} {mg : Str → Option Value} (T : Txt K mg) : Sp := fun vs H Q _ => ∃ (a : Addr) (x : V) (text : Str) (B : BoardM) (ps : List (Nat × Str)), vs = [.ref a, x] ∧ BoardAt T H a text B ∧ Dp K H x (.tuple (ps.map pressD)) ∧ PrOk B ps ∧
  ∀ H' v, Same H H' → Dp K H' v (.tuple ((allBegins B ps).map pressD)) → Q v H'
section
variable {P : Program} {w : World} {K : PySem.W.Frag} {mg : Str → Option Value} {base : Heap}
theorem ok_are_presses (T : Txt K mg) : FnOk P w K mg base CX0 2 T.d_are_presses.f T.d_are_presses.fd ["board", "value"] (spArePresses T) := by
  refine T.d_are_presses.F.ok sc_are_presses (fun vs H Q E h => ?_) (fun cdv A outer s H vs Q E hr h => ?_)
  · obtain ⟨a, x, text, B, d, rfl, _⟩ := h
    rfl
  · obtain ⟨a, x, text, B, d, rfl, hB, hd, nd, fd, k⟩ := h
    refine ⟨_, (pss_cons (ps_if (PW.pt (pw_or (pt_not (pt_val (pe_callB call_isi (by rfl) T.c.z_isinstance (by decide +kernel) (pa_cons (pv 1) (pa_cons (pe_bltn (v := .ty "tuple") rfl T.c.z_tuple (by decide +kernel) rfl) pa_nil))))) (pw_or1 (pt_not (pt_val (pe_callB (cr_all rfl) (by rfl) T.c.z_all (by decide +kernel) (pa_cons (pe_lc (own := [("press", 2)]) (g := (gName 2)) rfl sc_are_presses.nd (pi_tup (pv 1)) (blkOk_by (own := [("press", 2)]) (N := ["board", "value", "press", "step", "button"]) (sc := defScope s_are_presses) (by decide +kernel)) (fun _ _ _ _ _ => (pg_name (i := 2) sc_are_presses.nd rfl (Or.inl rfl))) (fun _ _ _ _ _ => pts_nil) (fun _ _ _ _ _ => (pe_call (ok_is_tuple T) (hr.mono (by decide)) rfl T.g_is_tuple T.d_is_tuple.F.kp T.d_is_tuple.b .nil pass0 (pa_cons (pv 2) (pa_cons (pe_gc rfl T.c.g_PAIR) (pa_cons (pe_gc rfl T.c.g_PAIR) pa_nil)))))) pa_nil))))))) (pss_one (ps_ret pe_bl)) pss_nil) (pss_cons (ps_if (pt_not (pt_val (pe_callB (cr_all rfl) (by rfl) T.c.z_all (by decide +kernel) (pa_cons (pe_lc (own := [("step", 3), ("button", 4)]) (g := (gTup K 2 (gCons (gName 3) (gCons (gName 4) gNil)))) rfl sc_are_presses.nd (pi_tup (pv 1)) (blkOk_by (own := [("step", 3), ("button", 4)]) (N := ["board", "value", "press", "step", "button"]) (sc := defScope s_are_presses) (by decide +kernel)) (fun _ _ _ _ _ => (pg_tup rfl (pgs_cons (pg_name (i := 3) sc_are_presses.nd rfl (Or.inl rfl)) (pgs_cons (pg_name (i := 4) sc_are_presses.nd rfl (Or.inl rfl)) pgs_nil)))) (fun _ _ _ _ _ => pts_nil) (fun _ _ _ _ _ => (pe_and (pe_call (ok_is_integer T) (hr.mono (by decide)) rfl T.g_is_integer T.d_is_integer.F.kp T.d_is_integer.b .nil pass0 (pa_cons (pv 3) pa_nil)) (pe_and (pe_cmpR op_ge (pv 3) pe_int (nomark _)) (pe_one (pe_cmp (pc_inOwn (pv 4) (pv 0) T.Board.o_BoardD_containsD (ok_BoardD_containsD T) (hr.mono (by decide)) T.Board.d_BoardD_containsD.b pass0) rfl)))))) pa_nil)))) (pss_one (ps_ret pe_bl)) pss_nil) (pss_one (ps_ret (pe_call (ok_do_ascend T) (hr.mono (by decide)) rfl T.g_do_ascend T.d_do_ascend.F.kp T.d_do_ascend.b .nil pass0 (pa_cons (pe_lc (own := [("press", 2)]) (g := (gName 2)) rfl sc_are_presses.nd (pi_tup (pv 1)) (blkOk_by (own := [("press", 2)]) (N := ["board", "value", "press", "step", "button"]) (sc := defScope s_are_presses) (by decide +kernel)) (fun _ _ _ _ _ => (pg_name (i := 2) sc_are_presses.nd rfl (Or.inl rfl))) (fun _ _ _ _ _ => pts_nil) (fun _ _ _ _ _ => (pe_ix (ix_tupK (K := K) rfl) (pv 2) pe_int (fun _ _ => rfl)))) pa_nil)))))), ?_⟩
    refine ⟨_, rfl, _, _, _, _, _, rfl, .ty _, tyx_dp hd, kit_t d, _, rfl, ?_⟩
    cases hd with
    | @tup ap xs ds hxs hds =>
      have lx : xs.length = ds.length := hds.len
      have fl : ds.length ≤ 100000 := fd
      refine ifF rfl ?_
      have gt : ∀ {i : Nat} {v : V}, xs[i]? = some v → ∃ e, ds[i]? = some e ∧ ds.getD i default = e ∧ Dp K H v e := fun {i v} ev => by
        obtain ⟨e, e1, e2⟩ := hds.get ev
        exact ⟨e, e1, by rw [List.getD_eq_getElem?_getD, e1]; rfl, e2⟩
      have k0 : ∀ H', (ds.all fun d => isTupN d 2 2) = false ∨ ds.all (pressB B) = false → Same H H' → Q (.bl false) H' := fun H' e s => by
        have := k H' s
        have e2 : arePr B (.tuple ds) = false := by
          show ((ds.all fun d => isTupN d 2 2) && (ds.all (pressB B)) && _) = false
          rcases e with e | e
          · rw [e]; rfl
          · rw [e, Bool.and_false]; rfl
        rw [e2] at this
        exact this
      refine ⟨_, rfl, ap, rfl, ⟨_, hxs⟩, fun D hD => ?_⟩
      refine lc_same walk_tup (fun i y _ => y = .bl (isTupN (ds.getD i default) 2 2)) (stays_val _) (lt_line (by omega)) hD (fun H' s' => s'.sqt hxs) ?_ ?_
      · rintro i v H1 H2 Z F hi s1 ⟨rfl, ev⟩ hZ
        obtain ⟨e, e1, e2, e3⟩ := gt ev
        refine ⟨rfl, ?_⟩
        exact ⟨_, rfl, v, e, 2, 2, rfl, s1.dp e3, hZ _ _ (Same.refl _) (by rw [e2])⟩
      intro H1 ys s1 e1 l1 r1
      have b1 := bools_of (f := fun i => isTupN (ds.getD i default) 2 2) l1 r1
      have a1 : (ds.all fun d => isTupN d 2 2) = (((List.range xs.length).map fun i => isTupN (ds.getD i default) 2 2).all id) := by rw [all_range, lx]
      refine ⟨D, _, rfl, .inl (.inl (by rw [e1, b1])), _, rfl, ?_⟩
      rw [← a1]
      by_cases h1 : (ds.all fun d => isTupN d 2 2) = true
      · refine ifF (by rw [h1]; rfl) ?_
        have two : ∀ d ∈ ds, ∃ x y, d = .tuple [x, y] := fun d hd => by
          have := List.all_eq_true.mp h1 d hd
          cases d with
          | tuple es =>
            have h2 : (decide ((2 : Int) ≤ (es.length : Int)) && decide ((es.length : Int) ≤ 2)) = true := this
            rw [Bool.and_eq_true, decide_eq_true_iff, decide_eq_true_iff] at h2
            match es, h2 with
            | [x, y], _ => exact ⟨x, y, rfl⟩
            | [], h2 => simp at h2
            | [_], h2 => simp at h2
            | _ :: _ :: _ :: _, h2 => simp at h2; omega
          | none => cases this
          | bool _ => cases this
          | int _ => cases this
          | str _ => cases this
          | list _ => cases this
          | dict _ => cases this
        refine ⟨_, rfl, ap, rfl, ⟨_, s1.sqt hxs⟩, fun D2 hD2 => ?_⟩
        refine lc_same walk_tup (fun i y _ => y = .bl (pressB B (ds.getD i default))) (stays_val _) (lt_line (by omega)) hD2 (fun H' s' => s'.sqt (s1.sqt hxs)) ?_ ?_
        · rintro i v H2 H3 Z F hi s2 ⟨rfl, ev⟩ hZ
          obtain ⟨e, f1, f2, f3⟩ := gt ev
          obtain ⟨x, y, rfl⟩ := two e (List.mem_of_getElem? f1)
          have s02 := s1.trans s2
          obtain ⟨pa, pxs, rfl, hpx, hpd⟩ := (s02.dp f3).tup_of
          cases hpd with
          | cons dx hpd =>
          cases hpd with
          | cons dy hpd =>
          cases hpd
          refine ⟨pa, _, rfl, hpx, rfl, _, _, rfl, _, _, rfl, rfl, ?_⟩
          refine ⟨rfl, ?_⟩
          refine ⟨_, rfl, _, _, rfl, dx, isInt x, rfl, ?_⟩
          have hB2 := hB.same s02
          have hB2' := hB2
          obtain ⟨dt, db, tas, bas, hb1, _⟩ := hB2'
          have fin : ∀ b, b = pressB B (.tuple [x, y]) → Z (.bl b) H3 := fun b e => hZ _ _ (Same.refl _) (by rw [f2, e])
          cases dx with
          | int i =>
            refine ifT rfl ?_
            refine ⟨_, rfl, _, _, rfl, rfl, _, rfl, ?_⟩
            by_cases h0 : (0 : Int) ≤ i
            · refine ifT (dT h0) ?_
              obtain ⟨dxb, eb⟩ := hb1
              refine ⟨_, rfl, _, rfl, a, dxb, _, rfl, eb, a, _, y, text, B, rfl, hB2, dy, inB B y, rfl, ?_⟩
              refine fin _ ?_
              show _ = (decide (0 ≤ i) && inB B y)
              rw [decide_eq_true h0]
              rfl
            · refine ifF (dF h0) ?_
              refine fin _ ?_
              show _ = (decide (0 ≤ i) && inB B y)
              rw [decide_eq_false h0]
              rfl
          | non => exact ifF rfl (fin _ rfl)
          | bl _ => exact ifF rfl (fin _ rfl)
          | str _ => exact ifF rfl (fin _ rfl)
          | lst _ _ => exact ifF rfl (fin _ rfl)
          | tup _ _ => exact ifF rfl (fin _ rfl)
        · intro H2 ys2 s2 e2 l2 r2
          have b2 := bools_of (f := fun i => pressB B (ds.getD i default)) l2 r2
          have a2 : (ds.all (pressB B)) = (((List.range xs.length).map fun i => pressB B (ds.getD i default)).all id) := by rw [all_range, lx]
          refine ⟨D2, _, rfl, .inl (.inl (by rw [e2, b2])), _, rfl, ?_⟩
          rw [← a2]
          by_cases h2 : ds.all (pressB B) = true
          · refine ifF (by rw [h2]; rfl) ?_
            have s02 := s1.trans s2
            refine ⟨_, rfl, ap, rfl, ⟨_, s02.sqt hxs⟩, fun D3 hD3 => ?_⟩
            refine lc_same walk_tup (fun i y _ => y = .int (stepOf (ds.getD i default))) (stays_val _) (lt_line (by omega)) hD3 (fun H' s' => s'.sqt (s02.sqt hxs)) ?_ ?_
            · rintro i v H3 H4 Z F hi s3 ⟨rfl, ev⟩ hZ
              obtain ⟨e, f1, f2, f3⟩ := gt ev
              have hm := List.mem_of_getElem? f1
              obtain ⟨x, y, rfl⟩ := two e hm
              have hp := List.all_eq_true.mp h2 _ hm
              obtain ⟨pa, pxs, rfl, hpx, hpd⟩ := ((s02.trans s3).dp f3).tup_of
              cases hpd with
              | cons dx hpd =>
              cases dx with
              | int i2 =>
                refine ⟨rfl, ?_⟩
                refine ⟨_, rfl, pa, _, _, .int i2, rfl, rfl, hpx, atI_nat rfl, hZ _ _ (Same.refl _) ?_⟩
                rw [f2]
                rfl
              | non => cases hp
              | bl _ => cases hp
              | str _ => cases hp
              | lst _ _ => cases hp
              | tup _ _ => cases hp
            · intro H3 ys3 s3 e3 l3 r3
              have ey : ys3 = (ds.map stepOf).map V.int := by
                refine List.ext_getElem? fun i => ?_
                by_cases hi : i < xs.length
                · have h1 : i < ys3.length := by omega
                  rw [List.getElem?_eq_getElem h1, r3 i ys3[i] (List.getElem?_eq_getElem h1), List.getElem?_map, List.getElem?_map, List.getD_eq_getElem?_getD, List.getElem?_eq_getElem (by omega)]
                  rfl
                · rw [List.getElem?_eq_none (by omega), List.getElem?_eq_none (by simp; omega)]
              refine ⟨false, D3, ys3, rfl, .inl (.inl e3), by omega, .inl ⟨ds.map stepOf, ey, fun H4 s4 => ?_⟩⟩
              have := k H4 (s02.trans (s3.trans s4))
              have e2 : arePr B (.tuple ds) = ascB ltI (ds.map stepOf) := by
                show ((ds.all fun d => isTupN d 2 2) && (ds.all (pressB B)) && _) = _
                rw [h1, h2]
                rfl
              rw [e2] at this
              exact this
          · refine ifT (by rw [Bool.not_eq_true] at h2; rw [h2]; rfl) ?_
            exact k0 _ (.inr (by rw [Bool.not_eq_true] at h2; exact h2)) (s1.trans s2)
      · refine ifT (by rw [Bool.not_eq_true] at h1; rw [h1]; rfl) ?_
        exact k0 _ (.inl (by rw [Bool.not_eq_true] at h1; exact h1)) s1
    | non => exact ifT rfl (ifT rfl (k _ (Same.refl _)))
    | bl _ => exact ifT rfl (ifT rfl (k _ (Same.refl _)))
    | int _ => exact ifT rfl (ifT rfl (k _ (Same.refl _)))
    | str _ => exact ifT rfl (ifT rfl (k _ (Same.refl _)))
    | lst _ _ => cases nd
theorem ok_check_presses (T : Txt K mg) : FnOk P w K mg base CX0 3 T.d_check_presses.f T.d_check_presses.fd ["board", "value"] (spCheckPresses T) := by
  refine T.d_check_presses.F.ok sc_check_presses (fun vs H Q E h => ?_) (fun cdv A outer s H vs Q E hr h => ?_)
  · obtain ⟨a, x, text, B, d, rfl, _⟩ := h
    rfl
  · obtain ⟨a, x, text, B, d, rfl, hB, hd, nd, fd, hp, k⟩ := h
    refine ⟨_, (pss_one (ps_if (pt_not (pt_val (pe_call (ok_are_presses T) (hr.mono (by decide)) rfl T.g_are_presses T.d_are_presses.F.kp T.d_are_presses.b .nil pass0 (pa_cons (pv 0) (pa_cons (pv 1) pa_nil))))) (pss_one ps_never) pss_nil)), ?_⟩
    refine ⟨_, rfl, _, rfl, a, x, text, B, d, rfl, hB, hd, nd, fd, fun H' s' => ?_⟩
    rw [hp]
    exact ⟨_, rfl, ifF rfl (k H' s')⟩
theorem ok_check_step (T : Txt K mg) : FnOk P w K mg base CX0 3 T.d_check_step.f T.d_check_step.fd ["value", "low", "high"] spCheckStep := by
  refine T.d_check_step.F.ok sc_check_step (fun vs H Q E h => ?_) (fun cdv A outer s H vs Q E hr h => ?_)
  · obtain ⟨i, lo, hi, rfl, _⟩ := h
    rfl
  · obtain ⟨i, lo, hi, rfl, h1, h2, k⟩ := h
    refine ⟨_, (pss_one (ps_if (pt_not (pt_val (pe_call (ok_is_between T) (hr.mono (by decide)) rfl T.g_is_between T.d_is_between.F.kp T.d_is_between.b .nil pass0 (pa_cons (pv 0) (pa_cons (pv 1) (pa_cons (pv 2) pa_nil)))))) (pss_one ps_never) pss_nil)), ?_⟩
    refine ⟨_, rfl, _, rfl, _, rfl, .int i, .int i, lo, hi, rfl, .int i, ?_⟩
    have e : isBetw (.int i) lo hi = true := by
      show (decide (lo ≤ i) && decide (i ≤ hi)) = true
      rw [decide_eq_true h1, decide_eq_true h2]
      rfl
    rw [e]
    exact ⟨_, rfl, ifF rfl k⟩
theorem ok_begin_of (T : Txt K mg) : FnOk P w K mg base CX0 1 T.d_begin_of.f T.d_begin_of.fd ["board", "press"] (spBeginOf T) := by
  refine T.d_begin_of.F.ok sc_begin_of (fun vs H Q E h => ?_) (fun cdv A outer s H vs Q E hr h => ?_)
  · obtain ⟨a, x, text, B, p, rfl, _⟩ := h
    rfl
  · obtain ⟨a, x, text, B, p, rfl, hB, hd, hin, k⟩ := h
    refine ⟨_, (pss_cons (ps_asg (pv 1) (pg_tup rfl (pgs_cons (pg_name (i := 2) sc_begin_of.nd rfl (Or.inl rfl)) (pgs_cons (pg_name (i := 3) sc_begin_of.nd rfl (Or.inl rfl)) pgs_nil)))) (pss_cons (ps_set (i := 4) sc_begin_of.nd rfl (Or.inl rfl) (pe_get (frButton_quantum T) (pe_dget (hu_of hr) (pe_get (frBoard_own_buttons T) (pv 0)) (pv 3) (fun _ _ => rfl)))) (pss_one (ps_ret (pe_op op_mul (pe_op op_fdiv (pe_op op_sub (pe_op op_add (pv 2) (pv 4)) pe_int) (pv 4)) (pv 4)))))), ?_⟩
    obtain ⟨M, hM, eM⟩ := List.mem_map.mp hin
    have wB : B.Well := by
      obtain ⟨_, _, _, _, _, _, _, _, _, w⟩ := hB
      exact w
    obtain ⟨dt, db, tas, bas, b, h1, h2, h3, ⟨bd, bs, _, _, hb1, _⟩, _⟩ := hB.button hM
    obtain ⟨ap, xs, rfl, hxs, hds⟩ := hd.tup_of
    cases hds with
    | cons d1 hds =>
    cases hds with
    | cons d2 hds =>
    cases hds
    cases d1
    cases d2
    have g := DGet.k (k := Sum.inr M.name) h2
    rw [h3, eM] at g
    have wM := wB.bw M hM
    have eq : quantOf B p.2 = M.quantum := by
      unfold quantOf
      rw [← eM, buttonOf_some wB hM]
      rfl
    refine ⟨_, rfl, ap, _, rfl, hxs, rfl, _, _, rfl, _, _, rfl, rfl, ?_⟩
    refine ⟨_, rfl, a, _, rfl, h1, _, rfl, db, .ref b, rfl, g, b, _, rfl, hb1, ?_⟩
    have q1 := wM.q1
    have q12 := wM.q12
    refine ⟨_, rfl, _, rfl, _, _, rfl, rfl, _, _, rfl, rfl, _, rfl, _, _, rfl, rfl, ⟨by omega, by omega⟩, _, rfl, _, _, rfl, rfl, .inr ⟨by omega, by omega⟩, ?_⟩
    have e : (((p.1 : Int) + (M.quantum : Int) - 1) / (M.quantum : Int) * (M.quantum : Int)) = ((beginOf B p : Nat) : Int) := by
      unfold beginOf
      rw [eq, Int.natCast_mul, Int.natCast_ediv]
      congr 2
      omega
    show Q (.int (((p.1 : Int) + (M.quantum : Int) - 1) / (M.quantum : Int) * (M.quantum : Int))) H
    rw [e]
    exact k
theorem ok_all_begins (T : Txt K mg) : FnOk P w K mg base CX0 2 T.d_all_begins.f T.d_all_begins.fd ["board", "presses"] (spAllBegins T) := by
  refine T.d_all_begins.F.ok sc_all_begins (fun vs H Q E h => ?_) (fun cdv A outer s H vs Q E hr h => ?_)
  · obtain ⟨a, x, text, B, ps, rfl, _⟩ := h
    rfl
  · obtain ⟨a, x, text, B, ps, rfl, hB, hd, hin, hl, k⟩ := h
    refine ⟨_, (pss_cons (ps_set (i := 2) sc_all_begins.nd rfl (Or.inl rfl) (pe_lst pa_nil)) (pss_cons (ps_for PassesOwn.never rfl (pi_enumX rfl T.c.z_enumerate (pa_cons (pv 1) pa_nil)) (pg_tup rfl (pgs_cons (pg_name (i := 3) sc_all_begins.nd rfl (Or.inl rfl)) (pgs_cons (pg_name (i := 4) sc_all_begins.nd rfl (Or.inl rfl)) pgs_nil))) (pss_cons (ps_set (i := 5) sc_all_begins.nd rfl (Or.inl rfl) (pe_call (ok_begin_of T) (hr.mono (by decide)) rfl T.g_begin_of T.d_begin_of.F.kp T.d_begin_of.b .nil pass0 (pa_cons (pv 0) (pa_cons (pv 4) pa_nil)))) (pss_one (ps_if (pt_mono (PW.pt (pw_or (pt_cmpR op_eq (pe_op op_add (pv 3) pe_int) (pe_callB call_len (by rfl) T.c.z_len (by decide +kernel) (pa_cons (pv 1) pa_nil)) (nomark _)) (pw_or1 (pt_cmpR op_lt (pv 5) (pe_ix ix_tup (pe_ix ix_tup (pv 1) (pe_op op_add (pv 3) pe_int) (fun _ _ => rfl)) pe_int (fun _ _ => rfl)) (nomark _)))))) (pss_one (ps_expr (pe_bm PySem.F.plainAttrs_list PySem.F.slot_list_append PySem.F.type_list_append mt_append (pv 2) (pa_cons (pe_tup (pa_cons (pv 5) (pa_cons (pe_ix ix_tup (pv 4) pe_int (fun _ _ => rfl)) pa_nil))) pa_nil)))) pss_nil)))) (pss_one (ps_ret (pe_callTy cr_tupleF (by rfl) T.c.z_tuple (by decide +kernel) (pa_cons (pv 2) pa_nil)))))), ?_⟩
    obtain ⟨b, xs, rfl, hxs, hds⟩ := hd.tup_of
    have lx : xs.length = ps.length := by rw [hds.len, List.length_map]
    refine ⟨by show 0 ≤ sizeLine; omega, fun f hf => ?_⟩
    have s0 : Same H (upd H f (.lst [])) := same_upd hf
    have f0 : upd H f (.lst []) f = some (.lst []) := upd_same
    generalize upd H f (.lst []) = Hf at *
    refine ⟨_, rfl, b, xs, true, rfl, s0.sqt hxs, ?_⟩
    refine for_it walk_enX (fun i σ Hz => Same H Hz ∧ (∃ v3 v4 v5, σ = [some (.ref a), some (.ref b), some (.ref f), v3, v4, v5]) ∧ ∃ pas : List Addr, Hz f = some (.lst (pas.map V.ref)) ∧ pas.length ≤ i ∧ Paired (BegAt Hz) pas ((List.range i).flatMap (begTurn B ps))) ⟨s0, ⟨_, _, _, rfl⟩, [], f0, by simp, .nil⟩ (fun i σ Hz _ hz => hz.1.sqt hxs) ?_ ?_
    · rintro i z σ Hz Hz' hi ⟨sz, ⟨v3, v4, v5, rfl⟩, pas, fy, ly, py⟩ ⟨Tt, x, y, rfl, hTt, rfl, e1, e2⟩
      cases e1
      have e2 : xs[i]? = some y := e2
      refine ⟨Tt, [_, y], rfl, .inl (.inl upd_same), rfl, _, _, rfl, _, _, rfl, rfl, ?_⟩
      have s3 := sz.new (u := .tup [.int (i : Nat), y]) hTt
      have sT : Same Hz (upd Hz Tt (.tup [.int (i : Nat), y])) := same_upd hTt
      generalize upd Hz Tt (.tup [.int (i : Nat), y]) = Hy at *
      obtain ⟨d, f1, f2⟩ := hds.get e2
      rw [List.getElem?_map] at f1
      cases q : ps[i]? with
      | none => rw [q] at f1; cases f1
      | some p =>
        rw [q] at f1
        cases f1
        have hm := List.mem_of_getElem? q
        refine ⟨_, rfl, _, rfl, a, y, text, B, p, rfl, hB.same s3, s3.dp f2, hin p hm, ?_⟩
        obtain ⟨pa, pxs, rfl, hpx, hpd⟩ := (s3.dp f2).tup_of
        cases hpd with
        | cons d1 hpd =>
        cases hpd with
        | cons d2 hpd =>
        cases hpd
        cases d1
        cases d2
        refine ⟨fun c Hc => Hc = Hy ∧ begTurn B ps i = if c = true then [(beginOf B p, p.2)] else [], ?_, ?_⟩
        · refine ⟨_, rfl, _, _, rfl, rfl, _, rfl, _, _, rfl, .inr ⟨_, s3.sqt hxs, rfl⟩, rfl, _, rfl, ?_⟩
          cases q2 : ps[i + 1]? with
          | none =>
            have l1 : i + 1 = xs.length := by
              have := (List.getElem?_eq_some_iff.mp q).1
              have := List.getElem?_eq_none_iff.mp q2
              omega
            refine ifT (dT (congrArg V.int (by omega))) ⟨rfl, ?_⟩
            unfold begTurn
            rw [q]
            show (match ps[i + 1]? with | none => _ | some q => _) = _
            rw [q2]
            rfl
          | some p2 =>
            have l1 : i + 1 < xs.length := by
              have := (List.getElem?_eq_some_iff.mp q2).1
              omega
            refine ifF (dF fun z => by have := V.int.inj z; omega) ?_
            have e3 : xs[i + 1]? = some (xs[i + 1]'l1) := List.getElem?_eq_getElem l1
            obtain ⟨d', g1, g2⟩ := hds.get e3
            rw [List.getElem?_map, q2] at g1
            cases g1
            obtain ⟨pa2, pxs2, ea2, hpx2, hpd2⟩ := (s3.dp g2).tup_of
            cases hpd2 with
            | cons d1 hpd2 =>
            cases hpd2 with
            | cons d2 hpd2 =>
            cases hpd2
            cases d1
            cases d2
            refine ⟨_, rfl, _, rfl, _, rfl, _, _, rfl, rfl, b, xs, ((i + 1 : Nat) : Int), .ref pa2, rfl, rfl, s3.sqt hxs, by rw [← ea2]; exact atI_nat e3, pa2, _, _, .int (p2.1 : Int), rfl, rfl, hpx2, atI_nat rfl, _, _, rfl, rfl, _, rfl, rfl, ?_⟩
            unfold begTurn
            rw [q]
            show (match ps[i + 1]? with | none => _ | some q => _) = _
            rw [q2]
            show (if beginOf B p < p2.1 then _ else _) = _
            by_cases hc : beginOf B p < p2.1
            · rw [if_pos hc, if_pos (decide_eq_true (by omega))]
            · rw [if_neg hc, if_neg (by rw [decide_eq_true_iff]; omega)]
        · rintro c Hc ⟨rfl, ec⟩
          have ev : (List.range (i + 1)).flatMap (begTurn B ps) = (List.range i).flatMap (begTurn B ps) ++ begTurn B ps i := by
            rw [List.range_succ, List.flatMap_append]
            simp
          cases c with
          | false =>
            refine ifF rfl ?_
            refine ⟨s3, ⟨_, _, _, rfl⟩, pas, sT _ _ fy, by omega, ?_⟩
            rw [ev, ec, if_neg Bool.false_ne_true, List.append_nil]
            exact paired_mono (fun p x h => sT _ _ h) py
          | true =>
            refine ifT rfl ?_
            refine ⟨_, rfl, .inl ⟨rfl, _, .inl (.inl (sT _ _ fy))⟩, _, rfl, _, rfl, pa, _, _, .str p.2, rfl, rfl, hpx, atI_nat rfl, by show 2 ≤ sizeLine; exact le_line (by omega), fun tp htp => ?_⟩
            have ltp : pas.length < sizeLine := lt_line (by have := (List.getElem?_eq_some_iff.mp q).1; omega)
            refine ⟨f, _, _, rfl, rfl, upd_old (sT _ _ fy) htp, by rw [List.length_map]; exact ltp, ?_⟩
            have st : Same Hc (upd Hc tp (.tup [.int (beginOf B p : Nat), .str p.2])) := same_upd htp
            have tp1 : upd Hc tp (.tup [.int (beginOf B p : Nat), .str p.2]) tp = some (.tup [.int (beginOf B p : Nat), .str p.2]) := upd_same
            have fy2 := st _ _ (sT _ _ fy)
            generalize upd Hc tp (.tup [.int (beginOf B p : Nat), .str p.2]) = Ht at *
            refine ⟨fun b' o e => upd_get ((s3.trans st) _ _ e) (ne_of_none e hf), ⟨_, _, _, rfl⟩, pas ++ [tp], by rw [List.map_append]; exact upd_same, by rw [List.length_append]; simp; omega, ?_⟩
            rw [ev, ec]
            have up : ∀ (p : Addr) (x : Nat × Str), BegAt Ht p x → BegAt (upd Ht f (.lst (pas.map V.ref ++ [V.ref tp]))) p x := fun p x h => upd_get h (ne_of h fy2 (by intro z; cases z))
            exact paired_snoc (up tp (beginOf B p, p.2) tp1) (paired_mono (fun p x h => up p x (st _ _ (sT _ _ h))) py)
    · rintro σ Hz ⟨sz, ⟨v3, v4, v5, rfl⟩, pas, fy, ly, py⟩
      rw [lx] at py
      refine ⟨_, rfl, f, _, rfl, .inl (.inl fy), fun l o nl od _ => ?_⟩
      exact k _ l o pas (sz.new nl) upd_same od (paired_mono (fun p x h => upd_old h nl) py)
theorem ok_begun (T : Txt K mg) : FnOk P w K mg base CX0 4 T.d_begun.f T.d_begun.fd ["board", "presses"] (spBegun T) := by
  refine T.d_begun.F.ok sc_begun (fun vs H Q E h => ?_) (fun cdv A outer s H vs Q E hr h => ?_)
  · obtain ⟨a, x, text, B, ps, rfl, _⟩ := h
    rfl
  · obtain ⟨a, x, text, B, ps, rfl, hB, hd, hp, k⟩ := h
    refine ⟨_, (pss_cons (ps_expr (pe_call (ok_check_presses T) (hr.mono (by decide)) rfl T.g_check_presses T.d_check_presses.F.kp T.d_check_presses.b .nil pass0 (pa_cons (pv 0) (pa_cons (pv 1) pa_nil)))) (pss_one (ps_ret (pe_call (ok_all_begins T) (hr.mono (by decide)) rfl T.g_all_begins T.d_all_begins.F.kp T.d_all_begins.b .nil pass0 (pa_cons (pv 0) (pa_cons (pv 1) pa_nil)))))), ?_⟩
    refine ⟨_, rfl, _, rfl, a, x, text, B, _, rfl, hB, hd, noL_presses ps, (by show (ps.map pressD).length ≤ 100000; rw [List.length_map]; exact hp.few), hp.are, fun H1 s1 => ?_⟩
    refine ⟨_, rfl, _, rfl, a, x, text, B, ps, rfl, hB.same s1, s1.dp hd, hp.mem, hp.few, fun H2 l o pas s2 hl od hP => ?_⟩
    exact k H2 _ (s1.trans s2) (begs_dp hl hP)
end
end Ev
end

section
namespace Ev
open PySem PySem.Spec PyProof.Rows L2
/-! ## playing.py, players -/
theorem noL_sts (ss : List St3) : noL (.tuple (ss.map stD)) = true := noLs_map (fun s => noL_st s) ss
section
variable {K : PySem.W.Frag} {mg : Str → Option Value}
/-- what a player leans on: it stands in a heap without the player -/
structure PStat (T : Txt K mg) (H : Hp) (tl db bd : Addr) (tas bas : List Addr) (B : BoardM) (bs : List (Nat × Str)) : Prop where
  tl_ : H tl = some (.lst (tas.map V.ref))
  tr : TracksAt T noH H tas B.tracks
  db_ : H db = some (.dK (kvN (·.name) B.buttons bas))
  bt : ButtonsAt T noH H bas B.buttons
  bd_ : H bd = some (.dK (begKV bs))
  wl : B.Well
theorem PStat.same {T : Txt K mg} {H H' : Hp} {tl db bd : Addr} {tas bas : List Addr} {B : BoardM} {bs : List (Nat × Str)} (h : PStat T H tl db bd tas bas B bs) (s : Same H H') : PStat T H' tl db bd tas bas B bs :=
  ⟨s _ _ h.tl_, h.tr.same s, s _ _ h.db_, h.bt.same s, s _ _ h.bd_, h.wl⟩
/-- where a player stands -/
structure PDyn (T : Txt K mg) (H : Hp) (p tl db bd : Addr) (k : Int) (v : V) (ss : List St3) : Prop where
  at_ : AtPlayer T H p ⟨.ref tl, .ref db, .ref bd, .int k, v⟩
  st : Dp K H v (.tuple (ss.map stD))
theorem PDyn.same {T : Txt K mg} {H H' : Hp} {p tl db bd : Addr} {k : Int} {v : V} {ss : List St3} (h : PDyn T H p tl db bd k v ss) (s : Same H H') : PDyn T H' p tl db bd k v ss := ⟨h.at_.same s, s.dp h.st⟩
theorem AtPlayer.nt {T : Txt K mg} {H : Hp} {p : Addr} {o : OPlayer} (h : AtPlayer T H p o) : NT [p] H := fun s hs u e => by
  rw [List.mem_singleton] at hs
  subst hs
  obtain ⟨dx, q⟩ := h
  rw [q] at e
  cases e
  rfl
theorem keep_stat {Hs H H' : Hp} {p : Addr} (s : Same Hs H) (n : Hs p = none) (k : Keep [p] H H') : Same Hs H' := fun b o e => k b o (s b o e) (by
  rw [List.mem_singleton]
  exact ne_of_none e n)
/-- which buttons begin when, rightly told -/
structure BegOk (B : BoardM) (bs : List (Nat × Str)) : Prop where
  nd : (bs.map (·.1)).Nodup
  mem : ∀ x ∈ bs, x.2 ∈ B.buttons.map (·.name)
end
def spPlayerInit {K : PySem.W.Frag} {mg : Str → Option Value} (T : Txt K mg) : Sp := fun vs H Q _ => ∃ (x dx a bd dt db : Addr) (o : OBoard) (ts : List TrackM) (tas : List Addr), vs = [.ref x, .ref a, .ref bd] ∧ H x = some (.ins T.Player.C dx []) ∧ AtBoard T H a o ∧ o.own_tracks = .ref dt ∧ o.own_buttons = .ref db ∧
  H dt = some (.dK (kvN (·.name) ts tas)) ∧ tas.length = ts.length ∧ 1 ≤ ts.length ∧ ts.length ≤ 4 ∧
  ∀ H' tl v, Keep [x] H H' → AtPlayer T H' x ⟨.ref tl, .ref db, .ref bd, .int (-1), v⟩ → H' tl = some (.lst (tas.map V.ref)) → Dp K H' v (.tuple ((List.replicate ts.length (none : St3)).map stD)) → Q .non H'
def spMove {K : PySem.W.Frag} {mg : Str → Option Value} (T : Txt K mg) : Sp := fun vs H Q _ => ∃ (p : Addr) (Hs : Hp) (tl db bd : Addr) (tas bas : List Addr) (B : BoardM) (bs : List (Nat × Str)) (k : Nat) (v : V), vs = [.ref p] ∧ PStat T Hs tl db bd tas bas B bs ∧ Same Hs H ∧ Hs p = none ∧
  PDyn T H p tl db bd ((k : Int) - 1) v (playTo B.tracks B.buttons bs k) ∧ BegOk B bs ∧ ∀ H' v', Keep [p] H H' → PDyn T H' p tl db bd ((k + 1 : Nat) - 1) v' (playTo B.tracks B.buttons bs (k + 1)) → Q .non H'
def spSounding {K : PySem.W.Frag} {mg : Str → Option Value} (T : Txt K mg) : Sp := fun vs H Q _ => ∃ (p : Addr) (Hs : Hp) (tl db bd : Addr) (tas bas : List Addr) (B : BoardM) (bs : List (Nat × Str)) (k : Nat) (v : V), vs = [.ref p] ∧ PStat T Hs tl db bd tas bas B bs ∧ Same Hs H ∧
  PDyn T H p tl db bd ((k : Int) - 1) v (playTo B.tracks B.buttons bs k) ∧ ∀ H' v, Same H H' → Dp K H' v (.tuple (strikesD B.tracks (playTo B.tracks B.buttons bs k))) → Q v H'
def spPlayedTo {K : PySem.W.Frag} {mg : Str → Option Value} (T : Txt K mg) : Sp := fun vs H Q _ => ∃ (a : Addr) (x : V) (text : Str) (B : BoardM) (ps : List (Nat × Str)) (n : Nat), vs = [.ref a, x, .int ((n : Int) - 1)] ∧ BoardAt T H a text B ∧ Dp K H x (.tuple (ps.map pressD)) ∧ PrOk B ps ∧ BegOk B (allBegins B ps) ∧
  ∀ H' p Hs tl db bd tas bas v, Same H H' → H p = none → PStat T Hs tl db bd tas bas B (allBegins B ps) → Same Hs H' → Hs p = none → PDyn T H' p tl db bd ((n : Int) - 1) v (playTo B.tracks B.buttons (allBegins B ps) n) → Q (.ref p) H'
def spStands {K : PySem.W.Frag} {mg : Str → Option Value} (T : Txt K mg) : Sp := fun vs H Q _ => ∃ (a : Addr) (x : V) (text : Str) (B : BoardM) (ps : List (Nat × Str)) (n : Nat), vs = [.ref a, x, .int (n : Int)] ∧ BoardAt T H a text B ∧ Dp K H x (.tuple (ps.map pressD)) ∧ PrOk B ps ∧ BegOk B (allBegins B ps) ∧ n ≤ 9999 ∧
  ∀ H' v, Same H H' → Dp K H' v (.tuple ((playTo B.tracks B.buttons (allBegins B ps) (n + 1)).map stD)) → Q v H'
/-- what is heard at so many steps from one on -/
def heardD (B : BoardM) (bs : List (Nat × Str)) (n m : Nat) : List PyData := (List.range m).map fun i => .tuple (strikesD B.tracks (playTo B.tracks B.buttons bs (n + i + 1)))
def spHeard {K : PySem.W.Frag} {mg : Str → Option Value} (T : Txt K mg) : Sp := fun vs H Q _ => ∃ (a : Addr) (x : V) (text : Str) (B : BoardM) (ps : List (Nat × Str)) (n m : Nat), vs = [.ref a, x, .int (n : Int), .int (m : Int)] ∧ BoardAt T H a text B ∧ Dp K H x (.tuple (ps.map pressD)) ∧ PrOk B ps ∧ BegOk B (allBegins B ps) ∧ n ≤ 9999 ∧ m ≤ 99 ∧
  ∀ H' v, Same H H' → Dp K H' v (.tuple (heardD B (allBegins B ps) n m)) → Q v H'
section
variable {P : Program} {w : World} {K : PySem.W.Frag} {mg : Str → Option Value} {base : Heap}
theorem ok_PlayerD_initD (T : Txt K mg) : FnOk P w K mg base CX0 1 T.Player.init.f T.Player.init.fd ["self", "board", "begins"] (spPlayerInit T) := by
  refine T.Player.init.F.ok sc_PlayerD_initD (fun vs H Q E h => ?_) (fun cdv A outer s H vs Q E hr h => ?_)
  · obtain ⟨x, dx, a, bd, dt, db, o, ts, tas, rfl, _⟩ := h
    rfl
  · obtain ⟨x, dx, a, bd, dt, db, ob, ts, tas, rfl, hx, h1, eo1, eo2, h2, hl, t1, t4, k⟩ := h
    refine ⟨_, (pss_cons (ps_fld (pv 0) (pe_listVals rfl (pe_get (frBoard_own_tracks T) (pv 1)) (by rfl) T.c.z_list (by decide +kernel)) rfl) (pss_cons (ps_fld (pv 0) (pe_get (frBoard_own_buttons T) (pv 1)) rfl) (pss_cons (ps_fld (pv 0) (pv 2) rfl) (pss_cons (ps_fld (pv 0) (pe_un un_neg pe_int) rfl) (pss_one (ps_fld (pv 0) (pe_op (OpR.or op_repT1 op_repT) (pe_tup (pa_cons (pe_tup pa_nil) pa_nil)) (pe_callB call_len (by rfl) T.c.z_len (by decide +kernel) (pa_cons (pe_fld (pv 0) rfl) pa_nil))) rfl)))))), ?_⟩
    refine ⟨_, rfl, a, _, rfl, h1, dt, _, eo1, .inl h2, fun tl ntl => ?_⟩
    rw [kvN_vals hl]
    have s1 : Same H (upd H tl (.lst (tas.map V.ref))) := same_upd ntl
    have tl1 : upd H tl (.lst (tas.map V.ref)) tl = some (.lst (tas.map V.ref)) := upd_same
    generalize upd H tl (.lst (tas.map V.ref)) = H1 at *
    have nxa : a ≠ x := by
      obtain ⟨_, e⟩ := h1
      exact ne_of e hx (ins_ne (by show (["own_text", "own_tracks", "own_buttons", "own_bar"] : List Str) ≠ []; decide))
    have nxt : tl ≠ x := ne_of tl1 (s1 _ _ hx) (by intro z; cases z)
    refine ⟨_, rfl, x, _, dx, _, rfl, s1 _ _ hx, T.Player.cl, T.Player.na 0 _ rfl, by decide, ?_⟩
    refine ⟨_, rfl, a, _, rfl, (h1.same s1).put nxa, _, rfl, x, _, dx, _, rfl, upd_same, T.Player.cl, T.Player.na 1 _ rfl, by show 1 < 1000; decide, ?_⟩
    rw [eo2]
    refine ⟨_, rfl, _, rfl, x, _, dx, _, rfl, upd_same, T.Player.cl, T.Player.na 2 _ rfl, by show 2 < 1000; decide, ?_⟩
    refine ⟨_, rfl, _, rfl, x, _, dx, _, rfl, upd_same, T.Player.cl, T.Player.na 3 _ rfl, by show 3 < 1000; decide, ?_⟩
    rw [pnPlayer_own_tracks, pnPlayer_own_buttons, pnPlayer_begins, pnPlayer_own_step]
    have k5 : ∀ {u1 u2 u3 u4 : HO}, Keep [x] H (upd (upd (upd (upd H1 x u1) x u2) x u3) x u4) := fun {u1 u2 u3 u4} => (Keep.of _ s1).put1.put1.put1.put1
    have kk : ∀ {u1 u2 u3 u4 : HO}, Keep [x] H1 (upd (upd (upd (upd H1 x u1) x u2) x u3) x u4) := fun {u1 u2 u3 u4} => (Keep.refl _ _).put1.put1.put1.put1
    refine ⟨by show 0 ≤ sizeLine; omega, fun e he => ⟨by show 1 ≤ sizeLine; exact one_k, fun o ho => ?_⟩⟩
    have tl2 := upd_old (u := .tup [.ref e]) (upd_old (kk _ _ tl1 (by simpa using nxt)) he) ho
    have x2 := upd_old (u := .tup [.ref e]) (upd_old (upd_same) he) ho
    have k7 := ((k5).new he).new ho (u := .tup [.ref e])
    have e7 := upd_old (u := .tup [.ref e]) (upd_same (o := HO.tup [])) ho
    refine ⟨_, rfl, x, _, dx, _, _, rfl, x2, T.Player.cl, T.Player.na 0 _ rfl, rfl, _, _, rfl, .inl ⟨_, .inl (.inl tl2), rfl⟩, ?_⟩
    have el : ((tas.map V.ref).length : Int) = (ts.length : Int) := by rw [List.length_map, hl]
    have neo : o ≠ x := fun q => by rw [q] at ho; exact nomatch ho.symm.trans (upd_old upd_same he)
    have nee : e ≠ x := fun q => by rw [q] at he; exact nomatch he.symm.trans upd_same
    rw [el]
    by_cases ht : ts.length = 1
    · refine .inl ⟨o, [.ref e], rfl, by rw [ht]; rfl, .inl (.inl upd_same), ?_⟩
      refine ⟨_, rfl, x, _, dx, _, rfl, x2, T.Player.cl, T.Player.na 4 _ rfl, by show 4 < 1000; decide, ?_⟩
      rw [pnPlayer_own_standings]
      refine k _ tl _ k7.put1 ⟨dx, upd_same⟩ (upd_get tl2 nxt) ?_
      rw [ht]
      exact .tup (.inl (.inl (upd_get upd_same neo))) (.cons (.tup (.inl (.inl (upd_get e7 nee))) .nil) .nil)
    · refine .inr ⟨o, (ts.length : Int), [.ref e], rfl, rfl, .inl (.inl upd_same), by simp, by omega, by omega, by simp, fun q hq => ?_⟩
      rw [show ((ts.length : Nat) : Int).toNat = ts.length by omega, rep_flat]
      have x3 := upd_old (u := .tup (List.replicate ts.length (V.ref e))) x2 hq
      have tl3 := upd_old (u := .tup (List.replicate ts.length (V.ref e))) tl2 hq
      have e8 := upd_old (u := .tup (List.replicate ts.length (V.ref e))) e7 hq
      have neq : q ≠ x := fun z => by rw [z] at hq; exact nomatch hq.symm.trans x2
      refine ⟨_, rfl, x, _, dx, _, rfl, x3, T.Player.cl, T.Player.na 4 _ rfl, by show 4 < 1000; decide, ?_⟩
      rw [pnPlayer_own_standings]
      refine k _ tl _ (k7.new hq).put1 ⟨dx, upd_same⟩ (upd_get tl3 nxt) ?_
      refine .tup (.inl (.inl (upd_get upd_same neq))) ?_
      rw [List.map_replicate]
      exact dpAll_rep (.tup (.inl (.inl (upd_get e8 nee))) .nil) _
theorem ok_Player_move (T : Txt K mg) : FnOk P w K mg base CX0 4 T.Player.d_Player_move.f T.Player.d_Player_move.fd ["self"] (spMove T) := by
  refine T.Player.d_Player_move.F.ok sc_Player_move (fun vs H Q E h => ?_) (fun cdv A outer s H vs Q E hr h => ?_)
  · obtain ⟨p, Hs, tl, db, bd, tas, bas, B, bs, k, v, rfl, _⟩ := h
    rfl
  · obtain ⟨p, Hs, tl, db, bd, tas, bas, B, bs, kk, v, rfl, hS, s0, n0, hP, hb, k⟩ := h
    refine ⟨_, (pss_cons (ps_augF (frPlayer_own_step T) (pv 0) pe_int in_add) (pss_cons (ps_put (frPlayer_own_standings T) (pv 0) (pe_call (ok_all_followed T) (hr.mono (by decide)) rfl T.g_all_followed T.d_all_followed.F.kp T.d_all_followed.b .nil pass0 (pa_cons (pe_get (frPlayer_own_tracks T) (pv 0)) (pa_cons (pe_get (frPlayer_own_standings T) (pv 0)) pa_nil)))) (pss_one (ps_if (pt_cmp (pc_din (hu_of hr) (pe_get (frPlayer_own_step T) (pv 0)) (pe_get (frPlayer_begins T) (pv 0))) rfl) (pss_cons (ps_set (i := 1) sc_Player_move.nd rfl (Or.inl rfl) (pe_dget (hu_of hr) (pe_get (frPlayer_own_buttons T) (pv 0)) (pe_dget (hu_of hr) (pe_get (frPlayer_begins T) (pv 0)) (pe_get (frPlayer_own_step T) (pv 0)) (fun _ _ => rfl)) (fun _ _ => rfl))) (pss_one (ps_put (frPlayer_own_standings T) (pv 0) (pe_call (ok_all_begun T) (hr.mono (by decide)) rfl T.g_all_begun T.d_all_begun.F.kp T.d_all_begun.b .nil pass0 (pa_cons (pv 1) (pa_cons (pe_get (frPlayer_own_tracks T) (pv 0)) (pa_cons (pe_get (frPlayer_own_standings T) (pv 0)) pa_nil))))))) pss_nil)))), ?_⟩
    have wB := hS.wl
    have sOk := stsOk_play (bts := B.buttons) (bs := bs) wB.tw kk
    refine ⟨_, rfl, p, _, rfl, hP.at_, _, _, rfl, rfl, _, hP.at_, fun H1 a1 b1 => ?_⟩
    have a1 : AtPlayer T H1 p ⟨.ref tl, .ref db, .ref bd, .int (kk : Int), v⟩ := by
      have : (kk : Int) - 1 + 1 = kk := by omega
      rw [← this]
      exact a1
    have k1 : Keep [p] H H1 := (Keep.refl _ _).but b1 (by simp)
    have d1 : Dp K H1 v _ := dp_keep k1 (AtPlayer.nt hP.at_) hP.st (noL_sts _)
    have hS1 := hS.same (keep_stat s0 n0 k1)
    refine ⟨_, rfl, p, _, rfl, a1, _, rfl, p, _, rfl, a1, tl, v, noH, tas, B.tracks, _, rfl, SqL.of hS1.tl_, hS1.tr, wB.tw, wB.t4, wB.th, d1, sOk, fun H2 v2 s2 d2 => ?_⟩
    have a2 := AtO.same a1 s2
    refine ⟨_, rfl, p, _, rfl, a2, fun H3 a3 b3 => ?_⟩
    have k3 : Keep [p] H H3 := (k1.same s2).but b3 (by simp)
    have d3 : Dp K H3 v2 _ := dp_keep ((Keep.refl _ _).but b3 (by simp)) (AtPlayer.nt a2) d2 (noL_sts _)
    have hS3 := hS.same (keep_stat s0 n0 k3)
    obtain ⟨e1, e2⟩ := begKV_val hb.nd kk
    have g := DGet.k (k := Sum.inl (kk : Int)) hS3.bd_
    rw [e2] at g
    refine ⟨_, rfl, p, _, rfl, a3, _, rfl, p, _, rfl, a3, bd, _, rfl, g, _, rfl, ?_⟩
    have e : ((kk + 1 : Nat) : Int) - 1 = kk := by omega
    rw [e] at k
    cases q : beginsAt bs kk with
    | none =>
      refine ifF rfl (k H3 v2 k3 ⟨a3, ?_⟩)
      have : playTo B.tracks B.buttons bs (kk + 1) = followAll B.tracks (playTo B.tracks B.buttons bs kk) := by
        show (match (beginsAt bs kk).bind (buttonIn B.buttons) with | none => _ | some M => _) = _
        rw [q]
        rfl
      rw [this]
      exact d3
    | some bn =>
      rw [q] at g
      refine ifT rfl ?_
      have hm : bn ∈ B.buttons.map (·.name) := by
        unfold beginsAt at q
        obtain ⟨x, ex, rfl⟩ := Option.map_eq_some_iff.mp q
        exact hb.mem x (List.mem_of_find?_eq_some ex)
      obtain ⟨M, hM, eM⟩ := List.mem_map.mp hm
      obtain ⟨i, hi, ei⟩ := List.mem_iff_getElem.mp hM
      have f1 : B.buttons[i]? = some M := by rw [List.getElem?_eq_getElem hi, ei]
      have hl := hS3.bt.1
      have f2 : bas[i]? = some (bas[i]'(by omega)) := List.getElem?_eq_getElem (by omega)
      have g2 := DGet.k (k := Sum.inr M.name) hS3.db_
      rw [valV_at wB.ndb f1 f2, eM] at g2
      have hBt := hS3.bt.2 i _ M f2 f1
      refine ⟨_, rfl, p, _, rfl, a3, _, rfl, p, _, rfl, a3, _, rfl, p, _, rfl, a3, bd, _, rfl, g, db, _, rfl, g2, ?_⟩
      refine ⟨_, rfl, _, rfl, p, _, rfl, a3, _, rfl, p, _, rfl, a3, _, tl, v2, noH, tas, B.tracks, M, _, rfl, SqL.of hS3.tl_, hBt, wB.bw M hM, hS3.tr, wB.tw, wB.t4, wB.ndt, d3, stsOk_follow wB.tw sOk, fun H4 v4 s4 d4 => ?_⟩
      have a4 := AtO.same a3 s4
      refine ⟨_, rfl, p, _, rfl, a4, fun H5 a5 b5 => ?_⟩
      refine k H5 v4 ((k3.same s4).but b5 (by simp)) ⟨a5, ?_⟩
      have : playTo B.tracks B.buttons bs (kk + 1) = begunAll M B.tracks (followAll B.tracks (playTo B.tracks B.buttons bs kk)) := by
        show (match (beginsAt bs kk).bind (buttonIn B.buttons) with | none => _ | some M => _) = _
        rw [q]
        have eb : buttonIn B.buttons bn = some M := by
          have := buttonOf_some wB hM
          rw [eM] at this
          exact this
        show (match buttonIn B.buttons bn with | none => _ | some M => _) = _
        rw [eb]
      rw [this]
      exact dp_keep ((Keep.refl _ _).but b5 (by simp)) (AtPlayer.nt a4) d4 (noL_sts _)
theorem ok_Player_sounding (T : Txt K mg) : FnOk P w K mg base CX0 3 T.Player.d_Player_sounding.f T.Player.d_Player_sounding.fd ["self"] (spSounding T) := by
  refine T.Player.d_Player_sounding.F.ok sc_Player_sounding (fun vs H Q E h => ?_) (fun cdv A outer s H vs Q E hr h => ?_)
  · obtain ⟨p, Hs, tl, db, bd, tas, bas, B, bs, k, v, rfl, _⟩ := h
    rfl
  · obtain ⟨p, Hs, tl, db, bd, tas, bas, B, bs, kk, v, rfl, hS, s0, hP, k⟩ := h
    refine ⟨_, (pss_one (ps_ret (pe_call (ok_strikes_of T) (hr.mono (by decide)) rfl T.g_strikes_of T.d_strikes_of.F.kp T.d_strikes_of.b .nil pass0 (pa_cons (pe_get (frPlayer_own_tracks T) (pv 0)) (pa_cons (pe_get (frPlayer_own_standings T) (pv 0)) pa_nil))))), ?_⟩
    have wB := hS.wl
    have hS1 := hS.same s0
    exact ⟨_, rfl, p, _, rfl, hP.at_, _, rfl, p, _, rfl, hP.at_, tl, v, noH, tas, B.tracks, _, rfl, SqL.of hS1.tl_, hS1.tr, wB.tw, wB.t4, hP.st, stsOk_play wB.tw kk, fun H' v' s' d' => k H' v' s' d'⟩
theorem paired_beg {H : Hp} : ∀ {pas : List Addr} {bs : List (Nat × Str)}, Paired (BegAt H) pas bs → Paired (fun (p : Addr) (kv : Key × V) => H p = some (.tup [kV kv.1, kv.2])) pas (begKV bs)
  | _, _, .nil => .nil
  | _, _, .cons a t => .cons a (paired_beg t)
theorem ok_played_to (T : Txt K mg) : FnOk P w K mg base CX0 5 T.d_played_to.f T.d_played_to.fd ["board", "presses", "step"] (spPlayedTo T) := by
  refine T.d_played_to.F.ok sc_played_to (fun vs H Q E h => ?_) (fun cdv A outer s H vs Q E hr h => ?_)
  · obtain ⟨a, x, text, B, ps, n, rfl, _⟩ := h
    rfl
  · obtain ⟨a, x, text, B, ps, n, rfl, hB, hd, hp, hb, k⟩ := h
    refine ⟨_, (pss_cons (ps_set (i := 3) sc_played_to.nd rfl (Or.inl rfl) (pe_make T.Player.made (ok_PlayerD_initD T) (hr.mono (by decide)) rfl T.Player.gC T.Player.init.b .nil pass0 (pa_cons (pv 0) (pa_cons (pe_callTy (cr_dictT rfl) (by rfl) T.c.z_dict (by decide +kernel) (pa_cons (pe_call (ok_all_begins T) (hr.mono (by decide)) rfl T.g_all_begins T.d_all_begins.F.kp T.d_all_begins.b .nil pass0 (pa_cons (pv 0) (pa_cons (pv 1) pa_nil))) pa_nil)) pa_nil)))) (pss_cons (ps_while PassesOwn.never (pt_mono (pt_cmpR op_lt (pe_get (frPlayer_own_step T) (pv 3)) (pv 2) (nomark _))) (pss_one (ps_expr (pe_methO nmPlayer_move (pe_meth0 (pe_mono (pv 3)) T.Player.cl T.Player.m_Player_move (ok_Player_move T) (hr.mono (by decide)) T.Player.d_Player_move.b .nil pass0))))) (pss_one (ps_ret (pv 3))))), ?_⟩
    refine ⟨_, rfl, _, rfl, _, rfl, a, x, text, B, ps, rfl, hB, hd, hp.mem, hp.few, fun H1 l o pas s1 hl od hP => ?_⟩
    refine ⟨l, o, pas, begKV (allBegins B ps), rfl, hl, od, paired_beg hP, fun bd hbd => ?_⟩
    rw [(begKV_val hb.nd 0).1]
    have s2 : Same H1 (upd H1 bd (.dK (begKV (allBegins B ps)))) := same_upd hbd
    have bd2 : upd H1 bd (.dK (begKV (allBegins B ps))) bd = some (.dK (begKV (allBegins B ps))) := upd_same
    generalize upd H1 bd (.dK (begKV (allBegins B ps))) = H2 at *
    have s02 := s1.trans s2
    obtain ⟨dt, db, tas, bas, h1, h2, h3, h4, h5, h6⟩ := hB.same s02
    intro px dx npx ndx ne
    have sM : Same H2 (upd (upd H2 dx (.own px)) px (.ins T.Player.C dx [])) := (same_upd ndx).trans (same_upd (by rw [upd_ne ne.symm]; exact npx))
    refine ⟨px, dx, a, bd, dt, db, _, B.tracks, tas, rfl, upd_same, h1.same sM, rfl, rfl, sM _ _ h2, h4.1, h6.t1, h6.t4, fun H3 tl v k3 a3 tl3 d3 => ⟨rfl, ?_⟩⟩
    have s23 := make_keep npx ndx k3
    have hpx : H px = none := s02.fresh npx
    have npt : tl ≠ px := by
      obtain ⟨_, e⟩ := a3
      exact ne_of tl3 e (by intro z; cases z)
    -- what the player leans on
    have hS : PStat T (upd H2 tl (.lst (tas.map V.ref))) tl db bd tas bas B (allBegins B ps) ∧ Same (upd H2 tl (.lst (tas.map V.ref))) H3 ∧ (upd H2 tl (.lst (tas.map V.ref))) px = none := by
      have sU : Same H2 (upd H2 tl (.lst (tas.map V.ref))) := fun b o e => by
        by_cases hb : b = tl
        · subst hb
          have := s23 _ _ e
          rw [tl3] at this
          cases this
          exact upd_same
        · rw [upd_ne hb]; exact e
      refine ⟨⟨upd_same, h4.same sU, sU _ _ h3, h5.same sU, sU _ _ bd2, h6⟩, fun b u e => ?_, by rw [upd_ne npt.symm]; exact npx⟩
      by_cases hb : b = tl
      · subst hb; rw [upd_same] at e; cases e; exact tl3
      · rw [upd_ne hb] at e; exact s23 b u e
    obtain ⟨hS, sS, nS⟩ := hS
    generalize upd H2 tl (.lst (tas.map V.ref)) = Hs at *
    have s03 : Same H H3 := s02.trans s23
    refine while_ix (fun m σ Hz => ∃ kk v, m = n - kk ∧ kk ≤ n ∧ σ = [some (.ref a), some x, some (.int ((n : Int) - 1)), some (.ref px)] ∧ Same H Hz ∧ Same Hs Hz ∧ PDyn T Hz px tl db bd ((kk : Int) - 1) v (playTo B.tracks B.buttons (allBegins B ps) kk)) n ⟨0, v, by simp, Nat.zero_le _, rfl, s03, sS, by rw [show (((0 : Nat) : Int) - 1) = -1 from rfl]; exact a3, d3⟩ ?_
    rintro m σ Hz ⟨kk, v', rfl, hk, rfl, sz, sSz, hP⟩
    refine ⟨_, rfl, px, _, rfl, hP.at_, _, rfl, _, _, rfl, rfl, _, rfl, ?_⟩
    by_cases hlt : kk < n
    · refine ifT (dT (by omega)) ?_
      refine ⟨_, rfl, px, _, rfl, hP.at_, px, Hs, tl, db, bd, tas, bas, B, allBegins B ps, kk, v', rfl, hS, sSz, nS, hP, hb, fun H5 v5 k5 P5 => ?_⟩
      exact ⟨n - (kk + 1), by omega, kk + 1, v5, rfl, hlt, rfl, keep_stat sz hpx k5, keep_stat sSz nS k5, P5⟩
    · refine ifF (dF (by omega)) ?_
      have e : kk = n := by omega
      subst e
      exact ⟨_, rfl, k Hz px Hs tl db bd tas bas v' sz hpx hS sSz nS hP⟩
theorem ok_stands (T : Txt K mg) : FnOk P w K mg base CX0 6 T.d_stands.f T.d_stands.fd ["board", "presses", "step"] (spStands T) := by
  refine T.d_stands.F.ok sc_stands (fun vs H Q E h => ?_) (fun cdv A outer s H vs Q E hr h => ?_)
  · obtain ⟨a, x, text, B, ps, n, rfl, _⟩ := h
    rfl
  · obtain ⟨a, x, text, B, ps, n, rfl, hB, hd, hp, hb, hn, k⟩ := h
    refine ⟨_, (pss_cons (ps_expr (pe_call (ok_check_presses T) (hr.mono (by decide)) rfl T.g_check_presses T.d_check_presses.F.kp T.d_check_presses.b .nil pass0 (pa_cons (pv 0) (pa_cons (pv 1) pa_nil)))) (pss_cons (ps_expr (pe_call (ok_check_step T) (hr.mono (by decide)) rfl T.g_check_step T.d_check_step.F.kp T.d_check_step.b .nil pass0 (pa_cons (pv 2) (pa_cons pe_int (pa_cons (pe_gc rfl T.c.g_LAST_STEP) pa_nil))))) (pss_one (ps_ret (pe_get (frPlayer_own_standings T) (pe_call (ok_played_to T) (hr.mono (by decide)) rfl T.g_played_to T.d_played_to.F.kp T.d_played_to.b .nil pass0 (pa_cons (pv 0) (pa_cons (pv 1) (pa_cons (pv 2) pa_nil))))))))), ?_⟩
    refine ⟨_, rfl, _, rfl, a, x, text, B, _, rfl, hB, hd, noL_presses ps, (by show (ps.map pressD).length ≤ 100000; rw [List.length_map]; exact hp.few), hp.are, fun H1 s1 => ?_⟩
    refine ⟨_, rfl, (n : Int), 0, 9999, rfl, by omega, by omega, ?_⟩
    refine ⟨_, rfl, _, rfl, _, rfl, a, x, text, B, ps, n + 1, by rw [show ((n + 1 : Nat) : Int) - 1 = n by omega]; rfl, hB.same s1, s1.dp hd, hp, hb, fun H2 p Hs tl db bd tas bas v s2 _ _ _ _ hP => ?_⟩
    exact ⟨p, _, rfl, hP.at_, k H2 v (s1.trans s2) hP.st⟩
theorem noL_heard (B : BoardM) (bs : List (Nat × Str)) (n m : Nat) : noLs (heardD B bs n m) = true := noLs_map (fun i => by
  show noLs (strikesD _ _) = true
  unfold strikesD
  have : ∀ l : List PyData, (∀ d ∈ l, noL d = true) → noLs l = true := fun l => by
    induction l with
    | nil => intro _; rfl
    | cons d r ih =>
      intro h
      show (noL d && noLs r) = true
      rw [h d List.mem_cons_self, ih fun x hx => h x (List.mem_cons_of_mem _ hx)]
      rfl
  refine this _ fun d hd => ?_
  obtain ⟨x, _, rfl⟩ := List.mem_map.mp (List.mem_mergeSort.mp hd)
  rfl) _
theorem ok_heard (T : Txt K mg) : FnOk P w K mg base CX0 6 T.d_heard.f T.d_heard.fd ["board", "presses", "first", "steps"] (spHeard T) := by
  refine T.d_heard.F.ok sc_heard (fun vs H Q E h => ?_) (fun cdv A outer s H vs Q E hr h => ?_)
  · obtain ⟨a, x, text, B, ps, n, m, rfl, _⟩ := h
    rfl
  · obtain ⟨a, x, text, B, ps, n, m, rfl, hB, hd, hp, hb, hn, hm, k⟩ := h
    refine ⟨_, (pss_cons (ps_expr (pe_call (ok_check_presses T) (hr.mono (by decide)) rfl T.g_check_presses T.d_check_presses.F.kp T.d_check_presses.b .nil pass0 (pa_cons (pv 0) (pa_cons (pv 1) pa_nil)))) (pss_cons (ps_expr (pe_call (ok_check_step T) (hr.mono (by decide)) rfl T.g_check_step T.d_check_step.F.kp T.d_check_step.b .nil pass0 (pa_cons (pv 2) (pa_cons pe_int (pa_cons (pe_gc rfl T.c.g_LAST_STEP) pa_nil))))) (pss_cons (ps_expr (pe_call (ok_check_step T) (hr.mono (by decide)) rfl T.g_check_step T.d_check_step.F.kp T.d_check_step.b .nil pass0 (pa_cons (pv 3) (pa_cons pe_int (pa_cons (pe_gc rfl T.c.g_MOST_STEPS) pa_nil))))) (pss_cons (ps_par (i := 4) (j := 5) (by rfl) sc_heard.nd rfl rfl (by decide) rfl rfl (pa_cons (pe_call (ok_played_to T) (hr.mono (by decide)) rfl T.g_played_to T.d_played_to.F.kp T.d_played_to.b .nil pass0 (pa_cons (pv 0) (pa_cons (pv 1) (pa_cons (pe_op op_sub (pv 2) pe_int) pa_nil)))) (pa_cons (pe_lst pa_nil) pa_nil)) (by rfl)) (pss_cons (ps_for PassesOwn.never rfl (pi_range1 rfl T.c.z_range (pa_cons (pv 3) pa_nil)) (pg_name (i := 6) sc_heard.nd rfl (Or.inl rfl)) (pss_cons (ps_expr (pe_methO nmPlayer_move (pe_meth0 (pe_mono (pv 4)) T.Player.cl T.Player.m_Player_move (ok_Player_move T) (hr.mono (by decide)) T.Player.d_Player_move.b .nil pass0))) (pss_one (ps_expr (pe_bm PySem.F.plainAttrs_list PySem.F.slot_list_append PySem.F.type_list_append mt_append (pv 5) (pa_cons (pe_methO nmPlayer_sounding (pe_meth0 (pe_mono (pv 4)) T.Player.cl T.Player.m_Player_sounding (ok_Player_sounding T) (hr.mono (by decide)) T.Player.d_Player_sounding.b .nil pass0)) pa_nil)))))) (pss_one (ps_ret (pe_callTy call_tuple_of (by rfl) T.c.z_tuple (by decide +kernel) (pa_cons (pv 5) pa_nil))))))))), ?_⟩
    refine ⟨_, rfl, _, rfl, a, x, text, B, _, rfl, hB, hd, noL_presses ps, (by show (ps.map pressD).length ≤ 100000; rw [List.length_map]; exact hp.few), hp.are, fun H1 s1 => ?_⟩
    refine ⟨_, rfl, (n : Int), 0, 9999, rfl, by omega, by omega, ?_⟩
    refine ⟨_, rfl, (m : Int), 0, 99, rfl, by omega, by omega, ?_⟩
    refine ⟨_, rfl, _, rfl, _, rfl, _, _, rfl, rfl, a, x, text, B, ps, n, rfl, hB.same s1, s1.dp hd, hp, hb, fun H2 p Hs tl db bd tas bas v s2 np hS sS nS hP => ?_⟩
    refine ⟨by show 0 ≤ sizeLine; omega, fun f hf => ⟨_, _, rfl, ?_⟩⟩
    have s02 := s1.trans s2
    have s3 : Same H2 (upd H2 f (.lst [])) := same_upd hf
    have f3 : upd H2 f (.lst []) f = some (.lst []) := upd_same
    generalize upd H2 f (.lst []) = H3 at *
    have hfH : H f = none := s02.fresh hf
    have hfS : Hs f = none := sS.fresh hf
    have npf : p ≠ f := by
      obtain ⟨_, e⟩ := hP.at_
      exact ne_of_none e hf
    refine ⟨_, rfl, (m : Int), rfl, by omega, by omega, for_it (walk_range (lo := 0) (n := (m : Int).toNat)) (fun i σ Hz => ∃ v6 vz ys, σ = [some (.ref a), some x, some (.int (n : Int)), some (.int (m : Int)), some (.ref p), some (.ref f), v6] ∧ Same H Hz ∧ Same Hs Hz ∧
      PDyn T Hz p tl db bd (((n + i : Nat) : Int) - 1) vz (playTo B.tracks B.buttons (allBegins B ps) (n + i)) ∧ Hz f = some (.lst ys) ∧ ys.length = i ∧ DpAll K Hz ys (heardD B (allBegins B ps) n i)) ?_ (fun _ _ _ _ _ => trivial) ?_ ?_⟩
    · exact ⟨_, v, [], rfl, s02.trans s3, sS.trans s3, hP.same s3, f3, rfl, .nil⟩
    · rintro i z σ Hz Hz' hi ⟨v6, vz, ys, rfl, sz, sSz, hPz, fz, lz, dz⟩ ⟨rfl, rfl⟩
      refine ⟨_, rfl, p, _, rfl, hPz.at_, p, Hs, tl, db, bd, tas, bas, B, allBegins B ps, n + i, vz, rfl, hS, sSz, nS, hPz, hb, fun H5 v5 k5 P5 => ?_⟩
      have f5 : H5 f = some (.lst ys) := k5 f _ fz (by simp; exact npf.symm)
      have s5 : Same H H5 := keep_stat sz (s1.fresh np) k5
      have sS5 : Same Hs H5 := keep_stat sSz nS k5
      have d5 : DpAll K H5 ys _ := dpAll_keep k5 (AtPlayer.nt hPz.at_) dz (noL_heard _ _ _ _)
      refine ⟨_, rfl, .inl ⟨rfl, _, .inl (.inl f5)⟩, _, rfl, p, _, rfl, P5.at_, p, Hs, tl, db, bd, tas, bas, B, allBegins B ps, n + i + 1, v5, rfl, hS, sS5, P5, fun H6 v7 s6 d6 => ?_⟩
      have f6 := s6 _ _ f5
      refine ⟨f, ys, v7, rfl, rfl, f6, lt_line (by omega), ?_⟩
      refine ⟨_, v5, ys ++ [v7], rfl, fun b o e => upd_get ((s5.trans s6) b o e) (ne_of_none e hfH), fun b o e => upd_get ((sS5.trans s6) b o e) (ne_of_none e hfS), ⟨(AtO.same P5.at_ s6).put npf, dp_lst f6 (s6.dp P5.st) (noL_sts _)⟩, upd_same, by rw [List.length_append]; simp [lz], ?_⟩
      have eh : heardD B (allBegins B ps) n (i + 1) = heardD B (allBegins B ps) n i ++ [.tuple (strikesD B.tracks (playTo B.tracks B.buttons (allBegins B ps) (n + i + 1)))] := by
        unfold heardD
        rw [List.range_succ, List.map_append]
        rfl
      have nl := noL_heard B (allBegins B ps) n (i + 1)
      rw [eh] at nl ⊢
      exact dpAll_lst f6 (DpAll.snoc (s6.dpAll d5) d6) nl
    · rintro σ Hz ⟨v6, vz, ys, rfl, sz, sSz, hPz, fz, lz, dz⟩
      rw [show (m : Int).toNat = m by omega] at dz
      refine ⟨_, rfl, f, ys, rfl, .inl ⟨.inl (.inl fz), fun l hl => ?_⟩⟩
      exact k _ _ (sz.new hl) (.tup (.inl (.inl upd_same)) ((same_upd hl).dpAll dz))
end
end Ev
end

section
namespace PL
open PySem PySem.Spec PyProof.Rows L2 Ev
/-! ## the program's promises, on values without places -/
def prOf : D → Option (Nat × Str)
  | .tup [.int i, .str s] => if 0 ≤ i then some (i.toNat, s) else none
  | _ => none
/-- presses, by their form -/
def prsOf : D → Option (List (Nat × Str))
  | .tup ds => allOf prOf ds
  | _ => none
def prD (p : Nat × Str) : D := .tup [.int (p.1 : Int), .str p.2]
theorem prOf_some {d : D} {p : Nat × Str} (h : prOf d = some p) : d = prD p := by
  unfold prOf at h
  split at h
  · split at h
    · rename_i i s hi
      cases h
      unfold prD
      rw [Int.toNat_of_nonneg hi]
    · cases h
  · cases h
theorem allOf_pr : ∀ {ds : List D} {ps : List (Nat × Str)}, allOf prOf ds = some ps → ds = ps.map prD
  | [], ps, h => by cases h; rfl
  | d :: r, ps, h => by
    obtain ⟨x, e1, h⟩ := bind_some' h
    obtain ⟨y, e2, rfl⟩ := map_some' h
    rw [prOf_some e1, allOf_pr e2]
    rfl
theorem prsOf_some {d : D} {ps : List (Nat × Str)} (h : prsOf d = some ps) : d = .tup (ps.map prD) := by
  unfold prsOf at h
  split at h
  · rw [allOf_pr h]
  · cases h
theorem py_prs (ps : List (Nat × Str)) : (D.tup (ps.map prD)).py = some (.tuple (ps.map pressD)) := by
  have : pys (ps.map prD) = some (ps.map pressD) := by
    induction ps with
    | nil => rfl
    | cons p r ih =>
      show (match (prD p).py, pys (r.map prD) with | some p, some q => some (p :: q) | _, _ => none) = _
      rw [ih]
      rfl
  show (pys (ps.map prD)).map PyData.tuple = _
  rw [this]
  rfl
theorem prOf_prD (p : Nat × Str) : prOf (prD p) = some p := by
  show (if (0 : Int) ≤ (p.1 : Int) then some ((p.1 : Int).toNat, p.2) else none) = some p
  rw [if_pos (by omega), show (p.1 : Int).toNat = p.1 by omega]
theorem prsOf_prs (ps : List (Nat × Str)) : prsOf (.tup (ps.map prD)) = some ps := allOf_map prOf prD prOf_prD ps
def okPr (B : BoardM) (ps : List (Nat × Str)) : Bool := (ps.all fun p => decide (p.2 ∈ B.buttons.map (·.name))) && decide (ps.length ≤ 100000) && ascB ltI (ps.map fun p => (p.1 : Int))
def okBeg (B : BoardM) (bs : List (Nat × Str)) : Bool := decide ((bs.map (·.1)).Nodup) && bs.all fun p => decide (p.2 ∈ B.buttons.map (·.name))
theorem okPr_ok {B : BoardM} {ps : List (Nat × Str)} (h : okPr B ps = true) : PrOk B ps := by
  unfold okPr at h
  rw [Bool.and_eq_true, Bool.and_eq_true, decide_eq_true_iff, List.all_eq_true] at h
  exact ⟨fun p hp => of_decide_eq_true (h.1.1 p hp), h.1.2, h.2⟩
theorem okBeg_ok {B : BoardM} {bs : List (Nat × Str)} (h : okBeg B bs = true) : BegOk B bs := by
  unfold okBeg at h
  rw [Bool.and_eq_true, decide_eq_true_iff, List.all_eq_true] at h
  exact ⟨h.1, fun p hp => of_decide_eq_true (h.2 p hp)⟩
/-- the presses that a call is given, rightly -/
def givenPr (B : BoardM) (d : D) : Option (List (Nat × Str)) := (prsOf d).bind fun ps => if okPr B ps = true then some ps else none
theorem givenPr_some {B : BoardM} {d : D} {ps : List (Nat × Str)} (h : givenPr B d = some ps) : d = .tup (ps.map prD) ∧ PrOk B ps := by
  obtain ⟨qs, e1, h⟩ := bind_some' h
  split at h
  · rename_i c
    cases h
    exact ⟨prsOf_some e1, okPr_ok c⟩
  · cases h
def P_check_presses : List D → Option D
  | [.brd _ B, d] => (givenPr B d).map fun _ => .non
  | _ => none
def P_check_step : List D → Option D
  | [.int i, .int lo, .int hi] => if lo ≤ i ∧ i ≤ hi then some .non else none
  | _ => none
def P_begin_of : List D → Option D
  | [.brd _ B, d] => (prOf d).bind fun p => if p.2 ∈ B.buttons.map (·.name) then some (.int ((beginOf B p : Nat) : Int)) else none
  | _ => none
def P_begun : List D → Option D
  | [.brd _ B, d] => (givenPr B d).map fun ps => .tup ((allBegins B ps).map prD)
  | _ => none
def stD2 : St3 → D
  | none => .tup []
  | some (n, p, l) => .tup [.str n, .int (p : Int), .int (l : Int)]
def P_stands : List D → Option D
  | [.brd _ B, d, .int s] => (givenPr B d).bind fun ps => if okBeg B (allBegins B ps) = true ∧ 0 ≤ s ∧ s ≤ 9999 then some (.tup ((playTo B.tracks B.buttons (allBegins B ps) (s.toNat + 1)).map stD2)) else none
  | _ => none
/-- strikes, in their sequence -/
def strikesL (B : BoardM) (ss : List St3) : D := .tup (ofPys (strikesD B.tracks ss))
def P_heard : List D → Option D
  | [.brd _ B, d, .int n, .int m] => (givenPr B d).bind fun ps => if okBeg B (allBegins B ps) = true ∧ 0 ≤ n ∧ n ≤ 9999 ∧ 0 ≤ m ∧ m ≤ 99 then
      some (.tup ((List.range m.toNat).map fun i => strikesL B (playTo B.tracks B.buttons (allBegins B ps) (n.toNat + i + 1)))) else none
  | _ => none
/-- the board that a text tells -/
def boardOf (t : Str) : Option BoardM := if t.length ≤ 1000000 ∧ (Ev.linesOf t).length ≤ 50000 ∧ ((Ev.linesOf t).all fun l => decide (l.length ≤ 50000)) = true then boardP (Ev.linesOf t) else none
theorem boardOf_ok {t : Str} {B : BoardM} (h : boardOf t = some B) : TextOf t B := by
  unfold boardOf at h
  split at h
  · rename_i c
    exact ⟨boardP_ok h, ⟨c.2.1, fun l hl => of_decide_eq_true (List.all_eq_true.mp c.2.2 l hl)⟩, c.1⟩
  · cases h
def F_makeBoard : FF := fun ds cs => match ds with
  | [.str t] => (boardOf t).map fun B => (.brd t B, cs)
  | _ => none
section
variable {K : PySem.W.Frag} {mg : Str → Option Value}
/-- a board, as it is told -/
def RB (T : Txt K mg) : OR := fun t B G a => BoardAt T G a t B
theorem rmono (T : Txt K mg) : RMono (RB T) := fun _ _ _ _ _ s h => h.same s
/-- the end of a promise by hand -/
theorem hand_end {R : OR} (hR : RMono R) {G H : Hp} {ρ : List Addr} {cs cs' : List (List D)} {r : D} {Q : VK} (h1 : Same G H) (h2 : Cells K R G ρ H cs) (e : cs = cs')
    (k : ∀ v G' ρ' H', Le G H ρ G' H' ρ' → Same G' H' → Cells K R G' ρ' H' cs' → RD K R G' ρ' v r → Q v H') : ∀ H' v d, Same H H' → Dp K H' v d → noL d = true → ofPy d = r → Q v H' := fun H' v d s hd hn er => by
  subst e er
  obtain ⟨le, gh, c⟩ := absorb_ok hR h1 h2 s
  exact k v _ ρ H' le gh c (Dp.rd c.tups hd hn)
theorem given_dp {R : OR} {G H : Hp} {ρ : List Addr} {B : BoardM} {x : V} {d : D} {ps : List (Nat × Str)} (s : Same G H) (h : RD K R G ρ x d) (g : givenPr B d = some ps) : Dp K H x (.tuple (ps.map pressD)) ∧ PrOk B ps := by
  obtain ⟨rfl, ok⟩ := givenPr_some g
  exact ⟨s.dp (h.dp (py_prs ps)), ok⟩
end
theorem ofPy_st (s : St3) : ofPy (stD s) = stD2 s := by
  cases s with
  | none => rfl
  | some x => rfl
section
variable {P : Program} {w : World} {K : PySem.W.Frag} {mg : Str → Option Value} {base : Heap}
theorem okD_check_presses (T : Txt K mg) : FnOk P w K mg base CX0 3 T.d_check_presses.f T.d_check_presses.fd ["board", "value"] (spD K (RB T) 2 (liftP P_check_presses)) := (ok_check_presses T).imp fun vs H Q E ⟨G, ρ, ds, cs, r, cs', h0, h1, h2, h3, e, k⟩ => by
  obtain ⟨z, e1, e9⟩ := map_some' e
  clear e
  unfold P_check_presses at e1
  split at e1
  · obtain ⟨ps, e2, e1⟩ := map_some' e1
    cases e9
    cases e1
    cases h3 with
    | cons ha h3 =>
      cases h3 with
      | cons hx h3 =>
        cases h3
        cases ha with
        | brd hB =>
          obtain ⟨hd, ok⟩ := given_dp h1 hx e2
          refine ⟨_, _, _, _, _, rfl, (BoardAt.same hB h1), hd, noL_presses ps, (by show (ps.map pressD).length ≤ 100000; rw [List.length_map]; exact ok.few), ok.are, fun H' s' => hand_end (rmono T) h1 h2 rfl k H' .non .none s' .non rfl rfl⟩
  · cases e1
theorem okD_check_step (T : Txt K mg) : FnOk P w K mg base CX0 3 T.d_check_step.f T.d_check_step.fd ["value", "low", "high"] (spD K (RB T) 3 (liftP P_check_step)) := (ok_check_step T).imp fun vs H Q E ⟨G, ρ, ds, cs, r, cs', h0, h1, h2, h3, e, k⟩ => by
  obtain ⟨z, e1, e9⟩ := map_some' e
  clear e
  unfold P_check_step at e1
  split at e1
  · split at e1
    · rename_i c
      cases e9
      cases e1
      cases h3 with
      | cons ha h3 =>
        cases h3 with
        | cons hb h3 =>
          cases h3 with
          | cons hc h3 =>
            cases h3
            cases ha
            cases hb
            cases hc
            exact ⟨_, _, _, rfl, c.1, c.2, hand_end (rmono T) h1 h2 rfl k H .non .none (fun _ _ h => h) .non rfl rfl⟩
    · cases e1
  · cases e1
theorem okD_begin_of (T : Txt K mg) : FnOk P w K mg base CX0 1 T.d_begin_of.f T.d_begin_of.fd ["board", "press"] (spD K (RB T) 2 (liftP P_begin_of)) := (ok_begin_of T).imp fun vs H Q E ⟨G, ρ, ds, cs, r, cs', h0, h1, h2, h3, e, k⟩ => by
  obtain ⟨z, e1, e9⟩ := map_some' e
  clear e
  unfold P_begin_of at e1
  split at e1
  · obtain ⟨p, e2, e1⟩ := bind_some' e1
    split at e1
    · rename_i c
      cases e9
      cases e1
      have e2 := prOf_some e2
      subst e2
      cases h3 with
      | cons ha h3 =>
        cases h3 with
        | cons hx h3 =>
          cases h3
          cases ha with
          | brd hB =>
            exact ⟨_, _, _, _, p, rfl, (BoardAt.same hB h1), h1.dp (hx.dp (q := pressD p) rfl), c, hand_end (rmono T) h1 h2 rfl k H _ _ (fun _ _ h => h) (.int _) rfl rfl⟩
    · cases e1
  · cases e1
theorem okD_begun (T : Txt K mg) : FnOk P w K mg base CX0 4 T.d_begun.f T.d_begun.fd ["board", "presses"] (spD K (RB T) 2 (liftP P_begun)) := (ok_begun T).imp fun vs H Q E ⟨G, ρ, ds, cs, r, cs', h0, h1, h2, h3, e, k⟩ => by
  obtain ⟨z, e1, e9⟩ := map_some' e
  clear e
  unfold P_begun at e1
  split at e1
  · obtain ⟨ps, e2, e1⟩ := map_some' e1
    cases e9
    cases e1
    cases h3 with
    | cons ha h3 =>
      cases h3 with
      | cons hx h3 =>
        cases h3
        cases ha with
        | brd hB =>
          obtain ⟨hd, ok⟩ := given_dp h1 hx e2
          refine ⟨_, _, _, _, ps, rfl, (BoardAt.same hB h1), hd, ok, fun H' v s' d' => hand_end (rmono T) h1 h2 rfl k H' v _ s' d' (noL_presses _) ?_⟩
          show D.tup (ofPys _) = _
          rw [ofPys_map]
          rfl
  · cases e1
theorem okD_stands (T : Txt K mg) : FnOk P w K mg base CX0 6 T.d_stands.f T.d_stands.fd ["board", "presses", "step"] (spD K (RB T) 3 (liftP P_stands)) := (ok_stands T).imp fun vs H Q E ⟨G, ρ, ds, cs, r, cs', h0, h1, h2, h3, e, k⟩ => by
  obtain ⟨z, e1, e9⟩ := map_some' e
  clear e
  unfold P_stands at e1
  split at e1
  · obtain ⟨ps, e2, e1⟩ := bind_some' e1
    split at e1
    · rename_i c
      cases e9
      cases e1
      cases h3 with
      | cons ha h3 =>
        cases h3 with
        | cons hx h3 =>
          cases h3 with
          | cons hs h3 =>
            cases h3
            cases hs
            cases ha with
            | brd hB =>
              obtain ⟨hd, ok⟩ := given_dp h1 hx e2
              refine ⟨_, _, _, _, ps, _, by rw [Int.toNat_of_nonneg c.2.1], (BoardAt.same hB h1), hd, ok, okBeg_ok c.1, by omega, fun H' v s' d' => hand_end (rmono T) h1 h2 rfl k H' v _ s' d' (noL_sts _) ?_⟩
              show D.tup (ofPys _) = _
              rw [ofPys_map]
              congr 1
              exact List.map_congr_left fun s _ => ofPy_st s
    · cases e1
  · cases e1
theorem okD_heard (T : Txt K mg) : FnOk P w K mg base CX0 6 T.d_heard.f T.d_heard.fd ["board", "presses", "first", "steps"] (spD K (RB T) 4 (liftP P_heard)) := (ok_heard T).imp fun vs H Q E ⟨G, ρ, ds, cs, r, cs', h0, h1, h2, h3, e, k⟩ => by
  obtain ⟨z, e1, e9⟩ := map_some' e
  clear e
  unfold P_heard at e1
  split at e1
  · rename_i tt BB dd n m
    obtain ⟨ps, e2, e1⟩ := bind_some' e1
    split at e1
    · rename_i c
      cases e9
      cases e1
      cases h3 with
      | cons ha h3 =>
        cases h3 with
        | cons hx h3 =>
          cases h3 with
          | cons hs h3 =>
            cases h3 with
            | cons hm h3 =>
              cases h3
              cases hs
              cases hm
              cases ha with
              | brd hB =>
                obtain ⟨hd, ok⟩ := given_dp h1 hx e2
                refine ⟨_, _, _, _, ps, n.toNat, m.toNat, by rw [Int.toNat_of_nonneg c.2.1, Int.toNat_of_nonneg c.2.2.2.1], (BoardAt.same hB h1), hd, ok, okBeg_ok c.1, by omega, by omega, fun H' v s' d' => hand_end (rmono T) h1 h2 rfl k H' v _ s' d' (noL_heard _ _ _ _) ?_⟩
                show D.tup (ofPys _) = _
                unfold heardD
                rw [ofPys_map]
                rfl
    · cases e1
  · cases e1
theorem lift_len2 {m : Nat} {g : List D → Option D} (h : ∀ ds r, g ds = some r → ds.length = m) : ∀ (ds : List D) cs r, liftP g ds cs = some r → ds.length = m := fun ds cs r e => by
  obtain ⟨z, e1, _⟩ := map_some' e
  exact h ds z e1
theorem len_check_presses : ∀ (ds : List D) cs r, liftP P_check_presses ds cs = some r → ds.length = 2 := lift_len2 fun ds r e => by
  unfold P_check_presses at e
  split at e
  · rfl
  · cases e
theorem len_check_step : ∀ (ds : List D) cs r, liftP P_check_step ds cs = some r → ds.length = 3 := lift_len2 fun ds r e => by
  unfold P_check_step at e
  split at e
  · rfl
  · cases e
theorem len_begin_of : ∀ (ds : List D) cs r, liftP P_begin_of ds cs = some r → ds.length = 2 := lift_len2 fun ds r e => by
  unfold P_begin_of at e
  split at e
  · rfl
  · cases e
theorem len_begun : ∀ (ds : List D) cs r, liftP P_begun ds cs = some r → ds.length = 2 := lift_len2 fun ds r e => by
  unfold P_begun at e
  split at e
  · rfl
  · cases e
theorem len_stands : ∀ (ds : List D) cs r, liftP P_stands ds cs = some r → ds.length = 3 := lift_len2 fun ds r e => by
  unfold P_stands at e
  split at e
  · rfl
  · cases e
theorem len_heard : ∀ (ds : List D) cs r, liftP P_heard ds cs = some r → ds.length = 4 := lift_len2 fun ds r e => by
  unfold P_heard at e
  split at e
  · rfl
  · cases e
end
/-- Board(text) -/
theorem pd_makeBoard {X : Cx} {e : Expr} {fl : FO} {p pos : Pos} {T : Txt X.K X.mg} (hR : RMono (RB T)) (T' : Txt X.K X.mg) (hr : Room (7 + 1) X.A) (hg : Gl X "Board") (ha : PA X [e] (tL X.K (RB T) fl)) (hT : T' = T := by rfl)
    (he : starEach [e] X.env = (false, eval e X.env) :: starEach [] X.env := by rfl) (hpl : (backTo pos (starEach [] X.env)).any (·.1) = false := by rfl) : PE X (.Call (.Name "Board" p) [e] [] pos) (tD X.K (RB T) (fFn F_makeBoard fl)) := by
  refine pd_w (pe_make T.Board.made (ok_BoardD_initD T) hr hg T.Board.gC T.Board.init.b .nil pass0 ha (he := he) (hpl := hpl)) fun σ H Q ⟨b, G, ρ, s, r, s', rl, e, k⟩ => ?_
  obtain ⟨⟨ds, s1⟩, e1, e⟩ := bind_some' e
  obtain ⟨⟨z, cs'⟩, e2, e⟩ := map_some' e
  cases e
  refine ⟨b, G, ρ, s, ds, s1, rl, e1, fun vs G1 ρ1 H1 r1 f1 d1 => ?_⟩
  unfold F_makeBoard at e2
  dsimp only at e2
  split at e2
  · obtain ⟨B, e3, e2⟩ := map_some' e2
    cases e2
    cases d1 with
    | cons h1 t1 =>
      cases t1
      cases h1
      intro x dx nx ndx ne
      refine ⟨x, dx, _, B, rfl, upd_same, boardOf_ok e3, fun H2 k2 hB => ⟨rfl, ?_⟩⟩
      have s12 := make_keep nx ndx k2
      obtain ⟨le, gh, c2⟩ := absorb_ok hR r1.sub r1.cells s12
      obtain ⟨r2, f2⟩ := r1.call hR le gh c2
      refine k (.ref x) _ _ _ r2 (f1.trans f2) (.brd (hB _ fun c o ec q => ?_))
      have hn : H1 c = none ∨ isTupH o = true := by
        rcases q with q | q | q
        · left
          have n1 : c ≠ x := fun z => by rw [z, upd_same] at q; cases q
          rw [upd_ne n1] at q
          have n2 : c ≠ dx := fun z => by rw [z, upd_same] at q; cases q
          rw [upd_ne n2] at q
          exact q
        · exact .inr q
        · left; rw [q]; exact nx
      by_cases h : H1 c = none
      · rw [absorb_new h]; exact ec
      · rcases hn with q | q
        · exact absurd q h
        · exact c2.tups c o ec q
  · cases e2
end PL
end

section
namespace PL
open PySem PySem.Spec PyProof.Rows L2 Ev
section
variable {P : Program} {w : World} {K : PySem.W.Frag} {mg : Str → Option Value} {base : Heap}
def B_waits_3 : FS := (fRet (fIf (fAnd (fTst (fBin dNe (fVar 3) (fFz (fLstO fNil)))) (fTst (fBin dGt (fFn (liftP P_begin_of) (fCons (fVar 0) (fCons (fBin dIx (fVar 3) (fUn dNeg (fC (.int 1)))) fNil))) (fVar 2)))) (fBin dIx (fBin dIx (fVar 3) (fUn dNeg (fC (.int 1)))) (fC (.int 1))) (fC (.str ""))))
def B_waits_2 : FS := (fSeq (fSetO 3 (fLc [4] (fItT (fVar 1)) (gNm 4) (fTst (fBin dLe (fBin dIx (fVar 4) (fC (.int 0))) (fVar 2))) (fVar 4))) B_waits_3)
def B_waits_1 : FS := (fSeq (fExp (fFn (liftP P_check_step) (fCons (fVar 2) (fCons (fC (.int 0)) (fCons (fC (.int 9999)) fNil))))) B_waits_2)
def B_waits : FS := (fSeq (fExp (fFn (liftP P_check_presses) (fCons (fVar 0) (fCons (fVar 1) fNil)))) B_waits_1)
def F0_waits : FF := runF 3 5 B_waits
theorem ok0_waits (T : Txt K mg) : FnOk P w K mg base CX0 4 T.d_waits.f T.d_waits.fd ["board", "presses", "step"] (spD K (RB T) 3 F0_waits) := by
  have hR := rmono T
  exact fd_ok T.d_waits.F sc_waits rfl rfl fun cdv A outer s H E hr => (pds_cons (pds_exp (pd_fn hR len_check_presses (pe_call (okD_check_presses T) (hr.mono (by decide)) rfl T.g_check_presses T.d_check_presses.F.kp T.d_check_presses.b .nil pass0 (pdl_cons hR (pdv hR 0) (pdl_cons hR (pdv hR 1) pdl_nil))))) (pds_cons (pds_exp (pd_fn hR len_check_step (pe_call (okD_check_step T) (hr.mono (by decide)) rfl T.g_check_step T.d_check_step.F.kp T.d_check_step.b .nil pass0 (pdl_cons hR (pdv hR 2) (pdl_cons hR pd_int (pdl_cons hR (pd_c (pe_gc rfl T.c.g_LAST_STEP) fun _ _ => .int _) pdl_nil)))))) (pds_cons (pds_setLc (i := 3) (own := [("press", 4)]) hR rfl sc_waits.nd rfl rfl (sw_true rfl rfl rfl (by decide +kernel)) (pid_tup (pi_tup (pdv hR 1))) (blkOk_by (own := [("press", 4)]) (N := ["board", "presses", "step", "some", "press"]) (sc := defScope s_waits) (by decide +kernel)) (fun _ _ _ _ _ => (pgd_name (pg_name (i := 4) sc_waits.nd rfl (Or.inl rfl)))) (by decide) (fun _ _ _ _ _ => ptd_one hR (PL.pt_cmp hR od_le (pd_ix hR (ixd hR) (pdv hR 4) pd_int (fun _ _ => rfl)) (pdv hR 2) (nomark _))) (fun _ _ _ _ _ => (pdv hR 4))) (pds_one (pds_ret (pd_if (PW.pt (pdw_and (PL.pt_cmp hR (od_ne hr.units) (pdv hR 3) (pd_fz hR (pd_lstO hR pdl_nil)) (nomark _)) (pdw_and1 (PL.pt_cmp hR od_gt (pd_fn hR len_begin_of (pe_call (okD_begin_of T) (hr.mono (by decide)) rfl T.g_begin_of T.d_begin_of.F.kp T.d_begin_of.b .nil pass0 (pdl_cons hR (pdv hR 0) (pdl_cons hR (pd_ix hR (ixd hR) (pdv hR 3) (pd_un hR ud_neg pd_int) (fun _ _ => rfl)) pdl_nil)))) (pdv hR 2) (nomark _))))) (pd_ix hR (ixd hR) (pd_ix hR (ixd hR) (pdv hR 3) (pd_un hR ud_neg pd_int) (fun _ _ => rfl)) pd_int (fun _ _ => rfl)) pd_str))))))
def P_waits : List D → Option D := pureOf F0_waits
theorem ok_waits (T : Txt K mg) : FnOk P w K mg base CX0 4 T.d_waits.f T.d_waits.fd ["board", "presses", "step"] (spD K (RB T) 3 (liftP P_waits)) := (ok0_waits T).imp (lift_sp runF_len (rmono T))
theorem len_waits : ∀ (ds : List D) cs r, liftP P_waits ds cs = some r → ds.length = 3 := lift_len runF_len
def B__law_pot_3 : FS := (fRetO (fLstO (fCons (fVar 3) (fCons (fBin dMod (fCall dInt (fCons (fBin dAdd (fBin dAdd (fBin dMul (fVar 4) (fC (.int 60889))) (fBin dMul (fBin dMul (fC (.int 8039)) (fVar 1)) (fVar 1))) (fC (.int 83))) fNil)) (fC (.int 2305843009213693921))) (fCons (fC (.int 0)) fNil)))))
def B__law_pot_2 : FS := (fSeq (fSet 4 (fBin dMod (fCall dInt (fCons (fVar 2) fNil)) (fC (.int 2305843009213693951)))) B__law_pot_3)
def B__law_pot_1 : FS := (fSeq (fSet 3 (fBin dMul (fBin dMod (fCall dInt (fCons (fCall dAbs (fCons (fVar 2) fNil)) fNil)) (fBin dPow (fBin dPow (fC (.int 10)) (fC (.int 60))) (fC (.int 5)))) (fCall dInt (fCons (fBin dGe (fCall dAbs (fCons (fVar 2) fNil)) (fBin dPow (fC (.int 10)) (fC (.int 18)))) fNil)))) B__law_pot_2)
def B__law_pot : FS := (fSeq (fSet 2 (fIf (fTst (fBin dLt (fVar 1) (fCall dLen (fCons (fVar 0) fNil)))) (fBin dIx (fVar 0) (fVar 1)) (fBin dAdd (fBin dMul (fC (.int 71)) (fVar 1)) (fC (.int 32))))) B__law_pot_1)
def F__law_pot : FFO := runO 2 5 B__law_pot
theorem len__law_pot : ∀ (ds : List D) cs r, F__law_pot ds cs = some r → ds.length = 2 := runO_len
theorem ok__law_pot (T : Txt K mg) : FnOk P w K mg base CX0 1 T.d__law_pot.f T.d__law_pot.fd ["_law_script", "_law_place"] (spO K (RB T) 2 F__law_pot) := by
  have hR := rmono T
  exact fd_okO T.d__law_pot.F sc__law_pot rfl rfl fun cdv A outer s H E hr => (pds_cons (pds_set (i := 2) sc__law_pot.nd rfl (Or.inl rfl) (pd_if (PL.pt_cmp hR od_lt (pdv hR 1) (pd_call hR cd_len (by rfl) T.c.z_len (by decide +kernel) (pdl_cons hR (pdv hR 0) pdl_nil)) (nomark _)) (pd_ix hR (ixd hR) (pdv hR 0) (pdv hR 1) (fun _ _ => rfl)) (pd_bin hR (od_add hR) (pd_bin hR (od_mul hR) pd_int (pdv hR 1)) pd_int))) (pds_cons (pds_set (i := 3) sc__law_pot.nd rfl (Or.inl rfl) (pd_bin hR (od_mul hR) (pd_bin hR od_mod (pd_callTy hR cd_int (by rfl) T.c.z_int (by decide +kernel) (pdl_cons hR (pd_call hR cd_abs (by rfl) T.c.z_abs (by decide +kernel) (pdl_cons hR (pdv hR 2) pdl_nil)) pdl_nil)) (pd_bin hR od_pow (pd_bin hR od_pow pd_int pd_int) pd_int)) (pd_callTy hR cd_int (by rfl) T.c.z_int (by decide +kernel) (pdl_cons hR (pd_cmp hR od_ge (pd_call hR cd_abs (by rfl) T.c.z_abs (by decide +kernel) (pdl_cons hR (pdv hR 2) pdl_nil)) (pd_bin hR od_pow pd_int pd_int) (nomark _)) pdl_nil)))) (pds_cons (pds_set (i := 4) sc__law_pot.nd rfl (Or.inl rfl) (pd_bin hR od_mod (pd_callTy hR cd_int (by rfl) T.c.z_int (by decide +kernel) (pdl_cons hR (pdv hR 2) pdl_nil)) pd_int)) (pds_one (pds_retO (pd_lstO hR (pdl_cons hR (pdv hR 3) (pdl_cons hR (pd_bin hR od_mod (pd_callTy hR cd_int (by rfl) T.c.z_int (by decide +kernel) (pdl_cons hR (pd_bin hR (od_add hR) (pd_bin hR (od_add hR) (pd_bin hR (od_mul hR) (pdv hR 4) pd_int) (pd_bin hR (od_mul hR) (pd_bin hR (od_mul hR) pd_int (pdv hR 1)) (pdv hR 1))) pd_int) pdl_nil)) pd_int) (pdl_cons hR pd_int pdl_nil)))))))))
def B__law_take_5 : FS := (fRet (fBin dMod (fCall dInt (fCons (fBin dFdiv (fVar 4) (fC (.int 131))) fNil)) (fVar 1)))
def B__law_take_4 : FS := (fSeq (fSet 4 (fBin dMod (fCall dInt (fCons (fBin dMul (fVar 4) (fBin dAdd (fBin dMod (fCall dInt (fCons (fVar 4) fNil)) (fC (.int 10091))) (fBin dMul (fC (.int 97)) (fIxC (fVar 0) (fC (.int 2)))))) fNil)) (fC (.int 2305843009213693907)))) B__law_take_5)
def B__law_take_3 : FS := (fSeq (fSet 4 (fBin dMod (fCall dInt (fCons (fBin dPow (fCall dInt (fCons (fBin dAdd (fBin dAdd (fIxC (fVar 0) (fC (.int 1))) (fBin dMul (fBin dMul (fC (.int 98077)) (fIxC (fVar 0) (fC (.int 2)))) (fIxC (fVar 0) (fC (.int 2))))) (fC (.int 43))) fNil)) (fC (.int 3))) fNil)) (fVar 3))) B__law_take_4)
def B__law_take_2 : FS := (fSeq (fSet 3 (fBin dIx (fFz (fLstO (fCons (fC (.int 2147483647)) (fCons (fC (.int 2147483629)) (fCons (fC (.int 2147483587)) (fCons (fC (.int 2147483579)) (fCons (fC (.int 2147483563)) fNil))))))) (fBin dMod (fCall dInt (fCons (fIxC (fVar 0) (fC (.int 2))) fNil)) (fC (.int 5))))) B__law_take_3)
def B__law_take_1 : FS := (fSeq (fPutC (fVar 0) (fC (.int 2)) (fBin dAdd (fIxC (fVar 0) (fC (.int 2))) (fC (.int 1)))) B__law_take_2)
def B__law_take : FS := (fSeq (fIfS (fTst (fBin dGt (fIxC (fVar 0) (fC (.int 0))) (fC (.int 0)))) (fSeq (fSet 2 (fBin dMod (fCall dInt (fCons (fIxC (fVar 0) (fC (.int 0))) fNil)) (fVar 1))) (fSeq (fPutC (fVar 0) (fC (.int 0)) (fBin dFdiv (fIxC (fVar 0) (fC (.int 0))) (fVar 1))) (fRet (fVar 2)))) fPass) B__law_take_1)
def F__law_take : FF := runF 2 5 B__law_take
theorem ok__law_take (T : Txt K mg) : FnOk P w K mg base CX0 1 T.d__law_take.f T.d__law_take.fd ["_law_pot_here", "_law_upto"] (spD K (RB T) 2 F__law_take) := by
  have hR := rmono T
  exact fd_ok T.d__law_take.F sc__law_take rfl rfl fun cdv A outer s H E hr => (pds_cons (pds_if (PL.pt_cmp hR od_gt (pd_ixC hR (pdv hR 0) pd_int (fun _ _ => rfl)) pd_int (nomark _)) (pds_cons (pds_set (i := 2) sc__law_take.nd rfl (Or.inl rfl) (pd_bin hR od_mod (pd_callTy hR cd_int (by rfl) T.c.z_int (by decide +kernel) (pdl_cons hR (pd_ixC hR (pdv hR 0) pd_int (fun _ _ => rfl)) pdl_nil)) (pdv hR 1))) (pds_cons (pds_putC hR (ps_asg (pd_bin hR od_fdiv (pd_ixC hR (pdv hR 0) pd_int (fun _ _ => rfl)) (pdv hR 1)) (pg_sub (pdv hR 0) pd_int set_list))) (pds_one (pds_ret (pdv hR 2))))) pds_nil) (pds_cons (pds_putC hR (ps_asg (pd_bin hR (od_add hR) (pd_ixC hR (pdv hR 0) pd_int (fun _ _ => rfl)) pd_int) (pg_sub (pdv hR 0) pd_int set_list))) (pds_cons (pds_set (i := 3) sc__law_take.nd rfl (Or.inl rfl) (pd_ix hR (ixd hR) (pd_fz hR (pd_lstO hR (pdl_cons hR pd_int (pdl_cons hR pd_int (pdl_cons hR pd_int (pdl_cons hR pd_int (pdl_cons hR pd_int pdl_nil))))))) (pd_bin hR od_mod (pd_callTy hR cd_int (by rfl) T.c.z_int (by decide +kernel) (pdl_cons hR (pd_ixC hR (pdv hR 0) pd_int (fun _ _ => rfl)) pdl_nil)) pd_int) (fun _ _ => rfl))) (pds_cons (pds_set (i := 4) sc__law_take.nd rfl (Or.inl rfl) (pd_bin hR od_mod (pd_callTy hR cd_int (by rfl) T.c.z_int (by decide +kernel) (pdl_cons hR (pd_bin hR od_pow (pd_callTy hR cd_int (by rfl) T.c.z_int (by decide +kernel) (pdl_cons hR (pd_bin hR (od_add hR) (pd_bin hR (od_add hR) (pd_ixC hR (pdv hR 0) pd_int (fun _ _ => rfl)) (pd_bin hR (od_mul hR) (pd_bin hR (od_mul hR) pd_int (pd_ixC hR (pdv hR 0) pd_int (fun _ _ => rfl))) (pd_ixC hR (pdv hR 0) pd_int (fun _ _ => rfl)))) pd_int) pdl_nil)) pd_int) pdl_nil)) (pdv hR 3))) (pds_cons (pds_set (i := 4) sc__law_take.nd rfl (Or.inl rfl) (pd_bin hR od_mod (pd_callTy hR cd_int (by rfl) T.c.z_int (by decide +kernel) (pdl_cons hR (pd_bin hR (od_mul hR) (pdv hR 4) (pd_bin hR (od_add hR) (pd_bin hR od_mod (pd_callTy hR cd_int (by rfl) T.c.z_int (by decide +kernel) (pdl_cons hR (pdv hR 4) pdl_nil)) pd_int) (pd_bin hR (od_mul hR) pd_int (pd_ixC hR (pdv hR 0) pd_int (fun _ _ => rfl))))) pdl_nil)) pd_int)) (pds_one (pds_ret (pd_bin hR od_mod (pd_callTy hR cd_int (by rfl) T.c.z_int (by decide +kernel) (pdl_cons hR (pd_bin hR od_fdiv (pdv hR 4) pd_int) pdl_nil)) (pdv hR 1)))))))))
theorem len__law_take : ∀ (ds : List D) cs r, F__law_take ds cs = some r → ds.length = 2 := runF_len
def B__law_cells : FS := (fRet (fFz (fLrg (fCall dMax2 (fCons (fC (.int 1)) (fCons (fCall dMin2 (fCons (fVar 1) (fCons (fCall dLen (fCons (fVar 0) fNil)) fNil))) fNil))))))
def F0__law_cells : FF := runF 2 2 B__law_cells
theorem ok0__law_cells (T : Txt K mg) : FnOk P w K mg base CX0 1 T.d__law_cells.f T.d__law_cells.fd ["_law_script", "_law_limit"] (spD K (RB T) 2 F0__law_cells) := by
  have hR := rmono T
  exact fd_ok T.d__law_cells.F sc__law_cells rfl rfl fun cdv A outer s H E hr => (pds_one (pds_ret (pd_fz hR (pd_lrg hR rfl rfl T.c.z_list rfl T.c.z_range (pd_call hR (cd_max2 rfl) (by rfl) T.c.z_max (by decide +kernel) (pdl_cons hR pd_int (pdl_cons hR (pd_call hR (cd_min2 rfl) (by rfl) T.c.z_min (by decide +kernel) (pdl_cons hR (pdv hR 1) (pdl_cons hR (pd_call hR cd_len (by rfl) T.c.z_len (by decide +kernel) (pdl_cons hR (pdv hR 0) pdl_nil)) pdl_nil))) pdl_nil)))))))
def P__law_cells : List D → Option D := pureOf F0__law_cells
theorem ok__law_cells (T : Txt K mg) : FnOk P w K mg base CX0 1 T.d__law_cells.f T.d__law_cells.fd ["_law_script", "_law_limit"] (spD K (RB T) 2 (liftP P__law_cells)) := (ok0__law_cells T).imp (lift_sp runF_len (rmono T))
theorem len__law_cells : ∀ (ds : List D) cs r, liftP P__law_cells ds cs = some r → ds.length = 2 := lift_len runF_len
def B__law_board_3 : FS := (fRet (fFn F_makeBoard (fCons (fBin dJoin (fC (.str "\n")) (fVar 1)) fNil)))
def B__law_board_2 : FS := (fSeq (fFor (fItT (fTup (fCons (fC (.str "a")) (fCons (fC (.str "b")) (fCons (fC (.str "c")) fNil))))) (gNm 2) (fSet 1 (fBin dAdd (fVar 1) (fFz (fLstO (fCons (fBin dAdd (fBin dAdd (fBin dAdd (fC (.str "button ")) (fVar 2)) (fC (.str " every "))) (fCall dStr (fCons (fIf (fTst (fBin dNe (fVar 2) (fC (.str "c")))) (fVar 0) (fC (.int 1))) fNil))) (fCons (fBin dAdd (fC (.str "  t plays ")) (fVar 2)) fNil))))))) B__law_board_3)
def B__law_board_1 : FS := (fSeq (fFor (fItT (fTup (fCons (fC (.str "a")) (fCons (fC (.str "b")) (fCons (fC (.str "c")) fNil))))) (gNm 2) (fSet 1 (fBin dAdd (fVar 1) (fFz (fLstO (fCons (fBin dAdd (fBin dAdd (fC (.str "  loop ")) (fVar 2)) (fC (.str " 1 lasts"))) (fCons (fBin dAdd (fC (.str "    0 ")) (fVar 2)) fNil))))))) B__law_board_2)
def B__law_board : FS := (fSeq (fSet 1 (fFz (fLstO (fCons (fC (.str "track t")) fNil)))) B__law_board_1)
def F0__law_board : FF := runF 1 3 B__law_board
theorem ok0__law_board (T : Txt K mg) : FnOk P w K mg base CX0 9 T.d__law_board.f T.d__law_board.fd ["_law_quantum"] (spD K (RB T) 1 F0__law_board) := by
  have hR := rmono T
  exact fd_ok T.d__law_board.F sc__law_board rfl rfl fun cdv A outer s H E hr => (pds_cons (pds_set (i := 1) sc__law_board.nd rfl (Or.inl rfl) (pd_fz hR (pd_lstO hR (pdl_cons hR pd_str pdl_nil)))) (pds_cons (pds_for hR (pid_tup (pi_tup (pd_tup hR (pdl_cons hR pd_str (pdl_cons hR pd_str (pdl_cons hR pd_str pdl_nil)))))) (pgd_name (pg_name (i := 2) sc__law_board.nd rfl (Or.inl rfl))) (pds_one (pds_set (i := 1) sc__law_board.nd rfl (Or.inl rfl) (pd_bin hR (od_add hR) (pdv hR 1) (pd_fz hR (pd_lstO hR (pdl_cons hR (pd_bin hR (od_add hR) (pd_bin hR (od_add hR) pd_str (pdv hR 2)) pd_str) (pdl_cons hR (pd_bin hR (od_add hR) pd_str (pdv hR 2)) pdl_nil))))))) rfl PassesOwn.never) (pds_cons (pds_for hR (pid_tup (pi_tup (pd_tup hR (pdl_cons hR pd_str (pdl_cons hR pd_str (pdl_cons hR pd_str pdl_nil)))))) (pgd_name (pg_name (i := 2) sc__law_board.nd rfl (Or.inl rfl))) (pds_one (pds_set (i := 1) sc__law_board.nd rfl (Or.inl rfl) (pd_bin hR (od_add hR) (pdv hR 1) (pd_fz hR (pd_lstO hR (pdl_cons hR (pd_bin hR (od_add hR) (pd_bin hR (od_add hR) (pd_bin hR (od_add hR) pd_str (pdv hR 2)) pd_str) (pd_callTy hR cd_str (by rfl) T.c.z_str (by decide +kernel) (pdl_cons hR (pd_if (PL.pt_cmp hR (od_ne hr.units) (pdv hR 2) pd_str (nomark _)) (pdv hR 0) pd_int) pdl_nil))) (pdl_cons hR (pd_bin hR (od_add hR) pd_str (pdv hR 2)) pdl_nil))))))) rfl PassesOwn.never) (pds_one (pds_ret (pd_makeBoard hR T (hr.mono (by decide)) rfl (pdl_cons hR (pd_join hR pd_str (pdv hR 1)) pdl_nil)))))))
def P__law_board : List D → Option D := pureOf F0__law_board
theorem ok__law_board (T : Txt K mg) : FnOk P w K mg base CX0 9 T.d__law_board.f T.d__law_board.fd ["_law_quantum"] (spD K (RB T) 1 (liftP P__law_board)) := (ok0__law_board T).imp (lift_sp runF_len (rmono T))
theorem len__law_board : ∀ (ds : List D) cs r, liftP P__law_board ds cs = some r → ds.length = 1 := lift_len runF_len
def B__law_right_11 : FS := (fRet (fBin dEq (fFn (liftP P_waits) (fCons (fVar 2) (fCons (fTup (fCons (fTup (fCons (fVar 3) (fCons (fC (.str "a")) fNil))) (fCons (fTup (fCons (fBin dAdd (fVar 3) (fC (.int 1))) (fCons (fC (.str "b")) fNil))) fNil))) (fCons (fBin dSub (fBin dAdd (fVar 3) (fVar 1)) (fC (.int 1))) fNil)))) (fC (.str "b"))))
def B__law_right_10 : FS := (fSeq (fIfS (fTst (fBin dNe (fFn (liftP P_begun) (fCons (fVar 2) (fCons (fTup (fCons (fTup (fCons (fVar 3) (fCons (fC (.str "a")) fNil))) (fCons (fTup (fCons (fBin dAdd (fVar 3) (fC (.int 1))) (fCons (fC (.str "b")) fNil))) fNil))) fNil))) (fTup (fCons (fTup (fCons (fVar 3) (fCons (fC (.str "a")) fNil))) (fCons (fTup (fCons (fBin dAdd (fVar 3) (fVar 1)) (fCons (fC (.str "b")) fNil))) fNil))))) (fRet (fC (.bl false))) fPass) B__law_right_11)
def B__law_right_9 : FS := (fSeq (fIfS (fTst (fBin dNe (fFn (liftP P_heard) (fCons (fVar 2) (fCons (fVar 7) (fCons (fVar 3) (fCons (fBin dMul (fC (.int 2)) (fVar 1)) fNil))))) (fBin dMul (fTup (fCons (fTup (fCons (fTup (fCons (fC (.str "t")) (fCons (fC (.str "c")) fNil))) fNil)) fNil)) (fBin dMul (fC (.int 2)) (fVar 1))))) (fRet (fC (.bl false))) fPass) B__law_right_10)
def B__law_right_8 : FS := (fSeq (fIfS (fOr (fTst (fBin dNe (fFn (liftP P_begun) (fCons (fVar 2) (fCons (fVar 7) fNil))) (fTup (fCons (fTup (fCons (fBin dIx (fBin dIx (fVar 7) (fUn dNeg (fC (.int 1)))) (fC (.int 0))) (fCons (fC (.str "c")) fNil))) fNil)))) (fTst (fBin dNe (fFn (liftP P_waits) (fCons (fVar 2) (fCons (fVar 7) (fCons (fBin dIx (fBin dIx (fVar 7) (fUn dNeg (fC (.int 1)))) (fC (.int 0))) fNil)))) (fC (.str ""))))) (fRet (fC (.bl false))) fPass) B__law_right_9)
def B__law_right_7 : FS := (fSeq (fSet 7 (fIf (fTst (fBin dLe (fBin dAdd (fVar 4) (fC (.int 1))) (fVar 3))) (fTup (fCons (fTup (fCons (fVar 4) (fCons (fC (.str "b")) fNil))) (fCons (fTup (fCons (fBin dAdd (fVar 4) (fC (.int 1))) (fCons (fC (.str "c")) fNil))) fNil))) (fTup (fCons (fTup (fCons (fVar 4) (fCons (fC (.str "c")) fNil))) fNil)))) B__law_right_8)
def B__law_right_6 : FS := (fSeq (fIfS (fOr (fTst (fBin dNe (fFn (liftP P_begun) (fCons (fVar 2) (fCons (fVar 6) fNil))) (fTup (fCons (fTup (fCons (fVar 3) (fCons (fBin dIx (fC (.str "ab")) (fBin dMod (fCall dInt (fCons (fVar 3) fNil)) (fC (.int 2)))) fNil))) fNil)))) (fTst (fBin dNe (fFn (liftP P_waits) (fCons (fVar 2) (fCons (fVar 6) (fCons (fBin dSub (fVar 3) (fC (.int 1))) fNil)))) (fBin dIx (fC (.str "ab")) (fBin dMod (fCall dInt (fCons (fBin dSub (fVar 3) (fC (.int 1))) fNil)) (fC (.int 2))))))) (fRet (fC (.bl false))) fPass) B__law_right_7)
def B__law_right_5 : FS := (fSeq (fSet 6 (fCall dTup (fCons (fFz (fLc [5] (fRg2 (fCons (fVar 4) (fCons (fBin dAdd (fVar 3) (fC (.int 1))) fNil))) (gNm 5) fYes (fTup (fCons (fVar 5) (fCons (fBin dIx (fC (.str "ab")) (fBin dMod (fCall dInt (fCons (fVar 5) fNil)) (fC (.int 2)))) fNil))))) fNil))) B__law_right_6)
def B__law_right_4 : FS := (fSeq (fIfS (fOr (fTst (fBin dNe (fFn (liftP P_waits) (fCons (fVar 2) (fCons (fTup (fCons (fTup (fCons (fVar 4) (fCons (fC (.str "a")) fNil))) fNil)) (fCons (fVar 3) fNil)))) (fC (.str "")))) (fTst (fBin dNe (fFn (liftP P_stands) (fCons (fVar 2) (fCons (fTup (fCons (fTup (fCons (fVar 4) (fCons (fC (.str "a")) fNil))) fNil)) (fCons (fVar 3) fNil)))) (fTup (fCons (fTup (fCons (fC (.str "a")) (fCons (fC (.int 0)) (fCons (fC (.int 0)) fNil)))) fNil))))) (fRet (fC (.bl false))) fPass) B__law_right_5)
def B__law_right_3 : FS := (fSeq (fFor (fRg2 (fCons (fVar 4) (fCons (fVar 3) fNil))) (gNm 5) (fIfS (fOr (fTst (fBin dNe (fFn (liftP P_waits) (fCons (fVar 2) (fCons (fTup (fCons (fTup (fCons (fVar 4) (fCons (fC (.str "a")) fNil))) fNil)) (fCons (fVar 5) fNil)))) (fC (.str "a")))) (fTst (fBin dNe (fFn (liftP P_stands) (fCons (fVar 2) (fCons (fTup (fCons (fTup (fCons (fVar 4) (fCons (fC (.str "a")) fNil))) fNil)) (fCons (fVar 5) fNil)))) (fTup (fCons (fTup fNil) fNil))))) (fRet (fC (.bl false))) fPass)) B__law_right_4)
def B__law_right_2 : FS := (fSeq (fSet 4 (fBin dSub (fBin dSub (fVar 3) (fC (.int 1))) (fFn F__law_take (fCons (fVar 0) (fCons (fBin dSub (fVar 1) (fC (.int 1))) fNil))))) B__law_right_3)
def B__law_right_1 : FS := (fSeq (fPar 2 3 (fCons (fFn (liftP P__law_board) (fCons (fVar 1) fNil)) (fCons (fBin dMul (fVar 1) (fBin dAdd (fC (.int 1)) (fFn F__law_take (fCons (fVar 0) (fCons (fC (.int 5)) fNil))))) fNil))) B__law_right_2)
def B__law_right : FS := (fSeq (fSet 1 (fBin dAdd (fC (.int 2)) (fFn F__law_take (fCons (fVar 0) (fCons (fC (.int 11)) fNil))))) B__law_right_1)
def F__law_right : FF := runF 1 8 B__law_right
theorem ok__law_right (T : Txt K mg) : FnOk P w K mg base CX0 10 T.d__law_right.f T.d__law_right.fd ["_law_pot_here"] (spD K (RB T) 1 F__law_right) := by
  have hR := rmono T
  exact fd_ok T.d__law_right.F sc__law_right rfl rfl fun cdv A outer s H E hr => (pds_cons (pds_set (i := 1) sc__law_right.nd rfl (Or.inl rfl) (pd_bin hR (od_add hR) pd_int (pd_fn hR len__law_take (pe_call (ok__law_take T) (hr.mono (by decide)) rfl T.g__law_take T.d__law_take.F.kp T.d__law_take.b .nil pass0 (pdl_cons hR (pdv hR 0) (pdl_cons hR pd_int pdl_nil)))))) (pds_cons (pds_par (ps_par (i := 2) (j := 3) (by rfl) sc__law_right.nd rfl rfl (by decide) rfl rfl (pdl_cons hR (pd_fn hR len__law_board (pe_call (ok__law_board T) (hr.mono (by decide)) rfl T.g__law_board T.d__law_board.F.kp T.d__law_board.b .nil pass0 (pdl_cons hR (pdv hR 1) pdl_nil))) (pdl_cons hR (pd_bin hR (od_mul hR) (pdv hR 1) (pd_bin hR (od_add hR) pd_int (pd_fn hR len__law_take (pe_call (ok__law_take T) (hr.mono (by decide)) rfl T.g__law_take T.d__law_take.F.kp T.d__law_take.b .nil pass0 (pdl_cons hR (pdv hR 0) (pdl_cons hR pd_int pdl_nil)))))) pdl_nil)) (by rfl))) (pds_cons (pds_set (i := 4) sc__law_right.nd rfl (Or.inl rfl) (pd_bin hR od_sub (pd_bin hR od_sub (pdv hR 3) pd_int) (pd_fn hR len__law_take (pe_call (ok__law_take T) (hr.mono (by decide)) rfl T.g__law_take T.d__law_take.F.kp T.d__law_take.b .nil pass0 (pdl_cons hR (pdv hR 0) (pdl_cons hR (pd_bin hR od_sub (pdv hR 1) pd_int) pdl_nil)))))) (pds_cons (pds_for hR (pid_rg2 (pi_range2 rfl T.c.z_range (pdl_cons hR (pdv hR 4) (pdl_cons hR (pdv hR 3) pdl_nil)))) (pgd_name (pg_name (i := 5) sc__law_right.nd rfl (Or.inl rfl))) (pds_one (pds_if (PW.pt (pdw_or (PL.pt_cmp hR (od_ne hr.units) (pd_fn hR len_waits (pe_call (ok_waits T) (hr.mono (by decide)) rfl T.g_waits T.d_waits.F.kp T.d_waits.b .nil pass0 (pdl_cons hR (pdv hR 2) (pdl_cons hR (pd_tup hR (pdl_cons hR (pd_tup hR (pdl_cons hR (pdv hR 4) (pdl_cons hR pd_str pdl_nil))) pdl_nil)) (pdl_cons hR (pdv hR 5) pdl_nil))))) pd_str (nomark _)) (pdw_or1 (PL.pt_cmp hR (od_ne hr.units) (pd_fn hR len_stands (pe_call (okD_stands T) (hr.mono (by decide)) rfl T.g_stands T.d_stands.F.kp T.d_stands.b .nil pass0 (pdl_cons hR (pdv hR 2) (pdl_cons hR (pd_tup hR (pdl_cons hR (pd_tup hR (pdl_cons hR (pdv hR 4) (pdl_cons hR pd_str pdl_nil))) pdl_nil)) (pdl_cons hR (pdv hR 5) pdl_nil))))) (pd_tup hR (pdl_cons hR (pd_tup hR pdl_nil) pdl_nil)) (nomark _))))) (pds_one (pds_ret pd_bl)) pds_nil)) rfl PassesOwn.never) (pds_cons (pds_if (PW.pt (pdw_or (PL.pt_cmp hR (od_ne hr.units) (pd_fn hR len_waits (pe_call (ok_waits T) (hr.mono (by decide)) rfl T.g_waits T.d_waits.F.kp T.d_waits.b .nil pass0 (pdl_cons hR (pdv hR 2) (pdl_cons hR (pd_tup hR (pdl_cons hR (pd_tup hR (pdl_cons hR (pdv hR 4) (pdl_cons hR pd_str pdl_nil))) pdl_nil)) (pdl_cons hR (pdv hR 3) pdl_nil))))) pd_str (nomark _)) (pdw_or1 (PL.pt_cmp hR (od_ne hr.units) (pd_fn hR len_stands (pe_call (okD_stands T) (hr.mono (by decide)) rfl T.g_stands T.d_stands.F.kp T.d_stands.b .nil pass0 (pdl_cons hR (pdv hR 2) (pdl_cons hR (pd_tup hR (pdl_cons hR (pd_tup hR (pdl_cons hR (pdv hR 4) (pdl_cons hR pd_str pdl_nil))) pdl_nil)) (pdl_cons hR (pdv hR 3) pdl_nil))))) (pd_tup hR (pdl_cons hR (pd_tup hR (pdl_cons hR pd_str (pdl_cons hR pd_int (pdl_cons hR pd_int pdl_nil)))) pdl_nil)) (nomark _))))) (pds_one (pds_ret pd_bl)) pds_nil) (pds_cons (pds_set (i := 6) sc__law_right.nd rfl (Or.inl rfl) (pd_callTy hR (cd_tup hR) (by rfl) T.c.z_tuple (by decide +kernel) (pdl_cons hR (pd_fz hR (pd_lc (own := [("_law_step", 5)]) hR rfl sc__law_right.nd (pid_rg2 (pi_range2 rfl T.c.z_range (pdl_cons hR (pdv hR 4) (pdl_cons hR (pd_bin hR (od_add hR) (pdv hR 3) pd_int) pdl_nil)))) (blkOk_by (own := [("_law_step", 5)]) (N := ["_law_pot_here", "_law_quantum", "_law_board_here", "_law_beat", "_law_first", "_law_step", "_law_heap", "_law_late"]) (sc := defScope s__law_right) (by decide +kernel)) (fun _ _ _ _ _ => (pgd_name (pg_name (i := 5) sc__law_right.nd rfl (Or.inl rfl)))) (by decide) (fun _ _ _ _ _ => ptd_yes hR pts_nil) (fun _ _ _ _ _ => (pd_tup hR (pdl_cons hR (pdv hR 5) (pdl_cons hR (pd_ix hR (ixd hR) pd_str (pd_bin hR od_mod (pd_callTy hR cd_int (by rfl) T.c.z_int (by decide +kernel) (pdl_cons hR (pdv hR 5) pdl_nil)) pd_int) (fun _ _ => rfl)) pdl_nil)))))) pdl_nil))) (pds_cons (pds_if (PW.pt (pdw_or (PL.pt_cmp hR (od_ne hr.units) (pd_fn hR len_begun (pe_call (okD_begun T) (hr.mono (by decide)) rfl T.g_begun T.d_begun.F.kp T.d_begun.b .nil pass0 (pdl_cons hR (pdv hR 2) (pdl_cons hR (pdv hR 6) pdl_nil)))) (pd_tup hR (pdl_cons hR (pd_tup hR (pdl_cons hR (pdv hR 3) (pdl_cons hR (pd_ix hR (ixd hR) pd_str (pd_bin hR od_mod (pd_callTy hR cd_int (by rfl) T.c.z_int (by decide +kernel) (pdl_cons hR (pdv hR 3) pdl_nil)) pd_int) (fun _ _ => rfl)) pdl_nil))) pdl_nil)) (nomark _)) (pdw_or1 (PL.pt_cmp hR (od_ne hr.units) (pd_fn hR len_waits (pe_call (ok_waits T) (hr.mono (by decide)) rfl T.g_waits T.d_waits.F.kp T.d_waits.b .nil pass0 (pdl_cons hR (pdv hR 2) (pdl_cons hR (pdv hR 6) (pdl_cons hR (pd_bin hR od_sub (pdv hR 3) pd_int) pdl_nil))))) (pd_ix hR (ixd hR) pd_str (pd_bin hR od_mod (pd_callTy hR cd_int (by rfl) T.c.z_int (by decide +kernel) (pdl_cons hR (pd_bin hR od_sub (pdv hR 3) pd_int) pdl_nil)) pd_int) (fun _ _ => rfl)) (nomark _))))) (pds_one (pds_ret pd_bl)) pds_nil) (pds_cons (pds_set (i := 7) sc__law_right.nd rfl (Or.inl rfl) (pd_if (PL.pt_cmp hR od_le (pd_bin hR (od_add hR) (pdv hR 4) pd_int) (pdv hR 3) (nomark _)) (pd_tup hR (pdl_cons hR (pd_tup hR (pdl_cons hR (pdv hR 4) (pdl_cons hR pd_str pdl_nil))) (pdl_cons hR (pd_tup hR (pdl_cons hR (pd_bin hR (od_add hR) (pdv hR 4) pd_int) (pdl_cons hR pd_str pdl_nil))) pdl_nil))) (pd_tup hR (pdl_cons hR (pd_tup hR (pdl_cons hR (pdv hR 4) (pdl_cons hR pd_str pdl_nil))) pdl_nil)))) (pds_cons (pds_if (PW.pt (pdw_or (PL.pt_cmp hR (od_ne hr.units) (pd_fn hR len_begun (pe_call (okD_begun T) (hr.mono (by decide)) rfl T.g_begun T.d_begun.F.kp T.d_begun.b .nil pass0 (pdl_cons hR (pdv hR 2) (pdl_cons hR (pdv hR 7) pdl_nil)))) (pd_tup hR (pdl_cons hR (pd_tup hR (pdl_cons hR (pd_ix hR (ixd hR) (pd_ix hR (ixd hR) (pdv hR 7) (pd_un hR ud_neg pd_int) (fun _ _ => rfl)) pd_int (fun _ _ => rfl)) (pdl_cons hR pd_str pdl_nil))) pdl_nil)) (nomark _)) (pdw_or1 (PL.pt_cmp hR (od_ne hr.units) (pd_fn hR len_waits (pe_call (ok_waits T) (hr.mono (by decide)) rfl T.g_waits T.d_waits.F.kp T.d_waits.b .nil pass0 (pdl_cons hR (pdv hR 2) (pdl_cons hR (pdv hR 7) (pdl_cons hR (pd_ix hR (ixd hR) (pd_ix hR (ixd hR) (pdv hR 7) (pd_un hR ud_neg pd_int) (fun _ _ => rfl)) pd_int (fun _ _ => rfl)) pdl_nil))))) pd_str (nomark _))))) (pds_one (pds_ret pd_bl)) pds_nil) (pds_cons (pds_if (PL.pt_cmp hR (od_ne hr.units) (pd_fn hR len_heard (pe_call (okD_heard T) (hr.mono (by decide)) rfl T.g_heard T.d_heard.F.kp T.d_heard.b .nil pass0 (pdl_cons hR (pdv hR 2) (pdl_cons hR (pdv hR 7) (pdl_cons hR (pdv hR 3) (pdl_cons hR (pd_bin hR (od_mul hR) pd_int (pdv hR 1)) pdl_nil)))))) (pd_bin hR (od_mul hR) (pd_tup hR (pdl_cons hR (pd_tup hR (pdl_cons hR (pd_tup hR (pdl_cons hR pd_str (pdl_cons hR pd_str pdl_nil))) pdl_nil)) pdl_nil)) (pd_bin hR (od_mul hR) pd_int (pdv hR 1))) (nomark _)) (pds_one (pds_ret pd_bl)) pds_nil) (pds_cons (pds_if (PL.pt_cmp hR (od_ne hr.units) (pd_fn hR len_begun (pe_call (okD_begun T) (hr.mono (by decide)) rfl T.g_begun T.d_begun.F.kp T.d_begun.b .nil pass0 (pdl_cons hR (pdv hR 2) (pdl_cons hR (pd_tup hR (pdl_cons hR (pd_tup hR (pdl_cons hR (pdv hR 3) (pdl_cons hR pd_str pdl_nil))) (pdl_cons hR (pd_tup hR (pdl_cons hR (pd_bin hR (od_add hR) (pdv hR 3) pd_int) (pdl_cons hR pd_str pdl_nil))) pdl_nil))) pdl_nil)))) (pd_tup hR (pdl_cons hR (pd_tup hR (pdl_cons hR (pdv hR 3) (pdl_cons hR pd_str pdl_nil))) (pdl_cons hR (pd_tup hR (pdl_cons hR (pd_bin hR (od_add hR) (pdv hR 3) (pdv hR 1)) (pdl_cons hR pd_str pdl_nil))) pdl_nil))) (nomark _)) (pds_one (pds_ret pd_bl)) pds_nil) (pds_one (pds_ret (pd_cmp hR (od_eq hr.units) (pd_fn hR len_waits (pe_call (ok_waits T) (hr.mono (by decide)) rfl T.g_waits T.d_waits.F.kp T.d_waits.b .nil pass0 (pdl_cons hR (pdv hR 2) (pdl_cons hR (pd_tup hR (pdl_cons hR (pd_tup hR (pdl_cons hR (pdv hR 3) (pdl_cons hR pd_str pdl_nil))) (pdl_cons hR (pd_tup hR (pdl_cons hR (pd_bin hR (od_add hR) (pdv hR 3) pd_int) (pdl_cons hR pd_str pdl_nil))) pdl_nil))) (pdl_cons hR (pd_bin hR od_sub (pd_bin hR (od_add hR) (pdv hR 3) (pdv hR 1)) pd_int) pdl_nil))))) pd_str (nomark _)))))))))))))))
theorem len__law_right : ∀ (ds : List D) cs r, F__law_right ds cs = some r → ds.length = 1 := runF_len
def B_law_1 : FS := (fRet (fC (.bl true)))
def B_law : FS := (fSeq (fFor (fItL (fFn (liftP P__law_cells) (fCons (fVar 0) (fCons (fC (.int 6)) fNil)))) (gNm 1) (fSeq (fSet 2 (fCell (fFnO F__law_pot (fCons (fVar 0) (fCons (fVar 1) fNil))))) (fIfS (fNot (fTst (fCall dAll (fCons (fFz (fLc [3] (fRg1 (fCons (fC (.int 3)) fNil)) (gNm 3) fYes (fFn F__law_right (fCons (fVar 2) fNil)))) fNil)))) (fRet (fC (.bl false))) fPass))) B_law_1)
def F_law : FF := runF 1 4 B_law
theorem ok_law (T : Txt K mg) : FnOk P w K mg base CX0 11 T.d_law.f T.d_law.fd ["_law_script"] (spD K (RB T) 1 F_law) := by
  have hR := rmono T
  exact fd_ok T.d_law.F sc_law rfl rfl fun cdv A outer s H E hr => (pds_cons (pds_for hR (pid_list (pi_list (pd_fn hR len__law_cells (pe_call (ok__law_cells T) (hr.mono (by decide)) rfl T.g__law_cells T.d__law_cells.F.kp T.d__law_cells.b .nil pass0 (pdl_cons hR (pdv hR 0) (pdl_cons hR pd_int pdl_nil)))))) (pgd_name (pg_name (i := 1) sc_law.nd rfl (Or.inl rfl))) (pds_cons (pds_set (i := 2) sc_law.nd rfl (Or.inr rfl) (pd_cell hR (pd_fnO hR len__law_pot (pe_call (ok__law_pot T) (hr.mono (by decide)) rfl T.g__law_pot T.d__law_pot.F.kp T.d__law_pot.b .nil pass0 (pdl_cons hR (pdv hR 0) (pdl_cons hR (pdv hR 1) pdl_nil)))))) (pds_one (pds_if (pd_not (pd_tst (pd_call hR (cd_all rfl) (by rfl) T.c.z_all (by decide +kernel) (pdl_cons hR (pd_fz hR (pd_lc (own := [("_law_lap", 3)]) hR rfl sc_law.nd (pid_rg1 (pi_range1 rfl T.c.z_range (pdl_cons hR pd_int pdl_nil))) (blkOk_by (own := [("_law_lap", 3)]) (N := ["_law_script", "_law_place", "_law_pot_here", "_law_lap"]) (sc := defScope s_law) (by decide +kernel)) (fun _ _ _ _ _ => (pgd_name (pg_name (i := 3) sc_law.nd rfl (Or.inl rfl)))) (by decide) (fun _ _ _ _ _ => ptd_yes hR pts_nil) (fun _ _ _ _ _ => (pd_fn hR len__law_right (pe_call (ok__law_right T) (hr.mono (by decide)) rfl T.g__law_right T.d__law_right.F.kp T.d__law_right.b .nil pass0 (pdl_cons hR (pdv hR 2) pdl_nil)))))) pdl_nil)))) (pds_one (pds_ret pd_bl)) pds_nil))) rfl PassesOwn.never) (pds_one (pds_ret pd_bl)))
theorem len_law : ∀ (ds : List D) cs r, F_law ds cs = some r → ds.length = 1 := runF_len
end
end PL
end

section
namespace PL
open PySem PySem.Spec PyProof.Rows L2 Ev
/-! ### the board of the law, and what comes of each draw (reckoned) -/
def D.getB : D → Option BoardM
  | .brd _ B => some B
  | _ => none
def loopQ (n : Str) : LoopM := ⟨n, 1, 0, "", [[n]]⟩
def bdQ (q : Nat) : BoardM := ⟨[⟨"t", [loopQ "a", loopQ "b", loopQ "c"]⟩], [⟨"a", q, [("t", "plays", "a")]⟩, ⟨"b", q, [("t", "plays", "b")]⟩, ⟨"c", 1, [("t", "plays", "c")]⟩], q⟩
def resO : Option Out → Option (D × List (List D))
  | some (.rt r s) => some (r, s.cs)
  | _ => none
def envR (t : Str) (i q b f : Nat) : PL.Env := [some (.d (.cell i)), some (.d (.int (q : Int))), some (.d (.brd t (bdQ q))), some (.d (.int (b : Int))), some (.d (.int (f : Int))), none, none, none]
def rowR (q k : Nat) (t : Str) (i : Nat) (cs : List (List D)) : List (Option (D × List (List D))) := (List.range (q - 1)).map fun r => resO (B__law_right_3 ⟨envR t i q (q * (k + 1)) (q * (k + 1) - 1 - r), cs⟩)
abbrev RowOk (q k : Nat) : Prop := ∀ t i cs, rowR q k t i cs = List.replicate (q - 1) (some (.bl true, cs))
theorem brd_2 : (P__law_board [.int (2 : Int)]).bind D.getB = some (bdQ 2) := by kernel_rfl
theorem brd_3 : (P__law_board [.int (3 : Int)]).bind D.getB = some (bdQ 3) := by kernel_rfl
theorem brd_4 : (P__law_board [.int (4 : Int)]).bind D.getB = some (bdQ 4) := by kernel_rfl
theorem brd_5 : (P__law_board [.int (5 : Int)]).bind D.getB = some (bdQ 5) := by kernel_rfl
theorem brd_6 : (P__law_board [.int (6 : Int)]).bind D.getB = some (bdQ 6) := by kernel_rfl
theorem brd_7 : (P__law_board [.int (7 : Int)]).bind D.getB = some (bdQ 7) := by kernel_rfl
theorem brd_8 : (P__law_board [.int (8 : Int)]).bind D.getB = some (bdQ 8) := by kernel_rfl
theorem brd_9 : (P__law_board [.int (9 : Int)]).bind D.getB = some (bdQ 9) := by kernel_rfl
theorem brd_10 : (P__law_board [.int (10 : Int)]).bind D.getB = some (bdQ 10) := by kernel_rfl
theorem brd_11 : (P__law_board [.int (11 : Int)]).bind D.getB = some (bdQ 11) := by kernel_rfl
theorem brd_12 : (P__law_board [.int (12 : Int)]).bind D.getB = some (bdQ 12) := by kernel_rfl
theorem row_2_0 : RowOk 2 0 := fun t i cs => by kernel_rfl
theorem row_2_1 : RowOk 2 1 := fun t i cs => by kernel_rfl
theorem row_2_2 : RowOk 2 2 := fun t i cs => by kernel_rfl
theorem row_2_3 : RowOk 2 3 := fun t i cs => by kernel_rfl
theorem row_2_4 : RowOk 2 4 := fun t i cs => by kernel_rfl
theorem row_3_0 : RowOk 3 0 := fun t i cs => by kernel_rfl
theorem row_3_1 : RowOk 3 1 := fun t i cs => by kernel_rfl
theorem row_3_2 : RowOk 3 2 := fun t i cs => by kernel_rfl
theorem row_3_3 : RowOk 3 3 := fun t i cs => by kernel_rfl
theorem row_3_4 : RowOk 3 4 := fun t i cs => by kernel_rfl
theorem row_4_0 : RowOk 4 0 := fun t i cs => by kernel_rfl
theorem row_4_1 : RowOk 4 1 := fun t i cs => by kernel_rfl
theorem row_4_2 : RowOk 4 2 := fun t i cs => by kernel_rfl
theorem row_4_3 : RowOk 4 3 := fun t i cs => by kernel_rfl
theorem row_4_4 : RowOk 4 4 := fun t i cs => by kernel_rfl
theorem row_5_0 : RowOk 5 0 := fun t i cs => by kernel_rfl
theorem row_5_1 : RowOk 5 1 := fun t i cs => by kernel_rfl
theorem row_5_2 : RowOk 5 2 := fun t i cs => by kernel_rfl
theorem row_5_3 : RowOk 5 3 := fun t i cs => by kernel_rfl
theorem row_5_4 : RowOk 5 4 := fun t i cs => by kernel_rfl
theorem row_6_0 : RowOk 6 0 := fun t i cs => by kernel_rfl
theorem row_6_1 : RowOk 6 1 := fun t i cs => by kernel_rfl
theorem row_6_2 : RowOk 6 2 := fun t i cs => by kernel_rfl
theorem row_6_3 : RowOk 6 3 := fun t i cs => by kernel_rfl
theorem row_6_4 : RowOk 6 4 := fun t i cs => by kernel_rfl
theorem row_7_0 : RowOk 7 0 := fun t i cs => by kernel_rfl
theorem row_7_1 : RowOk 7 1 := fun t i cs => by kernel_rfl
theorem row_7_2 : RowOk 7 2 := fun t i cs => by kernel_rfl
theorem row_7_3 : RowOk 7 3 := fun t i cs => by kernel_rfl
theorem row_7_4 : RowOk 7 4 := fun t i cs => by kernel_rfl
theorem row_8_0 : RowOk 8 0 := fun t i cs => by kernel_rfl
theorem row_8_1 : RowOk 8 1 := fun t i cs => by kernel_rfl
theorem row_8_2 : RowOk 8 2 := fun t i cs => by kernel_rfl
theorem row_8_3 : RowOk 8 3 := fun t i cs => by kernel_rfl
theorem row_8_4 : RowOk 8 4 := fun t i cs => by kernel_rfl
theorem row_9_0 : RowOk 9 0 := fun t i cs => by kernel_rfl
theorem row_9_1 : RowOk 9 1 := fun t i cs => by kernel_rfl
theorem row_9_2 : RowOk 9 2 := fun t i cs => by kernel_rfl
theorem row_9_3 : RowOk 9 3 := fun t i cs => by kernel_rfl
theorem row_9_4 : RowOk 9 4 := fun t i cs => by kernel_rfl
theorem row_10_0 : RowOk 10 0 := fun t i cs => by kernel_rfl
theorem row_10_1 : RowOk 10 1 := fun t i cs => by kernel_rfl
theorem row_10_2 : RowOk 10 2 := fun t i cs => by kernel_rfl
theorem row_10_3 : RowOk 10 3 := fun t i cs => by kernel_rfl
theorem row_10_4 : RowOk 10 4 := fun t i cs => by kernel_rfl
theorem row_11_0 : RowOk 11 0 := fun t i cs => by kernel_rfl
theorem row_11_1 : RowOk 11 1 := fun t i cs => by kernel_rfl
theorem row_11_2 : RowOk 11 2 := fun t i cs => by kernel_rfl
theorem row_11_3 : RowOk 11 3 := fun t i cs => by kernel_rfl
theorem row_11_4 : RowOk 11 4 := fun t i cs => by kernel_rfl
theorem row_12_0 : RowOk 12 0 := fun t i cs => by kernel_rfl
theorem row_12_1 : RowOk 12 1 := fun t i cs => by kernel_rfl
theorem row_12_2 : RowOk 12 2 := fun t i cs => by kernel_rfl
theorem row_12_3 : RowOk 12 3 := fun t i cs => by kernel_rfl
theorem row_12_4 : RowOk 12 4 := fun t i cs => by kernel_rfl
theorem rows_all : ∀ n k, n < 11 → k < 5 → RowOk (n + 2) k
  | 0, 0, _, _ => row_2_0
  | 0, 1, _, _ => row_2_1
  | 0, 2, _, _ => row_2_2
  | 0, 3, _, _ => row_2_3
  | 0, 4, _, _ => row_2_4
  | 1, 0, _, _ => row_3_0
  | 1, 1, _, _ => row_3_1
  | 1, 2, _, _ => row_3_2
  | 1, 3, _, _ => row_3_3
  | 1, 4, _, _ => row_3_4
  | 2, 0, _, _ => row_4_0
  | 2, 1, _, _ => row_4_1
  | 2, 2, _, _ => row_4_2
  | 2, 3, _, _ => row_4_3
  | 2, 4, _, _ => row_4_4
  | 3, 0, _, _ => row_5_0
  | 3, 1, _, _ => row_5_1
  | 3, 2, _, _ => row_5_2
  | 3, 3, _, _ => row_5_3
  | 3, 4, _, _ => row_5_4
  | 4, 0, _, _ => row_6_0
  | 4, 1, _, _ => row_6_1
  | 4, 2, _, _ => row_6_2
  | 4, 3, _, _ => row_6_3
  | 4, 4, _, _ => row_6_4
  | 5, 0, _, _ => row_7_0
  | 5, 1, _, _ => row_7_1
  | 5, 2, _, _ => row_7_2
  | 5, 3, _, _ => row_7_3
  | 5, 4, _, _ => row_7_4
  | 6, 0, _, _ => row_8_0
  | 6, 1, _, _ => row_8_1
  | 6, 2, _, _ => row_8_2
  | 6, 3, _, _ => row_8_3
  | 6, 4, _, _ => row_8_4
  | 7, 0, _, _ => row_9_0
  | 7, 1, _, _ => row_9_1
  | 7, 2, _, _ => row_9_2
  | 7, 3, _, _ => row_9_3
  | 7, 4, _, _ => row_9_4
  | 8, 0, _, _ => row_10_0
  | 8, 1, _, _ => row_10_1
  | 8, 2, _, _ => row_10_2
  | 8, 3, _, _ => row_10_3
  | 8, 4, _, _ => row_10_4
  | 9, 0, _, _ => row_11_0
  | 9, 1, _, _ => row_11_1
  | 9, 2, _, _ => row_11_2
  | 9, 3, _, _ => row_11_3
  | 9, 4, _, _ => row_11_4
  | 10, 0, _, _ => row_12_0
  | 10, 1, _, _ => row_12_1
  | 10, 2, _, _ => row_12_2
  | 10, 3, _, _ => row_12_3
  | 10, 4, _, _ => row_12_4
  | n + 11, _, h, _ => absurd h (by omega)
  | _, k + 5, _, h => absurd h (by omega)
theorem brd_all : ∀ n, n < 11 → (P__law_board [.int ((n + 2 : Nat) : Int)]).bind D.getB = some (bdQ (n + 2))
  | 0, _ => brd_2
  | 1, _ => brd_3
  | 2, _ => brd_4
  | 3, _ => brd_5
  | 4, _ => brd_6
  | 5, _ => brd_7
  | 6, _ => brd_8
  | 7, _ => brd_9
  | 8, _ => brd_10
  | 9, _ => brd_11
  | 10, _ => brd_12
  | n + 11, h => absurd h (by omega)
theorem row_ok {q k r : Nat} (h : RowOk q k) (hr : r < q - 1) (t : Str) (i : Nat) (cs : List (List D)) : resO (B__law_right_3 ⟨envR t i q (q * (k + 1)) (q * (k + 1) - 1 - r), cs⟩) = some (.bl true, cs) := by
  have e := congrArg (fun l => l[r]?) (h t i cs)
  unfold rowR at e
  simp only [List.getElem?_map, List.getElem?_range hr, Option.map_some, List.getElem?_replicate, if_pos hr] at e
  exact Option.some.inj e
theorem board_ok {n : Nat} (h : n < 11) : ∃ t, P__law_board [.int ((n + 2 : Nat) : Int)] = some (.brd t (bdQ (n + 2))) := by
  have e := brd_all n h
  cases q : P__law_board [.int ((n + 2 : Nat) : Int)] with
  | none => rw [q] at e; cases e
  | some d =>
    rw [q] at e
    cases d with
    | brd t B => cases e; exact ⟨t, rfl⟩
    | _ => cases e
end PL
end

section
namespace PL
open PySem PySem.Spec PyProof.Rows L2 Ev
theorem log_of {i : Int} {b : Nat} (h : i.natAbs < 2 ^ b) (hb : 0 < b) : i.natAbs.log2 < b := PySem.Flt.log2_lt_of hb h
theorem dMul_of {i j : Int} (h1 : i.natAbs < 2 ^ 400) (h2 : j.natAbs < 2 ^ 400) : dMul (.int i) (.int j) = some (.int (i * j)) := by
  have a := log_of h1 (by decide)
  have b := log_of h2 (by decide)
  show (if _ then _ else _) = _
  rw [if_pos (by omega)]
theorem dPow_of {i j : Int} (h0 : 0 ≤ j) (h2 : j ≤ 1000) (h1 : i.natAbs < 2 ^ 400) : dPow (.int i) (.int j) = some (.int (i ^ j.toNat)) := by
  have a := log_of h1 (by decide)
  show (if _ then _ else _) = _
  rw [if_pos ⟨h0, h2, by omega⟩]
theorem dMod_of {i j : Int} (h : 0 < j) : dMod (.int i) (.int j) = some (.int (i % j)) := by
  show (if _ then _ else _) = _
  rw [if_pos h]
theorem dFdiv_of {i j : Int} (h : 0 < j) (h1 : j.natAbs < 2 ^ 400) : dFdiv (.int i) (.int j) = some (.int (i / j)) := by
  have a := log_of h1 (by decide)
  show (if _ then _ else _) = _
  rw [if_pos ⟨h, by omega⟩]
theorem atI_0 {α : Type} (a : α) (l : List α) : atI (a :: l) 0 = some a := atI_nat (j := 0) rfl
theorem atI_1 {α : Type} (a b : α) (l : List α) : atI (a :: b :: l) 1 = some b := atI_nat (j := 1) rfl
theorem atI_2 {α : Type} (a b c : α) (l : List α) : atI (a :: b :: c :: l) 2 = some c := atI_nat (j := 2) rfl
/-- a pot: its own digits, its number, how many were mixed -/
structure PotOk (b : Nat) (ds : List D) : Prop where
  ex : ∃ o m c : Int, ds = [.int o, .int m, .int c] ∧ 0 ≤ o ∧ 0 ≤ m ∧ m < 2305843009213693951 ∧ 0 ≤ c ∧ c + b ≤ 1000000
theorem take_ok {b : Nat} {pot : List D} {n : Int} {cs : List (List D)} {i : Nat} (hc : cs[i]? = some pot) (h : PotOk (b + 1) pot) (hn : 0 < n) (hn2 : n ≤ 1000000) : ∃ r pot', F__law_take [.cell i, .int n] cs = some (.int r, cs.set i pot') ∧ 0 ≤ r ∧ r < n ∧ PotOk b pot' := by
  obtain ⟨o, m, c, rfl, h0, h1, h2, h3, h4⟩ := h
  have hs : ∀ x, (cs.set i x)[i]? = some x := fun x => set_at hc
  by_cases ho : 0 < o
  · refine ⟨o % n, [.int (o / n), .int m, .int c], ?_, Int.emod_nonneg _ (by omega), Int.emod_lt_of_pos _ hn, ⟨o / n, m, c, rfl, Int.ediv_nonneg h0 (by omega), h1, h2, h3, by omega⟩⟩
    have e1 := dMod_of (i := o) hn
    have e2 := dFdiv_of (i := o) hn (by omega)
    simp [F__law_take, runF, B__law_take, B__law_take_1, B__law_take_2, B__law_take_3, B__law_take_4, B__law_take_5, startE, fSeq, fIfS, fTst, fBin, fIxC, fVar, fC, fSet, fPutC, fRet, fCall, fCons, fNil, dInt, dGt, ho, e1, e2, hc, atI_0]
  · have ho' : o = 0 := by omega
    have hcell := hc
    have hc : c + 1 ≤ 1000000 := by omega
    have b1 : (98077 * (c + 1)).natAbs < 2 ^ 400 := by
      have : (98077 * (c + 1)).natAbs ≤ 98077000000 := by omega
      exact Nat.lt_of_le_of_lt this (by decide)
    have b2 : (c + 1).natAbs < 2 ^ 400 := Nat.lt_of_le_of_lt (show (c + 1).natAbs ≤ 1000000 by omega) (by decide)
    have q2 : 0 ≤ 98077 * (c + 1) * (c + 1) ∧ 98077 * (c + 1) * (c + 1) ≤ 98077000000 * 1000000 := ⟨Int.mul_nonneg (by omega) (by omega), Int.mul_le_mul (by omega) hc (by omega) (by omega)⟩
    have b3 : (m + 98077 * (c + 1) * (c + 1) + 43).natAbs < 2 ^ 400 := Nat.lt_of_le_of_lt (show (m + 98077 * (c + 1) * (c + 1) + 43).natAbs ≤ 2305843009213693951 + 98077000000 * 1000000 + 43 by omega) (by decide)
    have e1 : dMul (.int 98077) (.int (c + 1)) = some (.int (98077 * (c + 1))) := dMul_of (by decide) b2
    have e2 : dMul (.int (98077 * (c + 1))) (.int (c + 1)) = some (.int (98077 * (c + 1) * (c + 1))) := dMul_of b1 b2
    have e3 : dPow (.int (m + 98077 * (c + 1) * (c + 1) + 43)) (.int 3) = some (.int ((m + 98077 * (c + 1) * (c + 1) + 43) ^ 3)) := dPow_of (by decide) (by decide) b3
    have e4 : dMod (.int (c + 1)) (.int 5) = some (.int ((c + 1) % 5)) := dMod_of (by decide)
    have fin : ∀ pr : Int, 0 < pr → pr < 2147483648 → dIx (.lst [D.int 2147483647, .int 2147483629, .int 2147483587, .int 2147483579, .int 2147483563]) (.int ((c + 1) % 5)) = some (.int pr) →
        ∃ r pot', F__law_take [.cell i, .int n] cs = some (.int r, cs.set i pot') ∧ 0 ≤ r ∧ r < n ∧ PotOk b pot' := fun pr hp1 hp2 e5 => by
      have hx : 0 ≤ (m + 98077 * (c + 1) * (c + 1) + 43) ^ 3 % pr ∧ (m + 98077 * (c + 1) * (c + 1) + 43) ^ 3 % pr < pr := ⟨Int.emod_nonneg _ (by omega), Int.emod_lt_of_pos _ hp1⟩
      have e6 : dMod (.int ((m + 98077 * (c + 1) * (c + 1) + 43) ^ 3)) (.int pr) = some (.int ((m + 98077 * (c + 1) * (c + 1) + 43) ^ 3 % pr)) := dMod_of hp1
      generalize (m + 98077 * (c + 1) * (c + 1) + 43) ^ 3 % pr = y at *
      have hy : 0 ≤ y % 10091 + 97 * (c + 1) ∧ y % 10091 + 97 * (c + 1) ≤ 97010091 := by omega
      have e7 : dMod (.int y) (.int 10091) = some (.int (y % 10091)) := dMod_of (by decide)
      have e8 : dMul (.int 97) (.int (c + 1)) = some (.int (97 * (c + 1))) := dMul_of (by decide) b2
      have e9 : dMul (.int y) (.int (y % 10091 + 97 * (c + 1))) = some (.int (y * (y % 10091 + 97 * (c + 1)))) := dMul_of (Nat.lt_of_le_of_lt (show y.natAbs ≤ 2147483648 by omega) (by decide)) (Nat.lt_of_le_of_lt (show (y % 10091 + 97 * (c + 1)).natAbs ≤ 97010091 by omega) (by decide))
      have e10 : dMod (.int (y * (y % 10091 + 97 * (c + 1)))) (.int 2305843009213693907) = some (.int (y * (y % 10091 + 97 * (c + 1)) % 2305843009213693907)) := dMod_of (by decide)
      have hz : 0 ≤ y * (y % 10091 + 97 * (c + 1)) % 2305843009213693907 := Int.emod_nonneg _ (by decide)
      generalize y * (y % 10091 + 97 * (c + 1)) % 2305843009213693907 = z at *
      have e11 : dFdiv (.int z) (.int 131) = some (.int (z / 131)) := dFdiv_of (by decide) (by decide)
      have e12 : dMod (.int (z / 131)) (.int n) = some (.int (z / 131 % n)) := dMod_of hn
      refine ⟨z / 131 % n, [.int o, .int m, .int (c + 1)], ?_, Int.emod_nonneg _ (by omega), Int.emod_lt_of_pos _ hn, ⟨o, m, c + 1, rfl, h0, h1, h2, by omega, by omega⟩⟩
      simp [F__law_take, runF, B__law_take, B__law_take_1, B__law_take_2, B__law_take_3, B__law_take_4, B__law_take_5, startE, fSeq, fIfS, fTst, fBin, fIxC, fVar, fC, fSet, fPutC, fRet, fCall, fCons, fNil, fPass, fFz, fLstO, dInt, dGt, dAdd, ho, e1, e2, e3, e4, e5, e6, e7, e8, e9, e10, e11, e12, hcell, hs, atI_0, atI_1, atI_2]
    have h5 : (c + 1) % 5 = 0 ∨ (c + 1) % 5 = 1 ∨ (c + 1) % 5 = 2 ∨ (c + 1) % 5 = 3 ∨ (c + 1) % 5 = 4 := by omega
    rcases h5 with h | h | h | h | h
    · exact fin 2147483647 (by decide) (by decide) (by rw [h]; rfl)
    · exact fin 2147483629 (by decide) (by decide) (by rw [h]; rfl)
    · exact fin 2147483587 (by decide) (by decide) (by rw [h]; rfl)
    · exact fin 2147483579 (by decide) (by decide) (by rw [h]; rfl)
    · exact fin 2147483563 (by decide) (by decide) (by rw [h]; rfl)
theorem dMul_big {i j : Int} (h1 : i.natAbs < 2 ^ 4000) (h2 : j.natAbs < 2 ^ 4000) : dMul (.int i) (.int j) = some (.int (i * j)) := by
  have a := log_of h1 (by decide)
  have b := log_of h2 (by decide)
  show (if _ then _ else _) = _
  rw [if_pos (by omega)]
theorem pow_ex : ∃ P : Int, 0 < P ∧ P.natAbs < 2 ^ 4000 ∧ fBin dPow (fBin dPow (fC (.int 10)) (fC (.int 60))) (fC (.int 5)) = fC (.int P) := by
  refine ⟨((10 : Int) ^ (60 : Int).toNat) ^ (5 : Int).toNat, by decide, by decide, ?_⟩
  funext s
  have a1 : dPow (.int 10) (.int 60) = some (.int (10 ^ (60 : Int).toNat)) := dPow_of (by decide) (by decide) (by decide)
  have a2 : dPow (.int (10 ^ (60 : Int).toNat)) (.int 5) = some (.int ((10 ^ (60 : Int).toNat) ^ (5 : Int).toNat)) := dPow_of (by decide) (by decide) (by decide)
  show ((fBin dPow (fC (.int 10)) (fC (.int 60)) s).bind _) = _
  have e : fBin dPow (fC (.int 10)) (fC (.int 60)) s = some (.int (10 ^ (60 : Int).toNat), s) := by
    show (((dPow (.int 10) (.int 60)).map fun z => (z, s)) : Option (D × S)) = _
    rw [a1]
    rfl
  rw [e]
  show (((dPow (.int (10 ^ (60 : Int).toNat)) (.int 5)).map fun z => (z, s)) : Option (D × S)) = _
  rw [a2]
  rfl
theorem pow_ex2 : ∃ P : Int, fBin dPow (fC (.int 10)) (fC (.int 18)) = fC (.int P) := by
  refine ⟨(10 : Int) ^ (18 : Int).toNat, ?_⟩
  funext s
  show (((dPow (.int 10) (.int 18)).map fun z => (z, s)) : Option (D × S)) = _
  rw [dPow_of (by decide) (by decide) (by decide)]
  rfl
theorem pot_ok (ns : List Int) (p : Nat) (hp : p ≤ 1000) (cs : List (List D)) : ∃ pot, F__law_pot [.scr ns, .int p] cs = some (pot, cs) ∧ PotOk 1000000 pot := by
  have fin : ∀ x : Int, (fIf (fTst (fBin dLt (fVar 1) (fCall dLen (fCons (fVar 0) fNil)))) (fBin dIx (fVar 0) (fVar 1)) (fBin dAdd (fBin dMul (fC (.int 71)) (fVar 1)) (fC (.int 32)))) ⟨[some (.d (.scr ns)), some (.d (.int p)), none, none, none], cs⟩ = some (.int x, ⟨[some (.d (.scr ns)), some (.d (.int p)), none, none, none], cs⟩) → ∃ pot, F__law_pot [.scr ns, .int p] cs = some (pot, cs) ∧ PotOk 1000000 pot := fun x e0 => by
    obtain ⟨PW, hP0, hP1, hP⟩ := pow_ex
    obtain ⟨QW, hQ⟩ := pow_ex2
    generalize hy : (if x < 0 then -x else x) = y at *
    have hy0 : 0 ≤ y := by rw [← hy]; split <;> omega
    have a4 : dMod (.int y) (.int (PW)) = some (.int (y % PW)) := dMod_of hP0
    have h1 : 0 ≤ y % PW ∧ y % PW < PW := ⟨Int.emod_nonneg _ (by omega), Int.emod_lt_of_pos _ hP0⟩
    generalize y % PW = r at *
    have hr : r.natAbs < 2 ^ 4000 := by
      exact Nat.lt_of_le_of_lt (show r.natAbs ≤ PW.natAbs by omega) hP1
    have a5 : ∀ k : Int, 0 ≤ k → k ≤ 1 → dMul (.int r) (.int k) = some (.int (r * k)) := fun k k0 k1 => dMul_big hr (Nat.lt_of_le_of_lt (show k.natAbs ≤ 1 by omega) (by decide))
    have a6 : dMod (.int x) (.int 2305843009213693951) = some (.int (x % 2305843009213693951)) := dMod_of (by decide)
    have h2 : 0 ≤ x % 2305843009213693951 ∧ x % 2305843009213693951 < 2305843009213693951 := ⟨Int.emod_nonneg _ (by decide), Int.emod_lt_of_pos _ (by decide)⟩
    generalize x % 2305843009213693951 = sm at *
    have a7 : dMul (.int sm) (.int 60889) = some (.int (sm * 60889)) := dMul_of (Nat.lt_of_le_of_lt (show sm.natAbs ≤ 2305843009213693951 by omega) (by decide)) (by decide)
    have a8 : dMul (.int 8039) (.int (p : Int)) = some (.int (8039 * (p : Int))) := dMul_of (by decide) (Nat.lt_of_le_of_lt (show ((p : Int)).natAbs ≤ 1000 by omega) (by decide))
    have a9 : dMul (.int (8039 * (p : Int))) (.int (p : Int)) = some (.int (8039 * (p : Int) * (p : Int))) := dMul_of (Nat.lt_of_le_of_lt (show (8039 * (p : Int)).natAbs ≤ 8039000 by omega) (by decide)) (Nat.lt_of_le_of_lt (show ((p : Int)).natAbs ≤ 1000 by omega) (by decide))
    have a10 : dMod (.int (sm * 60889 + 8039 * (p : Int) * (p : Int) + 83)) (.int 2305843009213693921) = some (.int ((sm * 60889 + 8039 * (p : Int) * (p : Int) + 83) % 2305843009213693921)) := dMod_of (by decide)
    have h3 : 0 ≤ (sm * 60889 + 8039 * (p : Int) * (p : Int) + 83) % 2305843009213693921 ∧ (sm * 60889 + 8039 * (p : Int) * (p : Int) + 83) % 2305843009213693921 < 2305843009213693921 := ⟨Int.emod_nonneg _ (by decide), Int.emod_lt_of_pos _ (by decide)⟩
    have e1 : fSet 2 (fIf (fTst (fBin dLt (fVar 1) (fCall dLen (fCons (fVar 0) fNil)))) (fBin dIx (fVar 0) (fVar 1)) (fBin dAdd (fBin dMul (fC (.int 71)) (fVar 1)) (fC (.int 32)))) ⟨[some (.d (.scr ns)), some (.d (.int p)), none, none, none], cs⟩ = some (.nx ⟨[some (.d (.scr ns)), some (.d (.int p)), some (.d (.int x)), none, none], cs⟩) := by
      unfold fSet
      rw [e0]
      rfl
    refine ⟨[.int (r * (if QW ≤ y then 1 else 0)), .int ((sm * 60889 + 8039 * (p : Int) * (p : Int) + 83) % 2305843009213693921), .int 0], ?_, ⟨_, _, _, rfl, ?_, h3.1, by omega, by decide, by decide⟩⟩
    · show (runO 2 5 B__law_pot) _ _ = _
      unfold runO B__law_pot
      simp only [B__law_pot_1, B__law_pot_2, B__law_pot_3, hP, hQ]
      unfold fSeq
      show ((fSet 2 _ ⟨[some (.d (.scr ns)), some (.d (.int p)), none, none, none], cs⟩).bind _).bind _ = _
      rw [e1]
      by_cases hb : QW ≤ y
      · have a5' := a5 1 (by decide) (by decide)
        simp [fSet, fBin, fVar, fC, fCall, fCons, fNil, fRetO, fLstO, dInt, dAbs, dGe, dAdd, hy, a4, a5', a6, a7, a8, a9, a10, hb]
      · have a5' := a5 0 (by decide) (by decide)
        simp [fSet, fBin, fVar, fC, fCall, fCons, fNil, fRetO, fLstO, dInt, dAbs, dGe, dAdd, hy, a4, a5', a6, a7, a8, a9, a10, hb]
    · split <;> omega
  by_cases hl : p < ns.length
  · refine fin (ns[p]'hl) ?_
    have e : atI ns (p : Int) = some (ns[p]'hl) := atI_nat (List.getElem?_eq_getElem hl)
    have hl' : (p : Int) < ns.length := by omega
    simp [fIf, fTst, fBin, fVar, fCall, fCons, fNil, dLt, dLen, dIx, e, hl']
  · refine fin (71 * p + 32) ?_
    have hl' : ¬ (p : Int) < ns.length := by omega
    have a8 : dMul (.int 71) (.int (p : Int)) = some (.int (71 * (p : Int))) := dMul_of (by decide) (Nat.lt_of_le_of_lt (show ((p : Int)).natAbs ≤ 1000 by omega) (by decide))
    simp [fIf, fTst, fBin, fVar, fC, fCall, fCons, fNil, dLt, dLen, dAdd, a8, hl']
theorem resO_some {o : Option Out} {r : D} {cs : List (List D)} (h : resO o = some (r, cs)) : ∃ s, o = some (.rt r s) ∧ s.cs = cs := by
  unfold resO at h
  split at h
  · cases h; exact ⟨_, rfl, rfl⟩
  · cases h
theorem right_ok {b : Nat} {pot : List D} {cs : List (List D)} {i : Nat} (hc : cs[i]? = some pot) (h : PotOk (b + 3) pot) : ∃ pot', F__law_right [.cell i] cs = some (.bl true, cs.set i pot') ∧ PotOk b pot' := by
  have hs : ∀ x, (cs.set i x)[i]? = some x := fun x => set_at hc
  obtain ⟨r1, p1, e1, l1, u1, h1⟩ := take_ok hc h (n := 11) (by decide) (by decide)
  obtain ⟨n1, rfl⟩ : ∃ n : Nat, r1 = n := ⟨r1.toNat, by omega⟩
  obtain ⟨r2, p2, e2, l2, u2, h2⟩ := take_ok (hs p1) h1 (n := 5) (by decide) (by decide)
  obtain ⟨n2, rfl⟩ : ∃ n : Nat, r2 = n := ⟨r2.toNat, by omega⟩
  rw [List.set_set] at e2
  have hq : ((n1 + 2 : Nat) : Int) = 2 + (n1 : Int) := by omega
  obtain ⟨r3, p3, e3, l3, u3, h3⟩ := take_ok (hs p2) h2 (n := ((n1 + 2 : Nat) : Int) - 1) (by omega) (by omega)
  obtain ⟨n3, rfl⟩ : ∃ n : Nat, r3 = n := ⟨r3.toNat, by omega⟩
  rw [List.set_set] at e3
  obtain ⟨t, eb⟩ := board_ok (n := n1) (by omega)
  have row := row_ok (rows_all n1 n2 (by omega) (by omega)) (r := n3) (by omega) t i (cs.set i p3)
  obtain ⟨s', es, ec⟩ := resO_some row
  have em : dMul (.int ((n1 + 2 : Nat) : Int)) (.int (1 + (n2 : Int))) = some (.int (((n1 + 2) * (n2 + 1) : Nat) : Int)) := by
    rw [dMul_of (Nat.lt_of_le_of_lt (show (((n1 + 2 : Nat) : Int)).natAbs ≤ 12 by omega) (by decide)) (Nat.lt_of_le_of_lt (show (1 + (n2 : Int)).natAbs ≤ 5 by omega) (by decide))]
    rw [Int.natCast_mul, show 1 + (n2 : Int) = ((n2 + 1 : Nat) : Int) by omega]
  have hbig : n1 + 2 ≤ (n1 + 2) * (n2 + 1) := Nat.le_mul_of_pos_right _ (by omega)
  have ef : (((n1 + 2) * (n2 + 1) : Nat) : Int) - 1 - (n3 : Int) = (((n1 + 2) * (n2 + 1) - 1 - n3 : Nat) : Int) := by omega
  refine ⟨p3, ?_, h3⟩
  rw [hq] at eb em e3
  unfold envR at es
  rw [hq] at es
  generalize (n1 + 2) * (n2 + 1) = bb at *
  rw [← ef] at es
  simp [F__law_right, runF, B__law_right, B__law_right_1, B__law_right_2, startE, fSeq, fSet, fPar, fBin, fVar, fC, fFn, liftP, fCons, fNil, dAdd, dSub, e1, e2, e3, eb, em, es, ec]
end PL
end

section
namespace PL
open PySem PySem.Spec PyProof.Rows L2 Ev
theorem PotOk.le {b b' : Nat} {ds : List D} (h : PotOk b ds) (q : b' ≤ b) : PotOk b' ds := by
  obtain ⟨o, m, c, e, h0, h1, h2, h3, h4⟩ := h
  exact ⟨o, m, c, e, h0, h1, h2, h3, by omega⟩
theorem rights_ok {pot : List D} {cs : List (List D)} {i : Nat} (hc : cs[i]? = some pot) : ∀ (l : List D) (b : Nat), PotOk (b + 3 * l.length) pot → ∀ (e0 a1 a2 a3 : Option Sl), ∃ pot', lcGo [e0, a1, some (.d (.cell i)), none] [3] (gNm 3) fYes (fFn F__law_right (fCons (fVar 2) fNil)) l ⟨[e0, a1, some (.d (.cell i)), a3], cs⟩ = some (List.replicate l.length (.bl true), ⟨[e0, a1, some (.d (.cell i)), if l = [] then a3 else none], cs.set i pot'⟩) := by
  intro l
  induction l generalizing pot cs with
  | nil =>
    refine fun b h e0 a1 a2 a3 => ⟨pot, ?_⟩
    have e : cs.set i pot = cs := by
      obtain ⟨hi, e⟩ := List.getElem?_eq_some_iff.1 hc
      rw [← e]
      exact List.set_getElem_self hi
    simp [lcGo, e]
  | cons d r ih =>
    intro b h e0 a1 a2 a3
    obtain ⟨p1, e1, h1⟩ := right_ok (b := b + 3 * r.length) hc (h.le (by simp only [List.length_cons]; omega))
    obtain ⟨p2, e2⟩ := ih (cs := cs.set i p1) (set_at hc) b h1 e0 a1 a2 none
    refine ⟨p2, ?_⟩
    have hb : backE [e0, a1, some (.d (.cell i)), none] [e0, a1, some (.d (.cell i)), some (.d d)] [3] = [e0, a1, some (.d (.cell i)), none] := rfl
    rw [List.set_set] at e2
    simp [lcGo, gNm, fYes, wipeE, fFn, fCons, fNil, fVar, e1, hb, e2, List.replicate_succ]
theorem turn_ok (ns : List Int) (p : Nat) (hp : p ≤ 1000) (a2 : Option Sl) (cs : List (List D)) : ∃ a2' cs', (fSeq (fSet 2 (fCell (fFnO F__law_pot (fCons (fVar 0) (fCons (fVar 1) fNil))))) (fIfS (fNot (fTst (fCall dAll (fCons (fFz (fLc [3] (fRg1 (fCons (fC (.int 3)) fNil)) (gNm 3) fYes (fFn F__law_right (fCons (fVar 2) fNil)))) fNil)))) (fRet (fC (.bl false))) fPass)) ⟨[some (.d (.scr ns)), some (.d (.int p)), a2, none], cs⟩ = some (.nx ⟨[some (.d (.scr ns)), some (.d (.int p)), a2', none], cs'⟩) := by
  obtain ⟨pot, e1, h1⟩ := pot_ok ns p hp cs
  have hc : (cs ++ [pot])[cs.length]? = some pot := by simp
  have hr : rngD 0 3 = [.int 0, .int 1, .int 2] := rfl
  obtain ⟨p2, e2⟩ := rights_ok hc [.int 0, .int 1, .int 2] 0 (h1.le (by simp)) (some (.d (.scr ns))) (some (.d (.int p))) none none
  simp only [List.length_cons, List.length_nil] at e2
  refine ⟨some (.d (.cell cs.length)), (cs ++ [pot]).set cs.length p2, ?_⟩
  simp [fSeq, fSet, fCell, fFnO, fCons, fNil, fVar, e1, fIfS, fNot, fTst, fCall, fFz, fLc, fRg1, fC, hr, e2, dAll, allOf, D.isBl, fPass, List.replicate]
theorem law_go (ns : List Int) : ∀ (ps : List Nat), (∀ p ∈ ps, p ≤ 1000) → ∀ (a1 a2 : Option Sl) (cs : List (List D)), ∃ s', forGo (gNm 1) (fSeq (fSet 2 (fCell (fFnO F__law_pot (fCons (fVar 0) (fCons (fVar 1) fNil))))) (fIfS (fNot (fTst (fCall dAll (fCons (fFz (fLc [3] (fRg1 (fCons (fC (.int 3)) fNil)) (gNm 3) fYes (fFn F__law_right (fCons (fVar 2) fNil)))) fNil)))) (fRet (fC (.bl false))) fPass)) (ps.map fun p : Nat => D.int p) ⟨[some (.d (.scr ns)), a1, a2, none], cs⟩ = some (.nx s') := by
  intro ps
  induction ps with
  | nil => exact fun _ a1 a2 cs => ⟨_, rfl⟩
  | cons p r ih =>
    intro h a1 a2 cs
    obtain ⟨a2', cs', e1⟩ := turn_ok ns p (h p List.mem_cons_self) a2 cs
    obtain ⟨s', e2⟩ := ih (fun p hp => h p (List.mem_cons_of_mem _ hp)) (some (.d (.int p))) a2' cs'
    refine ⟨s', ?_⟩
    show ((some _ : Option S).bind _) = _
    show ((_ : Option Out).bind _) = _
    rw [show (⟨List.set [some (.d (.scr ns)), a1, a2, none] 1 (some (.d (.int p))), cs⟩ : S) = ⟨[some (.d (.scr ns)), some (.d (.int p)), a2, none], cs⟩ from rfl, e1]
    exact e2
theorem cells_ok (ns : List Int) : ∃ ps : List Nat, (∀ p ∈ ps, p ≤ 1000) ∧ P__law_cells [.scr ns, .int 6] = some (.lst (ps.map fun p : Nat => D.int p)) := by
  refine ⟨List.range (max 1 (min 6 ns.length)), fun p hp => by have := List.mem_range.1 hp; omega, ?_⟩
  have e : ∀ k : Nat, rngD 0 k = (List.range k).map fun p : Nat => D.int p := fun k => by
    unfold rngD
    rw [show ((k : Int) - 0).toNat = k by omega]
    refine List.map_congr_left fun p _ => ?_
    rw [Int.zero_add]
  have nc : ∀ k : Nat, (D.lst ((List.range k).map fun p : Nat => D.int p)).noC = true := fun k => by
    show noCs _ = true
    induction List.range k with
    | nil => rfl
    | cons a l ih => exact ih
  have hm : (if ((if (ns.length : Int) < 6 then (ns.length : Int) else 6)) > 1 then (if (ns.length : Int) < 6 then (ns.length : Int) else 6) else 1) = ((max 1 (min 6 ns.length) : Nat) : Int) := by
    split <;> split <;> omega
  have h0 : F0__law_cells [.scr ns, .int 6] [] = some (.lst ((List.range (max 1 (min 6 ns.length))).map fun p : Nat => D.int p), []) := by
    have hk : ((max 1 (min 6 ns.length) : Nat) : Int) ≤ 100000 := by omega
    have h0 : (0 : Int) ≤ ((max 1 (min 6 ns.length) : Nat) : Int) := by omega
    generalize max 1 (min 6 ns.length) = k at *
    unfold F0__law_cells runF B__law_cells
    show ((fRet _ _).bind _) = _
    have e1 : (fCall dMax2 (fCons (fC (.int 1)) (fCons (fCall dMin2 (fCons (fVar 1) (fCons (fCall dLen (fCons (fVar 0) fNil)) fNil))) fNil))) (⟨startE 2 [.scr ns, .int 6], []⟩ : S) = some (.int (k : Int), ⟨startE 2 [.scr ns, .int 6], []⟩) := by
      rw [← hm]
      rfl
    have e2 : fLrg (fCall dMax2 (fCons (fC (.int 1)) (fCons (fCall dMin2 (fCons (fVar 1) (fCons (fCall dLen (fCons (fVar 0) fNil)) fNil))) fNil))) (⟨startE 2 [.scr ns, .int 6], []⟩ : S) = some (rngD 0 k, ⟨startE 2 [.scr ns, .int 6], []⟩) := by
      unfold fLrg
      rw [e1]
      show (if _ then _ else _) = _
      rw [if_pos ⟨h0, hk⟩]
    unfold fRet fFz
    rw [e2, e k]
    rfl
  show (pureOf F0__law_cells) _ = _
  unfold pureOf
  rw [if_pos (by rfl), h0]
  show (if _ then _ else _) = _
  rw [if_pos (nc _)]
theorem law_ok (ns : List Int) : ∃ cs', F_law [.scr ns] [] = some (.bl true, cs') := by
  obtain ⟨ps, hp, e1⟩ := cells_ok ns
  obtain ⟨s', e2⟩ := law_go ns ps hp none none []
  refine ⟨s'.cs, ?_⟩
  have e3 : (fItL (fFn (liftP P__law_cells) (fCons (fVar 0) (fCons (fC (.int 6)) fNil)))) (⟨startE 4 [.scr ns], []⟩ : S) = some (ps.map fun p : Nat => D.int p, ⟨startE 4 [.scr ns], []⟩) := by
    simp [fItL, fFn, liftP, fCons, fNil, fVar, fC, startE, e1]
  have e4 : B_law ⟨startE 4 [.scr ns], []⟩ = some (.rt (.bl true) s') := by
    have e5 : fFor (fItL (fFn (liftP P__law_cells) (fCons (fVar 0) (fCons (fC (.int 6)) fNil)))) (gNm 1) (fSeq (fSet 2 (fCell (fFnO F__law_pot (fCons (fVar 0) (fCons (fVar 1) fNil))))) (fIfS (fNot (fTst (fCall dAll (fCons (fFz (fLc [3] (fRg1 (fCons (fC (.int 3)) fNil)) (gNm 3) fYes (fFn F__law_right (fCons (fVar 2) fNil)))) fNil)))) (fRet (fC (.bl false))) fPass)) (⟨startE 4 [.scr ns], []⟩ : S) = some (.nx s') := by
      unfold fFor
      rw [e3]
      exact e2
    show ((fFor _ _ _ _).bind _) = _
    rw [e5]
    rfl
  show ((B_law ⟨startE 4 [.scr ns], []⟩).bind _) = _
  rw [e4]
  rfl
end PL
end

section
namespace PL
open PySem PySem.Spec PyProof.Rows L2 Ev
section
variable {P : Program} {w : World} {K : PySem.W.Frag} {mg : Str → Option Value} {base : Heap}
/-- what the law promises: True, whatever the script -/
def spLaw (K : PySem.W.Frag) : Sp := fun vs H Q _ => ∃ (a : Addr) (ns : List Int), vs = [.ref a] ∧ SqL K H a (ns.map V.int) ∧ ns.length ≤ 63 ∧ ∀ H', Q (.bl true) H'
theorem ok_lawE (T : Txt K mg) : FnOk P w K mg base CX0 11 T.d_law.f T.d_law.fd ["_law_script"] (spLaw K) := by
  refine (ok_law T).imp fun vs H Q E h => ?_
  obtain ⟨a, ns, rfl, hS, hl, k⟩ := h
  obtain ⟨cs', e⟩ := law_ok ns
  refine ⟨H, [], [.scr ns], [], .bl true, cs', rfl, fun _ _ e => e, ?_, ?_, e, ?_⟩
  · exact ⟨fun _ _ e _ => e, List.nodup_nil, rfl, fun i a ds e => by cases e⟩
  · exact .cons (.scr hS) .nil
  · exact fun v G' ρ' H' _ _ _ r => by cases r; exact k H'
end
theorem NoAttrs.nil {K : PySem.W.Frag} {C : Addr} : NoAttrs K C [] := fun _ _ h => by cases h
theorem NoAttrs.cons {K : PySem.W.Frag} {C : Addr} {x : Str} {l : List Str} (h : PySem.W.findIn K (.ref C) x = some none) (r : NoAttrs K C l) : NoAttrs K C (x :: l) := fun i y e => by
  cases i with
  | zero => cases e; exact h
  | succ i => exact r i y e
theorem bi_is_integer {K : PySem.W.Frag} {f : Addr} {fd : FuncData} (F : Fun K "is_integer" "is_integer" s_is_integer f fd) : Binds K fd ["value"] [] := F.binds (ps := ["value"]) fun _ _ _ _ _ _ us hl => match us, hl with | [_], _ => rfl
theorem bi_is_between {K : PySem.W.Frag} {f : Addr} {fd : FuncData} (F : Fun K "is_between" "is_between" s_is_between f fd) : Binds K fd ["value", "low", "high"] [] := F.binds (ps := ["value", "low", "high"]) fun _ _ _ _ _ _ us hl => match us, hl with | [_, _, _], _ => rfl
theorem bi_is_tuple {K : PySem.W.Frag} {f : Addr} {fd : FuncData} (F : Fun K "is_tuple" "is_tuple" s_is_tuple f fd) : Binds K fd ["value", "least", "most"] [] := F.binds (ps := ["value", "least", "most"]) fun _ _ _ _ _ _ us hl => match us, hl with | [_, _, _], _ => rfl
theorem bi_is_name {K : PySem.W.Frag} {f : Addr} {fd : FuncData} (F : Fun K "is_name" "is_name" s_is_name f fd) : Binds K fd ["value"] [] := F.binds (ps := ["value"]) fun _ _ _ _ _ _ us hl => match us, hl with | [_], _ => rfl
theorem bi_do_ascend {K : PySem.W.Frag} {f : Addr} {fd : FuncData} (F : Fun K "do_ascend" "do_ascend" s_do_ascend f fd) : Binds K fd ["values"] [] := F.binds (ps := ["values"]) fun _ _ _ _ _ _ us hl => match us, hl with | [_], _ => rfl
theorem bi_number_in {K : PySem.W.Frag} {f : Addr} {fd : FuncData} (F : Fun K "number_in" "number_in" s_number_in f fd) : Binds K fd ["word"] [] := F.binds (ps := ["word"]) fun _ _ _ _ _ _ us hl => match us, hl with | [_], _ => rfl
theorem bi_common_multiple {K : PySem.W.Frag} {f : Addr} {fd : FuncData} (F : Fun K "common_multiple" "common_multiple" s_common_multiple f fd) : Binds K fd ["one", "other"] [] := F.binds (ps := ["one", "other"]) fun _ _ _ _ _ _ us hl => match us, hl with | [_, _], _ => rfl
theorem bi_LoopD_initD {K : PySem.W.Frag} {f : Addr} {fd : FuncData} (F : Fun K "__init__" "Loop.__init__" s_LoopD_initD f fd) : Binds K fd ["self", "name", "length", "span", "then"] [] := F.binds (ps := ["self", "name", "length", "span", "then"]) fun _ _ _ _ _ _ us hl => match us, hl with | [_, _, _, _, _], _ => rfl
theorem bi_Loop_begun {K : PySem.W.Frag} {f : Addr} {fd : FuncData} (F : Fun K "begun" "Loop.begun" s_Loop_begun f fd) : Binds K fd ["self"] [] := F.binds (ps := ["self"]) fun _ _ _ _ _ _ us hl => match us, hl with | [_], _ => rfl
theorem bi_TrackD_initD {K : PySem.W.Frag} {f : Addr} {fd : FuncData} (F : Fun K "__init__" "Track.__init__" s_TrackD_initD f fd) : Binds K fd ["self", "name"] [] := F.binds (ps := ["self", "name"]) fun _ _ _ _ _ _ us hl => match us, hl with | [_, _], _ => rfl
theorem bi_ButtonD_initD {K : PySem.W.Frag} {f : Addr} {fd : FuncData} (F : Fun K "__init__" "Button.__init__" s_ButtonD_initD f fd) : Binds K fd ["self", "name", "quantum"] [] := F.binds (ps := ["self", "name", "quantum"]) fun _ _ _ _ _ _ us hl => match us, hl with | [_, _, _], _ => rfl
theorem bi_words_in {K : PySem.W.Frag} {f : Addr} {fd : FuncData} (F : Fun K "words_in" "words_in" s_words_in f fd) : Binds K fd ["line", "depth"] [] := F.binds (ps := ["line", "depth"]) fun _ _ _ _ _ _ us hl => match us, hl with | [_, _], _ => rfl
theorem bi_ReaderD_initD {K : PySem.W.Frag} {f : Addr} {fd : FuncData} (F : Fun K "__init__" "Reader.__init__" s_ReaderD_initD f fd) : Binds K fd ["self", "lines"] [] := F.binds (ps := ["self", "lines"]) fun _ _ _ _ _ _ us hl => match us, hl with | [_, _], _ => rfl
theorem bi_Reader_want {K : PySem.W.Frag} {f : Addr} {fd : FuncData} (F : Fun K "want" "Reader.want" s_Reader_want f fd) : Binds K fd ["self", "is_right"] [] := F.binds (ps := ["self", "is_right"]) fun _ _ _ _ _ _ us hl => match us, hl with | [_, _], _ => rfl
theorem bi_Reader_row {K : PySem.W.Frag} {f : Addr} {fd : FuncData} (F : Fun K "row" "Reader.row" s_Reader_row f fd) : Binds K fd ["self", "depth"] [] := F.binds (ps := ["self", "depth"]) fun _ _ _ _ _ _ us hl => match us, hl with | [_, _], _ => rfl
theorem bi_Reader_headed {K : PySem.W.Frag} {f : Addr} {fd : FuncData} (F : Fun K "headed" "Reader.headed" s_Reader_headed f fd) : Binds K fd ["self", "depth", "head"] [] := F.binds (ps := ["self", "depth", "head"]) fun _ _ _ _ _ _ us hl => match us, hl with | [_, _, _], _ => rfl
theorem bi_Reader_is_deed {K : PySem.W.Frag} {f : Addr} {fd : FuncData} (F : Fun K "is_deed" "Reader.is_deed" s_Reader_is_deed f fd) : Binds K fd ["self", "row"] [] := F.binds (ps := ["self", "row"]) fun _ _ _ _ _ _ us hl => match us, hl with | [_, _], _ => rfl
theorem bi_Reader_loop_in {K : PySem.W.Frag} {f : Addr} {fd : FuncData} (F : Fun K "loop_in" "Reader.loop_in" s_Reader_loop_in f fd) : Binds K fd ["self", "row"] [] := F.binds (ps := ["self", "row"]) fun _ _ _ _ _ _ us hl => match us, hl with | [_, _], _ => rfl
theorem bi_Reader_read_loop {K : PySem.W.Frag} {f : Addr} {fd : FuncData} (F : Fun K "read_loop" "Reader.read_loop" s_Reader_read_loop f fd) : Binds K fd ["self", "row", "track"] [] := F.binds (ps := ["self", "row", "track"]) fun _ _ _ _ _ _ us hl => match us, hl with | [_, _, _], _ => rfl
theorem bi_Reader_read_track {K : PySem.W.Frag} {f : Addr} {fd : FuncData} (F : Fun K "read_track" "Reader.read_track" s_Reader_read_track f fd) : Binds K fd ["self", "row"] [] := F.binds (ps := ["self", "row"]) fun _ _ _ _ _ _ us hl => match us, hl with | [_, _], _ => rfl
theorem bi_Reader_read_button {K : PySem.W.Frag} {f : Addr} {fd : FuncData} (F : Fun K "read_button" "Reader.read_button" s_Reader_read_button f fd) : Binds K fd ["self", "row"] [] := F.binds (ps := ["self", "row"]) fun _ _ _ _ _ _ us hl => match us, hl with | [_, _], _ => rfl
theorem bi_Reader_read {K : PySem.W.Frag} {f : Addr} {fd : FuncData} (F : Fun K "read" "Reader.read" s_Reader_read f fd) : Binds K fd ["self"] [] := F.binds (ps := ["self"]) fun _ _ _ _ _ _ us hl => match us, hl with | [_], _ => rfl
theorem bi_followed {K : PySem.W.Frag} {f : Addr} {fd : FuncData} (F : Fun K "followed" "followed" s_followed f fd) : Binds K fd ["track", "standing"] [] := F.binds (ps := ["track", "standing"]) fun _ _ _ _ _ _ us hl => match us, hl with | [_, _], _ => rfl
theorem bi_begun_by {K : PySem.W.Frag} {f : Addr} {fd : FuncData} (F : Fun K "begun_by" "begun_by" s_begun_by f fd) : Binds K fd ["button", "track", "come"] [] := F.binds (ps := ["button", "track", "come"]) fun _ _ _ _ _ _ us hl => match us, hl with | [_, _, _], _ => rfl
theorem bi_all_followed {K : PySem.W.Frag} {f : Addr} {fd : FuncData} (F : Fun K "all_followed" "all_followed" s_all_followed f fd) : Binds K fd ["tracks", "standings"] [] := F.binds (ps := ["tracks", "standings"]) fun _ _ _ _ _ _ us hl => match us, hl with | [_, _], _ => rfl
theorem bi_all_begun {K : PySem.W.Frag} {f : Addr} {fd : FuncData} (F : Fun K "all_begun" "all_begun" s_all_begun f fd) : Binds K fd ["button", "tracks", "come"] [] := F.binds (ps := ["button", "tracks", "come"]) fun _ _ _ _ _ _ us hl => match us, hl with | [_, _, _], _ => rfl
theorem bi_sounds_of {K : PySem.W.Frag} {f : Addr} {fd : FuncData} (F : Fun K "sounds_of" "sounds_of" s_sounds_of f fd) : Binds K fd ["track", "standing"] [] := F.binds (ps := ["track", "standing"]) fun _ _ _ _ _ _ us hl => match us, hl with | [_, _], _ => rfl
theorem bi_strikes_of {K : PySem.W.Frag} {f : Addr} {fd : FuncData} (F : Fun K "strikes_of" "strikes_of" s_strikes_of f fd) : Binds K fd ["tracks", "standings"] [] := F.binds (ps := ["tracks", "standings"]) fun _ _ _ _ _ _ us hl => match us, hl with | [_, _], _ => rfl
theorem bi_BoardD_initD {K : PySem.W.Frag} {f : Addr} {fd : FuncData} (F : Fun K "__init__" "Board.__init__" s_BoardD_initD f fd) : Binds K fd ["self", "text"] [] := F.binds (ps := ["self", "text"]) fun _ _ _ _ _ _ us hl => match us, hl with | [_, _], _ => rfl
theorem bi_BoardD_containsD {K : PySem.W.Frag} {f : Addr} {fd : FuncData} (F : Fun K "__contains__" "Board.__contains__" s_BoardD_containsD f fd) : Binds K fd ["self", "value"] [] := F.binds (ps := ["self", "value"]) fun _ _ _ _ _ _ us hl => match us, hl with | [_, _], _ => rfl
theorem bi_are_presses {K : PySem.W.Frag} {f : Addr} {fd : FuncData} (F : Fun K "are_presses" "are_presses" s_are_presses f fd) : Binds K fd ["board", "value"] [] := F.binds (ps := ["board", "value"]) fun _ _ _ _ _ _ us hl => match us, hl with | [_, _], _ => rfl
theorem bi_check_presses {K : PySem.W.Frag} {f : Addr} {fd : FuncData} (F : Fun K "check_presses" "check_presses" s_check_presses f fd) : Binds K fd ["board", "value"] [] := F.binds (ps := ["board", "value"]) fun _ _ _ _ _ _ us hl => match us, hl with | [_, _], _ => rfl
theorem bi_check_step {K : PySem.W.Frag} {f : Addr} {fd : FuncData} (F : Fun K "check_step" "check_step" s_check_step f fd) : Binds K fd ["value", "low", "high"] [] := F.binds (ps := ["value", "low", "high"]) fun _ _ _ _ _ _ us hl => match us, hl with | [_, _, _], _ => rfl
theorem bi_begin_of {K : PySem.W.Frag} {f : Addr} {fd : FuncData} (F : Fun K "begin_of" "begin_of" s_begin_of f fd) : Binds K fd ["board", "press"] [] := F.binds (ps := ["board", "press"]) fun _ _ _ _ _ _ us hl => match us, hl with | [_, _], _ => rfl
theorem bi_all_begins {K : PySem.W.Frag} {f : Addr} {fd : FuncData} (F : Fun K "all_begins" "all_begins" s_all_begins f fd) : Binds K fd ["board", "presses"] [] := F.binds (ps := ["board", "presses"]) fun _ _ _ _ _ _ us hl => match us, hl with | [_, _], _ => rfl
theorem bi_begun {K : PySem.W.Frag} {f : Addr} {fd : FuncData} (F : Fun K "begun" "begun" s_begun f fd) : Binds K fd ["board", "presses"] [] := F.binds (ps := ["board", "presses"]) fun _ _ _ _ _ _ us hl => match us, hl with | [_, _], _ => rfl
theorem bi_PlayerD_initD {K : PySem.W.Frag} {f : Addr} {fd : FuncData} (F : Fun K "__init__" "Player.__init__" s_PlayerD_initD f fd) : Binds K fd ["self", "board", "begins"] [] := F.binds (ps := ["self", "board", "begins"]) fun _ _ _ _ _ _ us hl => match us, hl with | [_, _, _], _ => rfl
theorem bi_Player_move {K : PySem.W.Frag} {f : Addr} {fd : FuncData} (F : Fun K "move" "Player.move" s_Player_move f fd) : Binds K fd ["self"] [] := F.binds (ps := ["self"]) fun _ _ _ _ _ _ us hl => match us, hl with | [_], _ => rfl
theorem bi_Player_sounding {K : PySem.W.Frag} {f : Addr} {fd : FuncData} (F : Fun K "sounding" "Player.sounding" s_Player_sounding f fd) : Binds K fd ["self"] [] := F.binds (ps := ["self"]) fun _ _ _ _ _ _ us hl => match us, hl with | [_], _ => rfl
theorem bi_played_to {K : PySem.W.Frag} {f : Addr} {fd : FuncData} (F : Fun K "played_to" "played_to" s_played_to f fd) : Binds K fd ["board", "presses", "step"] [] := F.binds (ps := ["board", "presses", "step"]) fun _ _ _ _ _ _ us hl => match us, hl with | [_, _, _], _ => rfl
theorem bi_stands {K : PySem.W.Frag} {f : Addr} {fd : FuncData} (F : Fun K "stands" "stands" s_stands f fd) : Binds K fd ["board", "presses", "step"] [] := F.binds (ps := ["board", "presses", "step"]) fun _ _ _ _ _ _ us hl => match us, hl with | [_, _, _], _ => rfl
theorem bi_waits {K : PySem.W.Frag} {f : Addr} {fd : FuncData} (F : Fun K "waits" "waits" s_waits f fd) : Binds K fd ["board", "presses", "step"] [] := F.binds (ps := ["board", "presses", "step"]) fun _ _ _ _ _ _ us hl => match us, hl with | [_, _, _], _ => rfl
theorem bi_heard {K : PySem.W.Frag} {f : Addr} {fd : FuncData} (F : Fun K "heard" "heard" s_heard f fd) : Binds K fd ["board", "presses", "first", "steps"] [] := F.binds (ps := ["board", "presses", "first", "steps"]) fun _ _ _ _ _ _ us hl => match us, hl with | [_, _, _, _], _ => rfl
theorem bi__law_pot {K : PySem.W.Frag} {f : Addr} {fd : FuncData} (F : Fun K "_law_pot" "_law_pot" s__law_pot f fd) : Binds K fd ["_law_script", "_law_place"] [] := F.binds (ps := ["_law_script", "_law_place"]) fun _ _ _ _ _ _ us hl => match us, hl with | [_, _], _ => rfl
theorem bi__law_take {K : PySem.W.Frag} {f : Addr} {fd : FuncData} (F : Fun K "_law_take" "_law_take" s__law_take f fd) : Binds K fd ["_law_pot_here", "_law_upto"] [] := F.binds (ps := ["_law_pot_here", "_law_upto"]) fun _ _ _ _ _ _ us hl => match us, hl with | [_, _], _ => rfl
theorem bi__law_cells {K : PySem.W.Frag} {f : Addr} {fd : FuncData} (F : Fun K "_law_cells" "_law_cells" s__law_cells f fd) : Binds K fd ["_law_script", "_law_limit"] [] := F.binds (ps := ["_law_script", "_law_limit"]) fun _ _ _ _ _ _ us hl => match us, hl with | [_, _], _ => rfl
theorem bi__law_board {K : PySem.W.Frag} {f : Addr} {fd : FuncData} (F : Fun K "_law_board" "_law_board" s__law_board f fd) : Binds K fd ["_law_quantum"] [] := F.binds (ps := ["_law_quantum"]) fun _ _ _ _ _ _ us hl => match us, hl with | [_], _ => rfl
theorem bi__law_right {K : PySem.W.Frag} {f : Addr} {fd : FuncData} (F : Fun K "_law_right" "_law_right" s__law_right f fd) : Binds K fd ["_law_pot_here"] [] := F.binds (ps := ["_law_pot_here"]) fun _ _ _ _ _ _ us hl => match us, hl with | [_], _ => rfl
theorem bi_law {K : PySem.W.Frag} {f : Addr} {fd : FuncData} (F : Fun K "law" "law" s_law f fd) : Binds K fd ["_law_script"] [] := F.binds (ps := ["_law_script"]) fun _ _ _ _ _ _ us hl => match us, hl with | [_], _ => rfl
theorem all_mk {l : PySem.W.OpenLaw} {w : World} {K : PySem.W.Frag} {h : Heap} {mg : Str → Option Value} {fa C0 C1 C2 C3 C4 C5 f0 f1 f2 f3 f4 f5 f6 f7 f8 f9 f10 f11 f12 f13 f14 f15 f16 f17 f18 f19 f20 f21 f22 f23 f24 f25 f26 f27 f28 f29 f30 f31 f32 f33 f34 f35 f36 f37 f38 f39 f40 f41 f42 f43 f44 f45 f46 f47 f48 : Addr} (X : K.In h) (G : h.Ns mainGlobals mg) (hfa : mg "law" = some (.ref fa))
    {od0 od1 od2 od3 od4 od5 od6 od7 od8 od9 od10 od11 od12 od13 od14 od15 od16 od17 od18 od19 od20 od21 od22 od23 od24 od25 od26 od27 od28 od29 od30 od31 od32 od33 od34 od35 od36 od37 od38 od39 od40 od41 od42 od43 od44 od45 od46 od47 od48 an0 an1 an2 an3 an4 an5 an6 an7 an8 an9 an10 an11 an12 an13 an14 an15 an16 an17 an18 an19 an20 an21 an22 an23 an24 an25 an26 an27 an28 an29 an30 an31 an32 an33 an34 an35 an36 an37 an38 an39 an40 an41 an42 an43 an44 an45 an46 an47 an48 : Option Addr} {sl0 sl1 sl2 sl3 sl4 sl5 sl6 sl7 sl8 sl9 sl10 sl11 sl12 sl13 sl14 sl15 sl16 sl17 sl18 sl19 sl20 sl21 sl22 sl23 sl24 sl25 sl26 sl27 sl28 sl29 sl30 sl31 sl32 sl33 sl34 sl35 sl36 sl37 sl38 sl39 sl40 sl41 sl42 sl43 sl44 sl45 sl46 sl47 sl48 : Array (Option Value)} {oc0 oc1 oc2 oc3 oc4 oc5 oc6 oc7 oc8 oc9 oc10 oc11 oc12 oc13 oc14 oc15 oc16 oc17 oc18 oc19 oc20 oc21 oc22 oc23 oc24 oc25 oc26 oc27 oc28 oc29 oc30 oc31 oc32 oc33 oc34 oc35 oc36 oc37 oc38 oc39 oc40 oc41 oc42 oc43 oc44 oc45 oc46 oc47 oc48 kV0 kV1 kV2 kV3 kV4 kV5 kV6 kV7 kV8 kV9 kV10 kV11 kV12 kV13 kV14 kV15 kV16 kV17 kV18 kV19 kV20 kV21 kV22 kV23 kV24 kV25 kV26 kV27 kV28 kV29 kV30 kV31 kV32 kV33 kV34 kV35 kV36 kV37 kV38 kV39 kV40 kV41 kV42 kV43 kV44 kV45 kV46 kV47 kV48 dc0 dc1 dc2 dc3 dc4 dc5 dc6 dc7 dc8 dc9 dc10 dc11 dc12 dc13 dc14 dc15 dc16 dc17 dc18 dc19 dc20 dc21 dc22 dc23 dc24 dc25 dc26 dc27 dc28 dc29 dc30 dc31 dc32 dc33 dc34 dc35 dc36 dc37 dc38 dc39 dc40 dc41 dc42 dc43 dc44 dc45 dc46 dc47 dc48 pm0 pm1 pm2 pm3 pm4 pm5 pm6 pm7 pm8 pm9 pm10 pm11 pm12 pm13 pm14 pm15 pm16 pm17 pm18 pm19 pm20 pm21 pm22 pm23 pm24 pm25 pm26 pm27 pm28 pm29 pm30 pm31 pm32 pm33 pm34 pm35 pm36 pm37 pm38 pm39 pm40 pm41 pm42 pm43 pm44 pm45 pm46 pm47 pm48 cd0 cd1 cd2 cd3 cd4 cd5 cd6 cd7 cd8 cd9 cd10 cd11 cd12 cd13 cd14 cd15 cd16 cd17 cd18 cd19 cd20 cd21 cd22 cd23 cd24 cd25 cd26 cd27 cd28 cd29 cd30 cd31 cd32 cd33 cd34 cd35 cd36 cd37 cd38 cd39 cd40 cd41 cd42 cd43 cd44 cd45 cd46 cd47 cd48 ct0 ct1 ct2 ct3 ct4 ct5 ct6 ct7 ct8 ct9 ct10 ct11 ct12 ct13 ct14 ct15 ct16 ct17 ct18 ct19 ct20 ct21 ct22 ct23 ct24 ct25 ct26 ct27 ct28 ct29 ct30 ct31 ct32 ct33 ct34 ct35 ct36 ct37 ct38 ct39 ct40 ct41 ct42 ct43 ct44 ct45 ct46 ct47 ct48 : Value} {u0 u1 u2 u3 u4 u5 u6 u7 u8 u9 u10 u11 u12 u13 u14 u15 u16 u17 u18 u19 u20 u21 u22 u23 u24 u25 u26 : Tok}
    (aC0 : PySem.W.nsIn K mainGlobals "Loop" = some (some (.ref C0)))
    (pg0 : PySem.W.plainGet K C0 Str.empty = true)
    (hd0 : PySem.W.hasDictIn K C0 = true)
    (po0 : PySem.W.plainOver K C0 = true)
    (sa0 : PySem.W.findIn K (.ref C0) "__setattr__" = some (some (.builtin "object.__setattr__")))
    (mk0 : PySem.W.makesIn K C0 = true)
    (kc0 : PySem.W.keepIn K (.ref C0) = true)
    (n0_0 : PySem.W.findIn K (.ref C0) "name" = some none)
    (n0_1 : PySem.W.findIn K (.ref C0) "length" = some none)
    (n0_2 : PySem.W.findIn K (.ref C0) "span" = some none)
    (n0_3 : PySem.W.findIn K (.ref C0) "then" = some none)
    (n0_4 : PySem.W.findIn K (.ref C0) "places" = some none)
    (aC1 : PySem.W.nsIn K mainGlobals "Track" = some (some (.ref C1)))
    (pg1 : PySem.W.plainGet K C1 Str.empty = true)
    (hd1 : PySem.W.hasDictIn K C1 = true)
    (po1 : PySem.W.plainOver K C1 = true)
    (sa1 : PySem.W.findIn K (.ref C1) "__setattr__" = some (some (.builtin "object.__setattr__")))
    (mk1 : PySem.W.makesIn K C1 = true)
    (kc1 : PySem.W.keepIn K (.ref C1) = true)
    (n1_0 : PySem.W.findIn K (.ref C1) "name" = some none)
    (n1_1 : PySem.W.findIn K (.ref C1) "own_loops" = some none)
    (aC2 : PySem.W.nsIn K mainGlobals "Button" = some (some (.ref C2)))
    (pg2 : PySem.W.plainGet K C2 Str.empty = true)
    (hd2 : PySem.W.hasDictIn K C2 = true)
    (po2 : PySem.W.plainOver K C2 = true)
    (sa2 : PySem.W.findIn K (.ref C2) "__setattr__" = some (some (.builtin "object.__setattr__")))
    (mk2 : PySem.W.makesIn K C2 = true)
    (kc2 : PySem.W.keepIn K (.ref C2) = true)
    (n2_0 : PySem.W.findIn K (.ref C2) "name" = some none)
    (n2_1 : PySem.W.findIn K (.ref C2) "quantum" = some none)
    (n2_2 : PySem.W.findIn K (.ref C2) "deeds" = some none)
    (aC3 : PySem.W.nsIn K mainGlobals "Reader" = some (some (.ref C3)))
    (pg3 : PySem.W.plainGet K C3 Str.empty = true)
    (hd3 : PySem.W.hasDictIn K C3 = true)
    (po3 : PySem.W.plainOver K C3 = true)
    (sa3 : PySem.W.findIn K (.ref C3) "__setattr__" = some (some (.builtin "object.__setattr__")))
    (mk3 : PySem.W.makesIn K C3 = true)
    (kc3 : PySem.W.keepIn K (.ref C3) = true)
    (n3_0 : PySem.W.findIn K (.ref C3) "own_lines" = some none)
    (n3_1 : PySem.W.findIn K (.ref C3) "at" = some none)
    (n3_2 : PySem.W.findIn K (.ref C3) "own_tracks" = some none)
    (n3_3 : PySem.W.findIn K (.ref C3) "own_buttons" = some none)
    (n3_4 : PySem.W.findIn K (.ref C3) "own_bar" = some none)
    (n3_5 : PySem.W.findIn K (.ref C3) "later" = some none)
    (aC4 : PySem.W.nsIn K mainGlobals "Board" = some (some (.ref C4)))
    (pg4 : PySem.W.plainGet K C4 Str.empty = true)
    (hd4 : PySem.W.hasDictIn K C4 = true)
    (po4 : PySem.W.plainOver K C4 = true)
    (sa4 : PySem.W.findIn K (.ref C4) "__setattr__" = some (some (.builtin "object.__setattr__")))
    (mk4 : PySem.W.makesIn K C4 = true)
    (kc4 : PySem.W.keepIn K (.ref C4) = true)
    (n4_0 : PySem.W.findIn K (.ref C4) "own_text" = some none)
    (n4_1 : PySem.W.findIn K (.ref C4) "own_tracks" = some none)
    (n4_2 : PySem.W.findIn K (.ref C4) "own_buttons" = some none)
    (n4_3 : PySem.W.findIn K (.ref C4) "own_bar" = some none)
    (aC5 : PySem.W.nsIn K mainGlobals "Player" = some (some (.ref C5)))
    (pg5 : PySem.W.plainGet K C5 Str.empty = true)
    (hd5 : PySem.W.hasDictIn K C5 = true)
    (po5 : PySem.W.plainOver K C5 = true)
    (sa5 : PySem.W.findIn K (.ref C5) "__setattr__" = some (some (.builtin "object.__setattr__")))
    (mk5 : PySem.W.makesIn K C5 = true)
    (kc5 : PySem.W.keepIn K (.ref C5) = true)
    (n5_0 : PySem.W.findIn K (.ref C5) "own_tracks" = some none)
    (n5_1 : PySem.W.findIn K (.ref C5) "own_buttons" = some none)
    (n5_2 : PySem.W.findIn K (.ref C5) "begins" = some none)
    (n5_3 : PySem.W.findIn K (.ref C5) "own_step" = some none)
    (n5_4 : PySem.W.findIn K (.ref C5) "own_standings" = some none)
    (a0 : PySem.W.nsIn K mainGlobals "is_integer" = some (some (.ref f0)))
    (l0 : K.lookup f0 = some ⟨oc0, od0, .func (PySem.W.fnOf "is_integer" "is_integer" (defArgs s_is_integer) (defBody s_is_integer) (defScope s_is_integer) .none kV0 dc0 pm0 an0 cd0 ct0), sl0⟩)
    (c0 : PySem.W.codeIn K cd0 "is_integer" = true)
    (k0 : PySem.W.keepIn K (.ref f0) = true)
    (a1 : PySem.W.nsIn K mainGlobals "is_between" = some (some (.ref f1)))
    (l1 : K.lookup f1 = some ⟨oc1, od1, .func (PySem.W.fnOf "is_between" "is_between" (defArgs s_is_between) (defBody s_is_between) (defScope s_is_between) .none kV1 dc1 pm1 an1 cd1 ct1), sl1⟩)
    (c1 : PySem.W.codeIn K cd1 "is_between" = true)
    (k1 : PySem.W.keepIn K (.ref f1) = true)
    (a2 : PySem.W.nsIn K mainGlobals "is_tuple" = some (some (.ref f2)))
    (l2 : K.lookup f2 = some ⟨oc2, od2, .func (PySem.W.fnOf "is_tuple" "is_tuple" (defArgs s_is_tuple) (defBody s_is_tuple) (defScope s_is_tuple) .none kV2 dc2 pm2 an2 cd2 ct2), sl2⟩)
    (c2 : PySem.W.codeIn K cd2 "is_tuple" = true)
    (k2 : PySem.W.keepIn K (.ref f2) = true)
    (a3 : PySem.W.nsIn K mainGlobals "is_name" = some (some (.ref f3)))
    (l3 : K.lookup f3 = some ⟨oc3, od3, .func (PySem.W.fnOf "is_name" "is_name" (defArgs s_is_name) (defBody s_is_name) (defScope s_is_name) .none kV3 dc3 pm3 an3 cd3 ct3), sl3⟩)
    (c3 : PySem.W.codeIn K cd3 "is_name" = true)
    (k3 : PySem.W.keepIn K (.ref f3) = true)
    (a4 : PySem.W.nsIn K mainGlobals "do_ascend" = some (some (.ref f4)))
    (l4 : K.lookup f4 = some ⟨oc4, od4, .func (PySem.W.fnOf "do_ascend" "do_ascend" (defArgs s_do_ascend) (defBody s_do_ascend) (defScope s_do_ascend) .none kV4 dc4 pm4 an4 cd4 ct4), sl4⟩)
    (c4 : PySem.W.codeIn K cd4 "do_ascend" = true)
    (k4 : PySem.W.keepIn K (.ref f4) = true)
    (a5 : PySem.W.nsIn K mainGlobals "number_in" = some (some (.ref f5)))
    (l5 : K.lookup f5 = some ⟨oc5, od5, .func (PySem.W.fnOf "number_in" "number_in" (defArgs s_number_in) (defBody s_number_in) (defScope s_number_in) .none kV5 dc5 pm5 an5 cd5 ct5), sl5⟩)
    (c5 : PySem.W.codeIn K cd5 "number_in" = true)
    (k5 : PySem.W.keepIn K (.ref f5) = true)
    (a6 : PySem.W.nsIn K mainGlobals "common_multiple" = some (some (.ref f6)))
    (l6 : K.lookup f6 = some ⟨oc6, od6, .func (PySem.W.fnOf "common_multiple" "common_multiple" (defArgs s_common_multiple) (defBody s_common_multiple) (defScope s_common_multiple) .none kV6 dc6 pm6 an6 cd6 ct6), sl6⟩)
    (c6 : PySem.W.codeIn K cd6 "common_multiple" = true)
    (k6 : PySem.W.keepIn K (.ref f6) = true)
    (a7 : PySem.W.findIn K (.ref C0) "__init__" = some (some (.ref f7)))
    (i7 : PySem.W.isFn K (.ref f7) = true)
    (l7 : K.lookup f7 = some ⟨oc7, od7, .func (PySem.W.fnOf "__init__" "Loop.__init__" (defArgs s_LoopD_initD) (defBody s_LoopD_initD) (defScope s_LoopD_initD) .none kV7 dc7 pm7 an7 cd7 ct7), sl7⟩)
    (c7 : PySem.W.codeIn K cd7 "Loop.__init__" = true)
    (k7 : PySem.W.keepIn K (.ref f7) = true)
    (a8 : PySem.W.findIn K (.ref C0) "begun" = some (some (.ref f8)))
    (i8 : PySem.W.isFn K (.ref f8) = true)
    (l8 : K.lookup f8 = some ⟨oc8, od8, .func (PySem.W.fnOf "begun" "Loop.begun" (defArgs s_Loop_begun) (defBody s_Loop_begun) (defScope s_Loop_begun) .none kV8 dc8 pm8 an8 cd8 ct8), sl8⟩)
    (c8 : PySem.W.codeIn K cd8 "Loop.begun" = true)
    (k8 : PySem.W.keepIn K (.ref f8) = true)
    (a9 : PySem.W.findIn K (.ref C1) "__init__" = some (some (.ref f9)))
    (i9 : PySem.W.isFn K (.ref f9) = true)
    (l9 : K.lookup f9 = some ⟨oc9, od9, .func (PySem.W.fnOf "__init__" "Track.__init__" (defArgs s_TrackD_initD) (defBody s_TrackD_initD) (defScope s_TrackD_initD) .none kV9 dc9 pm9 an9 cd9 ct9), sl9⟩)
    (c9 : PySem.W.codeIn K cd9 "Track.__init__" = true)
    (k9 : PySem.W.keepIn K (.ref f9) = true)
    (a10 : PySem.W.findIn K (.ref C2) "__init__" = some (some (.ref f10)))
    (i10 : PySem.W.isFn K (.ref f10) = true)
    (l10 : K.lookup f10 = some ⟨oc10, od10, .func (PySem.W.fnOf "__init__" "Button.__init__" (defArgs s_ButtonD_initD) (defBody s_ButtonD_initD) (defScope s_ButtonD_initD) .none kV10 dc10 pm10 an10 cd10 ct10), sl10⟩)
    (c10 : PySem.W.codeIn K cd10 "Button.__init__" = true)
    (k10 : PySem.W.keepIn K (.ref f10) = true)
    (a11 : PySem.W.nsIn K mainGlobals "words_in" = some (some (.ref f11)))
    (l11 : K.lookup f11 = some ⟨oc11, od11, .func (PySem.W.fnOf "words_in" "words_in" (defArgs s_words_in) (defBody s_words_in) (defScope s_words_in) .none kV11 dc11 pm11 an11 cd11 ct11), sl11⟩)
    (c11 : PySem.W.codeIn K cd11 "words_in" = true)
    (k11 : PySem.W.keepIn K (.ref f11) = true)
    (a12 : PySem.W.findIn K (.ref C3) "__init__" = some (some (.ref f12)))
    (i12 : PySem.W.isFn K (.ref f12) = true)
    (l12 : K.lookup f12 = some ⟨oc12, od12, .func (PySem.W.fnOf "__init__" "Reader.__init__" (defArgs s_ReaderD_initD) (defBody s_ReaderD_initD) (defScope s_ReaderD_initD) .none kV12 dc12 pm12 an12 cd12 ct12), sl12⟩)
    (c12 : PySem.W.codeIn K cd12 "Reader.__init__" = true)
    (k12 : PySem.W.keepIn K (.ref f12) = true)
    (a13 : PySem.W.findIn K (.ref C3) "want" = some (some (.ref f13)))
    (i13 : PySem.W.isFn K (.ref f13) = true)
    (l13 : K.lookup f13 = some ⟨oc13, od13, .func (PySem.W.fnOf "want" "Reader.want" (defArgs s_Reader_want) (defBody s_Reader_want) (defScope s_Reader_want) .none kV13 dc13 pm13 an13 cd13 ct13), sl13⟩)
    (c13 : PySem.W.codeIn K cd13 "Reader.want" = true)
    (k13 : PySem.W.keepIn K (.ref f13) = true)
    (a14 : PySem.W.findIn K (.ref C3) "row" = some (some (.ref f14)))
    (i14 : PySem.W.isFn K (.ref f14) = true)
    (l14 : K.lookup f14 = some ⟨oc14, od14, .func (PySem.W.fnOf "row" "Reader.row" (defArgs s_Reader_row) (defBody s_Reader_row) (defScope s_Reader_row) .none kV14 dc14 pm14 an14 cd14 ct14), sl14⟩)
    (c14 : PySem.W.codeIn K cd14 "Reader.row" = true)
    (k14 : PySem.W.keepIn K (.ref f14) = true)
    (a15 : PySem.W.findIn K (.ref C3) "headed" = some (some (.ref f15)))
    (i15 : PySem.W.isFn K (.ref f15) = true)
    (l15 : K.lookup f15 = some ⟨oc15, od15, .func (PySem.W.fnOf "headed" "Reader.headed" (defArgs s_Reader_headed) (defBody s_Reader_headed) (defScope s_Reader_headed) .none kV15 dc15 pm15 an15 cd15 ct15), sl15⟩)
    (c15 : PySem.W.codeIn K cd15 "Reader.headed" = true)
    (k15 : PySem.W.keepIn K (.ref f15) = true)
    (a16 : PySem.W.findIn K (.ref C3) "is_deed" = some (some (.ref f16)))
    (i16 : PySem.W.isFn K (.ref f16) = true)
    (l16 : K.lookup f16 = some ⟨oc16, od16, .func (PySem.W.fnOf "is_deed" "Reader.is_deed" (defArgs s_Reader_is_deed) (defBody s_Reader_is_deed) (defScope s_Reader_is_deed) .none kV16 dc16 pm16 an16 cd16 ct16), sl16⟩)
    (c16 : PySem.W.codeIn K cd16 "Reader.is_deed" = true)
    (k16 : PySem.W.keepIn K (.ref f16) = true)
    (a17 : PySem.W.findIn K (.ref C3) "loop_in" = some (some (.ref f17)))
    (i17 : PySem.W.isFn K (.ref f17) = true)
    (l17 : K.lookup f17 = some ⟨oc17, od17, .func (PySem.W.fnOf "loop_in" "Reader.loop_in" (defArgs s_Reader_loop_in) (defBody s_Reader_loop_in) (defScope s_Reader_loop_in) .none kV17 dc17 pm17 an17 cd17 ct17), sl17⟩)
    (c17 : PySem.W.codeIn K cd17 "Reader.loop_in" = true)
    (k17 : PySem.W.keepIn K (.ref f17) = true)
    (a18 : PySem.W.findIn K (.ref C3) "read_loop" = some (some (.ref f18)))
    (i18 : PySem.W.isFn K (.ref f18) = true)
    (l18 : K.lookup f18 = some ⟨oc18, od18, .func (PySem.W.fnOf "read_loop" "Reader.read_loop" (defArgs s_Reader_read_loop) (defBody s_Reader_read_loop) (defScope s_Reader_read_loop) .none kV18 dc18 pm18 an18 cd18 ct18), sl18⟩)
    (c18 : PySem.W.codeIn K cd18 "Reader.read_loop" = true)
    (k18 : PySem.W.keepIn K (.ref f18) = true)
    (a19 : PySem.W.findIn K (.ref C3) "read_track" = some (some (.ref f19)))
    (i19 : PySem.W.isFn K (.ref f19) = true)
    (l19 : K.lookup f19 = some ⟨oc19, od19, .func (PySem.W.fnOf "read_track" "Reader.read_track" (defArgs s_Reader_read_track) (defBody s_Reader_read_track) (defScope s_Reader_read_track) .none kV19 dc19 pm19 an19 cd19 ct19), sl19⟩)
    (c19 : PySem.W.codeIn K cd19 "Reader.read_track" = true)
    (k19 : PySem.W.keepIn K (.ref f19) = true)
    (a20 : PySem.W.findIn K (.ref C3) "read_button" = some (some (.ref f20)))
    (i20 : PySem.W.isFn K (.ref f20) = true)
    (l20 : K.lookup f20 = some ⟨oc20, od20, .func (PySem.W.fnOf "read_button" "Reader.read_button" (defArgs s_Reader_read_button) (defBody s_Reader_read_button) (defScope s_Reader_read_button) .none kV20 dc20 pm20 an20 cd20 ct20), sl20⟩)
    (c20 : PySem.W.codeIn K cd20 "Reader.read_button" = true)
    (k20 : PySem.W.keepIn K (.ref f20) = true)
    (a21 : PySem.W.findIn K (.ref C3) "read" = some (some (.ref f21)))
    (i21 : PySem.W.isFn K (.ref f21) = true)
    (l21 : K.lookup f21 = some ⟨oc21, od21, .func (PySem.W.fnOf "read" "Reader.read" (defArgs s_Reader_read) (defBody s_Reader_read) (defScope s_Reader_read) .none kV21 dc21 pm21 an21 cd21 ct21), sl21⟩)
    (c21 : PySem.W.codeIn K cd21 "Reader.read" = true)
    (k21 : PySem.W.keepIn K (.ref f21) = true)
    (a22 : PySem.W.nsIn K mainGlobals "followed" = some (some (.ref f22)))
    (l22 : K.lookup f22 = some ⟨oc22, od22, .func (PySem.W.fnOf "followed" "followed" (defArgs s_followed) (defBody s_followed) (defScope s_followed) .none kV22 dc22 pm22 an22 cd22 ct22), sl22⟩)
    (c22 : PySem.W.codeIn K cd22 "followed" = true)
    (k22 : PySem.W.keepIn K (.ref f22) = true)
    (a23 : PySem.W.nsIn K mainGlobals "begun_by" = some (some (.ref f23)))
    (l23 : K.lookup f23 = some ⟨oc23, od23, .func (PySem.W.fnOf "begun_by" "begun_by" (defArgs s_begun_by) (defBody s_begun_by) (defScope s_begun_by) .none kV23 dc23 pm23 an23 cd23 ct23), sl23⟩)
    (c23 : PySem.W.codeIn K cd23 "begun_by" = true)
    (k23 : PySem.W.keepIn K (.ref f23) = true)
    (a24 : PySem.W.nsIn K mainGlobals "all_followed" = some (some (.ref f24)))
    (l24 : K.lookup f24 = some ⟨oc24, od24, .func (PySem.W.fnOf "all_followed" "all_followed" (defArgs s_all_followed) (defBody s_all_followed) (defScope s_all_followed) .none kV24 dc24 pm24 an24 cd24 ct24), sl24⟩)
    (c24 : PySem.W.codeIn K cd24 "all_followed" = true)
    (k24 : PySem.W.keepIn K (.ref f24) = true)
    (a25 : PySem.W.nsIn K mainGlobals "all_begun" = some (some (.ref f25)))
    (l25 : K.lookup f25 = some ⟨oc25, od25, .func (PySem.W.fnOf "all_begun" "all_begun" (defArgs s_all_begun) (defBody s_all_begun) (defScope s_all_begun) .none kV25 dc25 pm25 an25 cd25 ct25), sl25⟩)
    (c25 : PySem.W.codeIn K cd25 "all_begun" = true)
    (k25 : PySem.W.keepIn K (.ref f25) = true)
    (a26 : PySem.W.nsIn K mainGlobals "sounds_of" = some (some (.ref f26)))
    (l26 : K.lookup f26 = some ⟨oc26, od26, .func (PySem.W.fnOf "sounds_of" "sounds_of" (defArgs s_sounds_of) (defBody s_sounds_of) (defScope s_sounds_of) .none kV26 dc26 pm26 an26 cd26 ct26), sl26⟩)
    (c26 : PySem.W.codeIn K cd26 "sounds_of" = true)
    (k26 : PySem.W.keepIn K (.ref f26) = true)
    (a27 : PySem.W.nsIn K mainGlobals "strikes_of" = some (some (.ref f27)))
    (l27 : K.lookup f27 = some ⟨oc27, od27, .func (PySem.W.fnOf "strikes_of" "strikes_of" (defArgs s_strikes_of) (defBody s_strikes_of) (defScope s_strikes_of) .none kV27 dc27 pm27 an27 cd27 ct27), sl27⟩)
    (c27 : PySem.W.codeIn K cd27 "strikes_of" = true)
    (k27 : PySem.W.keepIn K (.ref f27) = true)
    (a28 : PySem.W.findIn K (.ref C4) "__init__" = some (some (.ref f28)))
    (i28 : PySem.W.isFn K (.ref f28) = true)
    (l28 : K.lookup f28 = some ⟨oc28, od28, .func (PySem.W.fnOf "__init__" "Board.__init__" (defArgs s_BoardD_initD) (defBody s_BoardD_initD) (defScope s_BoardD_initD) .none kV28 dc28 pm28 an28 cd28 ct28), sl28⟩)
    (c28 : PySem.W.codeIn K cd28 "Board.__init__" = true)
    (k28 : PySem.W.keepIn K (.ref f28) = true)
    (a29 : PySem.W.findIn K (.ref C4) "__contains__" = some (some (.ref f29)))
    (y29 : PySem.W.typeIn K (.ref f29) = some (.type "function"))
    (l29 : K.lookup f29 = some ⟨oc29, od29, .func (PySem.W.fnOf "__contains__" "Board.__contains__" (defArgs s_BoardD_containsD) (defBody s_BoardD_containsD) (defScope s_BoardD_containsD) .none kV29 dc29 pm29 an29 cd29 ct29), sl29⟩)
    (c29 : PySem.W.codeIn K cd29 "Board.__contains__" = true)
    (k29 : PySem.W.keepIn K (.ref f29) = true)
    (a30 : PySem.W.nsIn K mainGlobals "are_presses" = some (some (.ref f30)))
    (l30 : K.lookup f30 = some ⟨oc30, od30, .func (PySem.W.fnOf "are_presses" "are_presses" (defArgs s_are_presses) (defBody s_are_presses) (defScope s_are_presses) .none kV30 dc30 pm30 an30 cd30 ct30), sl30⟩)
    (c30 : PySem.W.codeIn K cd30 "are_presses" = true)
    (k30 : PySem.W.keepIn K (.ref f30) = true)
    (a31 : PySem.W.nsIn K mainGlobals "check_presses" = some (some (.ref f31)))
    (l31 : K.lookup f31 = some ⟨oc31, od31, .func (PySem.W.fnOf "check_presses" "check_presses" (defArgs s_check_presses) (defBody s_check_presses) (defScope s_check_presses) .none kV31 dc31 pm31 an31 cd31 ct31), sl31⟩)
    (c31 : PySem.W.codeIn K cd31 "check_presses" = true)
    (k31 : PySem.W.keepIn K (.ref f31) = true)
    (a32 : PySem.W.nsIn K mainGlobals "check_step" = some (some (.ref f32)))
    (l32 : K.lookup f32 = some ⟨oc32, od32, .func (PySem.W.fnOf "check_step" "check_step" (defArgs s_check_step) (defBody s_check_step) (defScope s_check_step) .none kV32 dc32 pm32 an32 cd32 ct32), sl32⟩)
    (c32 : PySem.W.codeIn K cd32 "check_step" = true)
    (k32 : PySem.W.keepIn K (.ref f32) = true)
    (a33 : PySem.W.nsIn K mainGlobals "begin_of" = some (some (.ref f33)))
    (l33 : K.lookup f33 = some ⟨oc33, od33, .func (PySem.W.fnOf "begin_of" "begin_of" (defArgs s_begin_of) (defBody s_begin_of) (defScope s_begin_of) .none kV33 dc33 pm33 an33 cd33 ct33), sl33⟩)
    (c33 : PySem.W.codeIn K cd33 "begin_of" = true)
    (k33 : PySem.W.keepIn K (.ref f33) = true)
    (a34 : PySem.W.nsIn K mainGlobals "all_begins" = some (some (.ref f34)))
    (l34 : K.lookup f34 = some ⟨oc34, od34, .func (PySem.W.fnOf "all_begins" "all_begins" (defArgs s_all_begins) (defBody s_all_begins) (defScope s_all_begins) .none kV34 dc34 pm34 an34 cd34 ct34), sl34⟩)
    (c34 : PySem.W.codeIn K cd34 "all_begins" = true)
    (k34 : PySem.W.keepIn K (.ref f34) = true)
    (a35 : PySem.W.nsIn K mainGlobals "begun" = some (some (.ref f35)))
    (l35 : K.lookup f35 = some ⟨oc35, od35, .func (PySem.W.fnOf "begun" "begun" (defArgs s_begun) (defBody s_begun) (defScope s_begun) .none kV35 dc35 pm35 an35 cd35 ct35), sl35⟩)
    (c35 : PySem.W.codeIn K cd35 "begun" = true)
    (k35 : PySem.W.keepIn K (.ref f35) = true)
    (a36 : PySem.W.findIn K (.ref C5) "__init__" = some (some (.ref f36)))
    (i36 : PySem.W.isFn K (.ref f36) = true)
    (l36 : K.lookup f36 = some ⟨oc36, od36, .func (PySem.W.fnOf "__init__" "Player.__init__" (defArgs s_PlayerD_initD) (defBody s_PlayerD_initD) (defScope s_PlayerD_initD) .none kV36 dc36 pm36 an36 cd36 ct36), sl36⟩)
    (c36 : PySem.W.codeIn K cd36 "Player.__init__" = true)
    (k36 : PySem.W.keepIn K (.ref f36) = true)
    (a37 : PySem.W.findIn K (.ref C5) "move" = some (some (.ref f37)))
    (i37 : PySem.W.isFn K (.ref f37) = true)
    (l37 : K.lookup f37 = some ⟨oc37, od37, .func (PySem.W.fnOf "move" "Player.move" (defArgs s_Player_move) (defBody s_Player_move) (defScope s_Player_move) .none kV37 dc37 pm37 an37 cd37 ct37), sl37⟩)
    (c37 : PySem.W.codeIn K cd37 "Player.move" = true)
    (k37 : PySem.W.keepIn K (.ref f37) = true)
    (a38 : PySem.W.findIn K (.ref C5) "sounding" = some (some (.ref f38)))
    (i38 : PySem.W.isFn K (.ref f38) = true)
    (l38 : K.lookup f38 = some ⟨oc38, od38, .func (PySem.W.fnOf "sounding" "Player.sounding" (defArgs s_Player_sounding) (defBody s_Player_sounding) (defScope s_Player_sounding) .none kV38 dc38 pm38 an38 cd38 ct38), sl38⟩)
    (c38 : PySem.W.codeIn K cd38 "Player.sounding" = true)
    (k38 : PySem.W.keepIn K (.ref f38) = true)
    (a39 : PySem.W.nsIn K mainGlobals "played_to" = some (some (.ref f39)))
    (l39 : K.lookup f39 = some ⟨oc39, od39, .func (PySem.W.fnOf "played_to" "played_to" (defArgs s_played_to) (defBody s_played_to) (defScope s_played_to) .none kV39 dc39 pm39 an39 cd39 ct39), sl39⟩)
    (c39 : PySem.W.codeIn K cd39 "played_to" = true)
    (k39 : PySem.W.keepIn K (.ref f39) = true)
    (a40 : PySem.W.nsIn K mainGlobals "stands" = some (some (.ref f40)))
    (l40 : K.lookup f40 = some ⟨oc40, od40, .func (PySem.W.fnOf "stands" "stands" (defArgs s_stands) (defBody s_stands) (defScope s_stands) .none kV40 dc40 pm40 an40 cd40 ct40), sl40⟩)
    (c40 : PySem.W.codeIn K cd40 "stands" = true)
    (k40 : PySem.W.keepIn K (.ref f40) = true)
    (a41 : PySem.W.nsIn K mainGlobals "waits" = some (some (.ref f41)))
    (l41 : K.lookup f41 = some ⟨oc41, od41, .func (PySem.W.fnOf "waits" "waits" (defArgs s_waits) (defBody s_waits) (defScope s_waits) .none kV41 dc41 pm41 an41 cd41 ct41), sl41⟩)
    (c41 : PySem.W.codeIn K cd41 "waits" = true)
    (k41 : PySem.W.keepIn K (.ref f41) = true)
    (a42 : PySem.W.nsIn K mainGlobals "heard" = some (some (.ref f42)))
    (l42 : K.lookup f42 = some ⟨oc42, od42, .func (PySem.W.fnOf "heard" "heard" (defArgs s_heard) (defBody s_heard) (defScope s_heard) .none kV42 dc42 pm42 an42 cd42 ct42), sl42⟩)
    (c42 : PySem.W.codeIn K cd42 "heard" = true)
    (k42 : PySem.W.keepIn K (.ref f42) = true)
    (a43 : PySem.W.nsIn K mainGlobals "_law_pot" = some (some (.ref f43)))
    (l43 : K.lookup f43 = some ⟨oc43, od43, .func (PySem.W.fnOf "_law_pot" "_law_pot" (defArgs s__law_pot) (defBody s__law_pot) (defScope s__law_pot) .none kV43 dc43 pm43 an43 cd43 ct43), sl43⟩)
    (c43 : PySem.W.codeIn K cd43 "_law_pot" = true)
    (k43 : PySem.W.keepIn K (.ref f43) = true)
    (a44 : PySem.W.nsIn K mainGlobals "_law_take" = some (some (.ref f44)))
    (l44 : K.lookup f44 = some ⟨oc44, od44, .func (PySem.W.fnOf "_law_take" "_law_take" (defArgs s__law_take) (defBody s__law_take) (defScope s__law_take) .none kV44 dc44 pm44 an44 cd44 ct44), sl44⟩)
    (c44 : PySem.W.codeIn K cd44 "_law_take" = true)
    (k44 : PySem.W.keepIn K (.ref f44) = true)
    (a45 : PySem.W.nsIn K mainGlobals "_law_cells" = some (some (.ref f45)))
    (l45 : K.lookup f45 = some ⟨oc45, od45, .func (PySem.W.fnOf "_law_cells" "_law_cells" (defArgs s__law_cells) (defBody s__law_cells) (defScope s__law_cells) .none kV45 dc45 pm45 an45 cd45 ct45), sl45⟩)
    (c45 : PySem.W.codeIn K cd45 "_law_cells" = true)
    (k45 : PySem.W.keepIn K (.ref f45) = true)
    (a46 : PySem.W.nsIn K mainGlobals "_law_board" = some (some (.ref f46)))
    (l46 : K.lookup f46 = some ⟨oc46, od46, .func (PySem.W.fnOf "_law_board" "_law_board" (defArgs s__law_board) (defBody s__law_board) (defScope s__law_board) .none kV46 dc46 pm46 an46 cd46 ct46), sl46⟩)
    (c46 : PySem.W.codeIn K cd46 "_law_board" = true)
    (k46 : PySem.W.keepIn K (.ref f46) = true)
    (a47 : PySem.W.nsIn K mainGlobals "_law_right" = some (some (.ref f47)))
    (l47 : K.lookup f47 = some ⟨oc47, od47, .func (PySem.W.fnOf "_law_right" "_law_right" (defArgs s__law_right) (defBody s__law_right) (defScope s__law_right) .none kV47 dc47 pm47 an47 cd47 ct47), sl47⟩)
    (c47 : PySem.W.codeIn K cd47 "_law_right" = true)
    (k47 : PySem.W.keepIn K (.ref f47) = true)
    (a48 : PySem.W.nsIn K mainGlobals "law" = some (some (.ref f48)))
    (l48 : K.lookup f48 = some ⟨oc48, od48, .func (PySem.W.fnOf "law" "law" (defArgs s_law) (defBody s_law) (defScope s_law) .none kV48 dc48 pm48 an48 cd48 ct48), sl48⟩)
    (c48 : PySem.W.codeIn K cd48 "law" = true)
    (k48 : PySem.W.keepIn K (.ref f48) = true)
    (vg0 : PySem.W.nsIn K mainGlobals "LETTERS" = some (some (.str "abcdefghijklmnopqrstuvwxyz" u0)))
    (vg1 : PySem.W.nsIn K mainGlobals "FIGURES" = some (some (.str "0123456789" u1)))
    (vg2 : PySem.W.nsIn K mainGlobals "MOST_LETTERS" = some (some (.int 8 u2)))
    (vg3 : PySem.W.nsIn K mainGlobals "MOST_FIGURES" = some (some (.int 9 u3)))
    (vg4 : PySem.W.nsIn K mainGlobals "BLANK" = some (some (.str " " u4)))
    (vg5 : PySem.W.nsIn K mainGlobals "FEED" = some (some (.str "\n" u5)))
    (vg6 : PySem.W.nsIn K mainGlobals "TRACK" = some (some (.str "track" u6)))
    (vg7 : PySem.W.nsIn K mainGlobals "LOOP" = some (some (.str "loop" u7)))
    (vg8 : PySem.W.nsIn K mainGlobals "BUTTON" = some (some (.str "button" u8)))
    (vg9 : PySem.W.nsIn K mainGlobals "EVERY" = some (some (.str "every" u9)))
    (vg10 : PySem.W.nsIn K mainGlobals "LASTS" = some (some (.str "lasts" u10)))
    (vg11 : PySem.W.nsIn K mainGlobals "ENDS" = some (some (.str "ends" u11)))
    (vg12 : PySem.W.nsIn K mainGlobals "GOES" = some (some (.str "goes" u12)))
    (vg13 : PySem.W.nsIn K mainGlobals "PLAYS" = some (some (.str "plays" u13)))
    (vg14 : PySem.W.nsIn K mainGlobals "KEEPS" = some (some (.str "keeps" u14)))
    (vg15 : PySem.W.nsIn K mainGlobals "STOPS" = some (some (.str "stops" u15)))
    (vg16 : PySem.W.nsIn K mainGlobals "DEEP" = some (some (.int 2 u16)))
    (vg17 : PySem.W.nsIn K mainGlobals "MOST_TRACKS" = some (some (.int 4 u17)))
    (vg18 : PySem.W.nsIn K mainGlobals "MOST_LOOPS" = some (some (.int 3 u18)))
    (vg19 : PySem.W.nsIn K mainGlobals "MOST_BUTTONS" = some (some (.int 5 u19)))
    (vg20 : PySem.W.nsIn K mainGlobals "MOST_LENGTH" = some (some (.int 6 u20)))
    (vg21 : PySem.W.nsIn K mainGlobals "MOST_ROUNDS" = some (some (.int 3 u21)))
    (vg22 : PySem.W.nsIn K mainGlobals "MOST_SOUNDS" = some (some (.int 3 u22)))
    (vg23 : PySem.W.nsIn K mainGlobals "MOST_BAR" = some (some (.int 12 u23)))
    (vg24 : PySem.W.nsIn K mainGlobals "LAST_STEP" = some (some (.int 9999 u24)))
    (vg25 : PySem.W.nsIn K mainGlobals "MOST_STEPS" = some (some (.int 99 u25)))
    (vg26 : PySem.W.nsIn K mainGlobals "PAIR" = some (some (.int 2 u26)))
    (z0 : PySem.W.nsIn K mainGlobals "len" = some none)
    (z1 : PySem.W.nsIn K mainGlobals "isinstance" = some none)
    (z2 : PySem.W.nsIn K mainGlobals "int" = some none)
    (z3 : PySem.W.nsIn K mainGlobals "bool" = some none)
    (z4 : PySem.W.nsIn K mainGlobals "str" = some none)
    (z5 : PySem.W.nsIn K mainGlobals "tuple" = some none)
    (z6 : PySem.W.nsIn K mainGlobals "list" = some none)
    (z7 : PySem.W.nsIn K mainGlobals "all" = some none)
    (z8 : PySem.W.nsIn K mainGlobals "any" = some none)
    (z9 : PySem.W.nsIn K mainGlobals "range" = some none)
    (z10 : PySem.W.nsIn K mainGlobals "zip" = some none)
    (z11 : PySem.W.nsIn K mainGlobals "enumerate" = some none)
    (z12 : PySem.W.nsIn K mainGlobals "sorted" = some none)
    (z13 : PySem.W.nsIn K mainGlobals "dict" = some none)
    (z14 : PySem.W.nsIn K mainGlobals "abs" = some none)
    (z15 : PySem.W.nsIn K mainGlobals "max" = some none)
    (z16 : PySem.W.nsIn K mainGlobals "min" = some none)
    : ∃ fd : FuncData, (∀ (s : Shared) (v : Value), BindsTo s fd ⟨[v], []⟩ [("_law_script", v)]) ∧ ∀ base : Heap, K.In base → base.Ns mainGlobals mg → FnOk l.prog w K mg base CX0 11 fa fd ["_law_script"] (spLaw K) := by
  have e := hfa.symm.trans (PySem.W.mg_of X G a48)
  cases e
  have F0 := fun_mk (st := s_is_integer) l0 c0 k0
  have F1 := fun_mk (st := s_is_between) l1 c1 k1
  have F2 := fun_mk (st := s_is_tuple) l2 c2 k2
  have F3 := fun_mk (st := s_is_name) l3 c3 k3
  have F4 := fun_mk (st := s_do_ascend) l4 c4 k4
  have F5 := fun_mk (st := s_number_in) l5 c5 k5
  have F6 := fun_mk (st := s_common_multiple) l6 c6 k6
  have F7 := fun_mk (st := s_LoopD_initD) l7 c7 k7
  have F8 := fun_mk (st := s_Loop_begun) l8 c8 k8
  have F9 := fun_mk (st := s_TrackD_initD) l9 c9 k9
  have F10 := fun_mk (st := s_ButtonD_initD) l10 c10 k10
  have F11 := fun_mk (st := s_words_in) l11 c11 k11
  have F12 := fun_mk (st := s_ReaderD_initD) l12 c12 k12
  have F13 := fun_mk (st := s_Reader_want) l13 c13 k13
  have F14 := fun_mk (st := s_Reader_row) l14 c14 k14
  have F15 := fun_mk (st := s_Reader_headed) l15 c15 k15
  have F16 := fun_mk (st := s_Reader_is_deed) l16 c16 k16
  have F17 := fun_mk (st := s_Reader_loop_in) l17 c17 k17
  have F18 := fun_mk (st := s_Reader_read_loop) l18 c18 k18
  have F19 := fun_mk (st := s_Reader_read_track) l19 c19 k19
  have F20 := fun_mk (st := s_Reader_read_button) l20 c20 k20
  have F21 := fun_mk (st := s_Reader_read) l21 c21 k21
  have F22 := fun_mk (st := s_followed) l22 c22 k22
  have F23 := fun_mk (st := s_begun_by) l23 c23 k23
  have F24 := fun_mk (st := s_all_followed) l24 c24 k24
  have F25 := fun_mk (st := s_all_begun) l25 c25 k25
  have F26 := fun_mk (st := s_sounds_of) l26 c26 k26
  have F27 := fun_mk (st := s_strikes_of) l27 c27 k27
  have F28 := fun_mk (st := s_BoardD_initD) l28 c28 k28
  have F29 := fun_mk (st := s_BoardD_containsD) l29 c29 k29
  have F30 := fun_mk (st := s_are_presses) l30 c30 k30
  have F31 := fun_mk (st := s_check_presses) l31 c31 k31
  have F32 := fun_mk (st := s_check_step) l32 c32 k32
  have F33 := fun_mk (st := s_begin_of) l33 c33 k33
  have F34 := fun_mk (st := s_all_begins) l34 c34 k34
  have F35 := fun_mk (st := s_begun) l35 c35 k35
  have F36 := fun_mk (st := s_PlayerD_initD) l36 c36 k36
  have F37 := fun_mk (st := s_Player_move) l37 c37 k37
  have F38 := fun_mk (st := s_Player_sounding) l38 c38 k38
  have F39 := fun_mk (st := s_played_to) l39 c39 k39
  have F40 := fun_mk (st := s_stands) l40 c40 k40
  have F41 := fun_mk (st := s_waits) l41 c41 k41
  have F42 := fun_mk (st := s_heard) l42 c42 k42
  have F43 := fun_mk (st := s__law_pot) l43 c43 k43
  have F44 := fun_mk (st := s__law_take) l44 c44 k44
  have F45 := fun_mk (st := s__law_cells) l45 c45 k45
  have F46 := fun_mk (st := s__law_board) l46 c46 k46
  have F47 := fun_mk (st := s__law_right) l47 c47 k47
  have F48 := fun_mk (st := s_law) l48 c48 k48
  have T0 : TxtLoop K mg := ⟨C0, PySem.W.mg_of X G aC0, ⟨pg0, hd0, po0, sa0⟩, ⟨_, _, F7, bi_LoopD_initD F7⟩, ⟨mk0, a7, i7, kc0⟩, (NoAttrs.cons n0_0 (NoAttrs.cons n0_1 (NoAttrs.cons n0_2 (NoAttrs.cons n0_3 (NoAttrs.cons n0_4 NoAttrs.nil))))), ⟨_, _, F8, bi_Loop_begun F8⟩, ⟨a8, i8, k8⟩⟩
  have T1 : TxtTrack K mg := ⟨C1, PySem.W.mg_of X G aC1, ⟨pg1, hd1, po1, sa1⟩, ⟨_, _, F9, bi_TrackD_initD F9⟩, ⟨mk1, a9, i9, kc1⟩, (NoAttrs.cons n1_0 (NoAttrs.cons n1_1 NoAttrs.nil))⟩
  have T2 : TxtButton K mg := ⟨C2, PySem.W.mg_of X G aC2, ⟨pg2, hd2, po2, sa2⟩, ⟨_, _, F10, bi_ButtonD_initD F10⟩, ⟨mk2, a10, i10, kc2⟩, (NoAttrs.cons n2_0 (NoAttrs.cons n2_1 (NoAttrs.cons n2_2 NoAttrs.nil)))⟩
  have T3 : TxtReader K mg := ⟨C3, PySem.W.mg_of X G aC3, ⟨pg3, hd3, po3, sa3⟩, ⟨_, _, F12, bi_ReaderD_initD F12⟩, ⟨mk3, a12, i12, kc3⟩, (NoAttrs.cons n3_0 (NoAttrs.cons n3_1 (NoAttrs.cons n3_2 (NoAttrs.cons n3_3 (NoAttrs.cons n3_4 (NoAttrs.cons n3_5 NoAttrs.nil)))))), ⟨_, _, F13, bi_Reader_want F13⟩, ⟨a13, i13, k13⟩, ⟨_, _, F14, bi_Reader_row F14⟩, ⟨a14, i14, k14⟩, ⟨_, _, F15, bi_Reader_headed F15⟩, ⟨a15, i15, k15⟩, ⟨_, _, F16, bi_Reader_is_deed F16⟩, ⟨a16, i16, k16⟩, ⟨_, _, F17, bi_Reader_loop_in F17⟩, ⟨a17, i17, k17⟩, ⟨_, _, F18, bi_Reader_read_loop F18⟩, ⟨a18, i18, k18⟩, ⟨_, _, F19, bi_Reader_read_track F19⟩, ⟨a19, i19, k19⟩, ⟨_, _, F20, bi_Reader_read_button F20⟩, ⟨a20, i20, k20⟩, ⟨_, _, F21, bi_Reader_read F21⟩, ⟨a21, i21, k21⟩⟩
  have T4 : TxtBoard K mg := ⟨C4, PySem.W.mg_of X G aC4, ⟨pg4, hd4, po4, sa4⟩, ⟨_, _, F28, bi_BoardD_initD F28⟩, ⟨mk4, a28, i28, kc4⟩, (NoAttrs.cons n4_0 (NoAttrs.cons n4_1 (NoAttrs.cons n4_2 (NoAttrs.cons n4_3 NoAttrs.nil)))), ⟨_, _, F29, bi_BoardD_containsD F29⟩, ⟨a29, y29⟩⟩
  have T5 : TxtPlayer K mg := ⟨C5, PySem.W.mg_of X G aC5, ⟨pg5, hd5, po5, sa5⟩, ⟨_, _, F36, bi_PlayerD_initD F36⟩, ⟨mk5, a36, i36, kc5⟩, (NoAttrs.cons n5_0 (NoAttrs.cons n5_1 (NoAttrs.cons n5_2 (NoAttrs.cons n5_3 (NoAttrs.cons n5_4 NoAttrs.nil))))), ⟨_, _, F37, bi_Player_move F37⟩, ⟨a37, i37, k37⟩, ⟨_, _, F38, bi_Player_sounding F38⟩, ⟨a38, i38, k38⟩⟩
  have TC : TxtC mg := ⟨⟨_, PySem.W.mg_of X G vg0, u0, rfl⟩, ⟨_, PySem.W.mg_of X G vg1, u1, rfl⟩, ⟨_, PySem.W.mg_of X G vg2, u2, rfl⟩, ⟨_, PySem.W.mg_of X G vg3, u3, rfl⟩, ⟨_, PySem.W.mg_of X G vg4, u4, rfl⟩, ⟨_, PySem.W.mg_of X G vg5, u5, rfl⟩, ⟨_, PySem.W.mg_of X G vg6, u6, rfl⟩, ⟨_, PySem.W.mg_of X G vg7, u7, rfl⟩, ⟨_, PySem.W.mg_of X G vg8, u8, rfl⟩, ⟨_, PySem.W.mg_of X G vg9, u9, rfl⟩, ⟨_, PySem.W.mg_of X G vg10, u10, rfl⟩, ⟨_, PySem.W.mg_of X G vg11, u11, rfl⟩, ⟨_, PySem.W.mg_of X G vg12, u12, rfl⟩, ⟨_, PySem.W.mg_of X G vg13, u13, rfl⟩, ⟨_, PySem.W.mg_of X G vg14, u14, rfl⟩, ⟨_, PySem.W.mg_of X G vg15, u15, rfl⟩, ⟨_, PySem.W.mg_of X G vg16, u16, rfl⟩, ⟨_, PySem.W.mg_of X G vg17, u17, rfl⟩, ⟨_, PySem.W.mg_of X G vg18, u18, rfl⟩, ⟨_, PySem.W.mg_of X G vg19, u19, rfl⟩, ⟨_, PySem.W.mg_of X G vg20, u20, rfl⟩, ⟨_, PySem.W.mg_of X G vg21, u21, rfl⟩, ⟨_, PySem.W.mg_of X G vg22, u22, rfl⟩, ⟨_, PySem.W.mg_of X G vg23, u23, rfl⟩, ⟨_, PySem.W.mg_of X G vg24, u24, rfl⟩, ⟨_, PySem.W.mg_of X G vg25, u25, rfl⟩, ⟨_, PySem.W.mg_of X G vg26, u26, rfl⟩, PySem.W.mg_none_of X G z0, PySem.W.mg_none_of X G z1, PySem.W.mg_none_of X G z2, PySem.W.mg_none_of X G z3, PySem.W.mg_none_of X G z4, PySem.W.mg_none_of X G z5, PySem.W.mg_none_of X G z6, PySem.W.mg_none_of X G z7, PySem.W.mg_none_of X G z8, PySem.W.mg_none_of X G z9, PySem.W.mg_none_of X G z10, PySem.W.mg_none_of X G z11, PySem.W.mg_none_of X G z12, PySem.W.mg_none_of X G z13, PySem.W.mg_none_of X G z14, PySem.W.mg_none_of X G z15, PySem.W.mg_none_of X G z16⟩
  let D0 : DefF K "is_integer" "is_integer" s_is_integer ["value"] := ⟨_, _, F0, bi_is_integer F0⟩
  let D1 : DefF K "is_between" "is_between" s_is_between ["value", "low", "high"] := ⟨_, _, F1, bi_is_between F1⟩
  let D2 : DefF K "is_tuple" "is_tuple" s_is_tuple ["value", "least", "most"] := ⟨_, _, F2, bi_is_tuple F2⟩
  let D3 : DefF K "is_name" "is_name" s_is_name ["value"] := ⟨_, _, F3, bi_is_name F3⟩
  let D4 : DefF K "do_ascend" "do_ascend" s_do_ascend ["values"] := ⟨_, _, F4, bi_do_ascend F4⟩
  let D5 : DefF K "number_in" "number_in" s_number_in ["word"] := ⟨_, _, F5, bi_number_in F5⟩
  let D6 : DefF K "common_multiple" "common_multiple" s_common_multiple ["one", "other"] := ⟨_, _, F6, bi_common_multiple F6⟩
  let D11 : DefF K "words_in" "words_in" s_words_in ["line", "depth"] := ⟨_, _, F11, bi_words_in F11⟩
  let D22 : DefF K "followed" "followed" s_followed ["track", "standing"] := ⟨_, _, F22, bi_followed F22⟩
  let D23 : DefF K "begun_by" "begun_by" s_begun_by ["button", "track", "come"] := ⟨_, _, F23, bi_begun_by F23⟩
  let D24 : DefF K "all_followed" "all_followed" s_all_followed ["tracks", "standings"] := ⟨_, _, F24, bi_all_followed F24⟩
  let D25 : DefF K "all_begun" "all_begun" s_all_begun ["button", "tracks", "come"] := ⟨_, _, F25, bi_all_begun F25⟩
  let D26 : DefF K "sounds_of" "sounds_of" s_sounds_of ["track", "standing"] := ⟨_, _, F26, bi_sounds_of F26⟩
  let D27 : DefF K "strikes_of" "strikes_of" s_strikes_of ["tracks", "standings"] := ⟨_, _, F27, bi_strikes_of F27⟩
  let D30 : DefF K "are_presses" "are_presses" s_are_presses ["board", "value"] := ⟨_, _, F30, bi_are_presses F30⟩
  let D31 : DefF K "check_presses" "check_presses" s_check_presses ["board", "value"] := ⟨_, _, F31, bi_check_presses F31⟩
  let D32 : DefF K "check_step" "check_step" s_check_step ["value", "low", "high"] := ⟨_, _, F32, bi_check_step F32⟩
  let D33 : DefF K "begin_of" "begin_of" s_begin_of ["board", "press"] := ⟨_, _, F33, bi_begin_of F33⟩
  let D34 : DefF K "all_begins" "all_begins" s_all_begins ["board", "presses"] := ⟨_, _, F34, bi_all_begins F34⟩
  let D35 : DefF K "begun" "begun" s_begun ["board", "presses"] := ⟨_, _, F35, bi_begun F35⟩
  let D39 : DefF K "played_to" "played_to" s_played_to ["board", "presses", "step"] := ⟨_, _, F39, bi_played_to F39⟩
  let D40 : DefF K "stands" "stands" s_stands ["board", "presses", "step"] := ⟨_, _, F40, bi_stands F40⟩
  let D41 : DefF K "waits" "waits" s_waits ["board", "presses", "step"] := ⟨_, _, F41, bi_waits F41⟩
  let D42 : DefF K "heard" "heard" s_heard ["board", "presses", "first", "steps"] := ⟨_, _, F42, bi_heard F42⟩
  let D43 : DefF K "_law_pot" "_law_pot" s__law_pot ["_law_script", "_law_place"] := ⟨_, _, F43, bi__law_pot F43⟩
  let D44 : DefF K "_law_take" "_law_take" s__law_take ["_law_pot_here", "_law_upto"] := ⟨_, _, F44, bi__law_take F44⟩
  let D45 : DefF K "_law_cells" "_law_cells" s__law_cells ["_law_script", "_law_limit"] := ⟨_, _, F45, bi__law_cells F45⟩
  let D46 : DefF K "_law_board" "_law_board" s__law_board ["_law_quantum"] := ⟨_, _, F46, bi__law_board F46⟩
  let D47 : DefF K "_law_right" "_law_right" s__law_right ["_law_pot_here"] := ⟨_, _, F47, bi__law_right F47⟩
  let D48 : DefF K "law" "law" s_law ["_law_script"] := ⟨_, _, F48, bi_law F48⟩
  let T : Txt K mg := ⟨TC, T0, T1, T2, T3, T4, T5, D0, D1, D2, D3, D4, D5, D6, D11, D22, D23, D24, D25, D26, D27, D30, D31, D32, D33, D34, D35, D39, D40, D41, D42, D43, D44, D45, D46, D47, D48, PySem.W.mg_of X G a0, PySem.W.mg_of X G a1, PySem.W.mg_of X G a2, PySem.W.mg_of X G a3, PySem.W.mg_of X G a4, PySem.W.mg_of X G a5, PySem.W.mg_of X G a6, PySem.W.mg_of X G a11, PySem.W.mg_of X G a22, PySem.W.mg_of X G a23, PySem.W.mg_of X G a24, PySem.W.mg_of X G a25, PySem.W.mg_of X G a26, PySem.W.mg_of X G a27, PySem.W.mg_of X G a30, PySem.W.mg_of X G a31, PySem.W.mg_of X G a32, PySem.W.mg_of X G a33, PySem.W.mg_of X G a34, PySem.W.mg_of X G a35, PySem.W.mg_of X G a39, PySem.W.mg_of X G a40, PySem.W.mg_of X G a41, PySem.W.mg_of X G a42, PySem.W.mg_of X G a43, PySem.W.mg_of X G a44, PySem.W.mg_of X G a45, PySem.W.mg_of X G a46, PySem.W.mg_of X G a47, PySem.W.mg_of X G a48⟩
  exact ⟨PySem.W.fnOf "law" "law" (defArgs s_law) (defBody s_law) (defScope s_law) .none kV48 dc48 pm48 an48 cd48 ct48, fun s v => .of_eq rfl, fun base _ _ => ok_lawE T⟩
end PL
end

namespace PL
open PySem PySem.Spec PyProof.Rows L2 Ev
theorem walk {l : PySem.W.OpenLaw} {q : Program} {loose : List Str} {XP : (Str → Option Value) → Heap → Prop} {YP : World → Heap → Prop} {d : DefRec} {K : Params → PySem.W.Frag} (hn : l.most = some 63) (hdf : d.params.defaults = [])
    (hY : ∀ (w : World) (h : Heap), YP w h → (K w.params).In h)
    (F : ∀ (w : World) (mg : Str → Option Value) (fa : Addr) (h : Heap), (K w.params).In h → h.Ns mainGlobals mg → mg d.name = some (.ref fa) →
      ∃ fd : FuncData, (∀ (s : Shared) (u : Value), BindsTo s fd ⟨[u], []⟩ [("_law_script", u)]) ∧ ∀ base : Heap, (K w.params).In base → base.Ns mainGlobals mg → FnOk l.prog w (K w.params) mg base CX0 11 fa fd ["_law_script"] (spLaw (K w.params))) :
    PySem.W.WalkO q loose XP YP l.row.toRowW d [] (fun f vs => PySem.call f vs) :=
  L2.walk_of (n := 63) (k := 11) (x := "_law_script") (CX := fun _ => CX0) (sp := fun w => spLaw (K w.params)) hn (by decide) hdf ⟨rfl, by decide, by decide⟩ hY F (fun _ _ a ns hl _ hS => ⟨a, ns, rfl, hS, hl, fun _ => rfl⟩) fun _ _ _ _ _ z => z
end PL
open PySem PySem.W PyProof.Rows
set_option maxRecDepth 100000 in
set_option maxHeartbeats 0 in
theorem PySem.Challenge.cw_everypress_k15_buttons_that_wait_by_hand_holds : PySem.Challenge.rw_everypress_k15_buttons_that_wait_by_hand.Holds := by
  w_on; o_law; k_head; (case hw => w_witness2)
  k_fill
  refine PL.walk (l := PySem.Challenge.rw_everypress_k15_buttons_that_wait_by_hand) rfl rfl (fun w h Y => PySem.W.kIn_of Y) ?F
  case F =>
    intro w mg fa h KX G hmg
    refine' PL.all_mk KX G hmg ?aC0 ?pg0 ?hd0 ?po0 ?sa0 ?mk0 ?kc0 ?n0_0 ?n0_1 ?n0_2 ?n0_3 ?n0_4 ?aC1 ?pg1 ?hd1 ?po1 ?sa1 ?mk1 ?kc1 ?n1_0 ?n1_1 ?aC2 ?pg2 ?hd2 ?po2 ?sa2 ?mk2 ?kc2 ?n2_0 ?n2_1 ?n2_2 ?aC3 ?pg3 ?hd3 ?po3 ?sa3 ?mk3 ?kc3 ?n3_0 ?n3_1 ?n3_2 ?n3_3 ?n3_4 ?n3_5 ?aC4 ?pg4 ?hd4 ?po4 ?sa4 ?mk4 ?kc4 ?n4_0 ?n4_1 ?n4_2 ?n4_3 ?aC5 ?pg5 ?hd5 ?po5 ?sa5 ?mk5 ?kc5 ?n5_0 ?n5_1 ?n5_2 ?n5_3 ?n5_4 ?a0 ?l0 ?c0 ?k0 ?a1 ?l1 ?c1 ?k1 ?a2 ?l2 ?c2 ?k2 ?a3 ?l3 ?c3 ?k3 ?a4 ?l4 ?c4 ?k4 ?a5 ?l5 ?c5 ?k5 ?a6 ?l6 ?c6 ?k6 ?a7 ?i7 ?l7 ?c7 ?k7 ?a8 ?i8 ?l8 ?c8 ?k8 ?a9 ?i9 ?l9 ?c9 ?k9 ?a10 ?i10 ?l10 ?c10 ?k10 ?a11 ?l11 ?c11 ?k11 ?a12 ?i12 ?l12 ?c12 ?k12 ?a13 ?i13 ?l13 ?c13 ?k13 ?a14 ?i14 ?l14 ?c14 ?k14 ?a15 ?i15 ?l15 ?c15 ?k15 ?a16 ?i16 ?l16 ?c16 ?k16 ?a17 ?i17 ?l17 ?c17 ?k17 ?a18 ?i18 ?l18 ?c18 ?k18 ?a19 ?i19 ?l19 ?c19 ?k19 ?a20 ?i20 ?l20 ?c20 ?k20 ?a21 ?i21 ?l21 ?c21 ?k21 ?a22 ?l22 ?c22 ?k22 ?a23 ?l23 ?c23 ?k23 ?a24 ?l24 ?c24 ?k24 ?a25 ?l25 ?c25 ?k25 ?a26 ?l26 ?c26 ?k26 ?a27 ?l27 ?c27 ?k27 ?a28 ?i28 ?l28 ?c28 ?k28 ?a29 ?y29 ?l29 ?c29 ?k29 ?a30 ?l30 ?c30 ?k30 ?a31 ?l31 ?c31 ?k31 ?a32 ?l32 ?c32 ?k32 ?a33 ?l33 ?c33 ?k33 ?a34 ?l34 ?c34 ?k34 ?a35 ?l35 ?c35 ?k35 ?a36 ?i36 ?l36 ?c36 ?k36 ?a37 ?i37 ?l37 ?c37 ?k37 ?a38 ?i38 ?l38 ?c38 ?k38 ?a39 ?l39 ?c39 ?k39 ?a40 ?l40 ?c40 ?k40 ?a41 ?l41 ?c41 ?k41 ?a42 ?l42 ?c42 ?k42 ?a43 ?l43 ?c43 ?k43 ?a44 ?l44 ?c44 ?k44 ?a45 ?l45 ?c45 ?k45 ?a46 ?l46 ?c46 ?k46 ?a47 ?l47 ?c47 ?k47 ?a48 ?l48 ?c48 ?k48 ?vg0 ?vg1 ?vg2 ?vg3 ?vg4 ?vg5 ?vg6 ?vg7 ?vg8 ?vg9 ?vg10 ?vg11 ?vg12 ?vg13 ?vg14 ?vg15 ?vg16 ?vg17 ?vg18 ?vg19 ?vg20 ?vg21 ?vg22 ?vg23 ?vg24 ?vg25 ?vg26 ?z0 ?z1 ?z2 ?z3 ?z4 ?z5 ?z6 ?z7 ?z8 ?z9 ?z10 ?z11 ?z12 ?z13 ?z14 ?z15 ?z16
    (case aC0 => k_is); (case pg0 => k_is); (case hd0 => k_is); (case po0 => k_is); (case sa0 => k_is); (case mk0 => k_is)
    (case kc0 => k_is); (case n0_0 => k_is); (case n0_1 => k_is); (case n0_2 => k_is); (case n0_3 => k_is); (case n0_4 => k_is)
    (case aC1 => k_is); (case pg1 => k_is); (case hd1 => k_is); (case po1 => k_is); (case sa1 => k_is); (case mk1 => k_is)
    (case kc1 => k_is); (case n1_0 => k_is); (case n1_1 => k_is); (case aC2 => k_is); (case pg2 => k_is); (case hd2 => k_is)
    (case po2 => k_is); (case sa2 => k_is); (case mk2 => k_is); (case kc2 => k_is); (case n2_0 => k_is); (case n2_1 => k_is)
    (case n2_2 => k_is); (case aC3 => k_is); (case pg3 => k_is); (case hd3 => k_is); (case po3 => k_is); (case sa3 => k_is)
    (case mk3 => k_is); (case kc3 => k_is); (case n3_0 => k_is); (case n3_1 => k_is); (case n3_2 => k_is); (case n3_3 => k_is)
    (case n3_4 => k_is); (case n3_5 => k_is); (case aC4 => k_is); (case pg4 => k_is); (case hd4 => k_is); (case po4 => k_is)
    (case sa4 => k_is); (case mk4 => k_is); (case kc4 => k_is); (case n4_0 => k_is); (case n4_1 => k_is); (case n4_2 => k_is)
    (case n4_3 => k_is); (case aC5 => k_is); (case pg5 => k_is); (case hd5 => k_is); (case po5 => k_is); (case sa5 => k_is)
    (case mk5 => k_is); (case kc5 => k_is); (case n5_0 => k_is); (case n5_1 => k_is); (case n5_2 => k_is); (case n5_3 => k_is)
    (case n5_4 => k_is); (case a0 => k_is); (case l0 => k_is); (case c0 => k_is); (case k0 => k_is); (case a1 => k_is)
    (case l1 => k_is); (case c1 => k_is); (case k1 => k_is); (case a2 => k_is); (case l2 => k_is); (case c2 => k_is)
    (case k2 => k_is); (case a3 => k_is); (case l3 => k_is); (case c3 => k_is); (case k3 => k_is); (case a4 => k_is)
    (case l4 => k_is); (case c4 => k_is); (case k4 => k_is); (case a5 => k_is); (case l5 => k_is); (case c5 => k_is)
    (case k5 => k_is); (case a6 => k_is); (case l6 => k_is); (case c6 => k_is); (case k6 => k_is); (case a7 => k_is)
    (case i7 => k_is); (case l7 => k_is); (case c7 => k_is); (case k7 => k_is); (case a8 => k_is); (case i8 => k_is)
    (case l8 => k_is); (case c8 => k_is); (case k8 => k_is); (case a9 => k_is); (case i9 => k_is); (case l9 => k_is)
    (case c9 => k_is); (case k9 => k_is); (case a10 => k_is); (case i10 => k_is); (case l10 => k_is); (case c10 => k_is)
    (case k10 => k_is); (case a11 => k_is); (case l11 => k_is); (case c11 => k_is); (case k11 => k_is); (case a12 => k_is)
    (case i12 => k_is); (case l12 => k_is); (case c12 => k_is); (case k12 => k_is); (case a13 => k_is); (case i13 => k_is)
    (case l13 => k_is); (case c13 => k_is); (case k13 => k_is); (case a14 => k_is); (case i14 => k_is); (case l14 => k_is)
    (case c14 => k_is); (case k14 => k_is); (case a15 => k_is); (case i15 => k_is); (case l15 => k_is); (case c15 => k_is)
    (case k15 => k_is); (case a16 => k_is); (case i16 => k_is); (case l16 => k_is); (case c16 => k_is); (case k16 => k_is)
    (case a17 => k_is); (case i17 => k_is); (case l17 => k_is); (case c17 => k_is); (case k17 => k_is); (case a18 => k_is)
    (case i18 => k_is); (case l18 => k_is); (case c18 => k_is); (case k18 => k_is); (case a19 => k_is); (case i19 => k_is)
    (case l19 => k_is); (case c19 => k_is); (case k19 => k_is); (case a20 => k_is); (case i20 => k_is); (case l20 => k_is)
    (case c20 => k_is); (case k20 => k_is); (case a21 => k_is); (case i21 => k_is); (case l21 => k_is); (case c21 => k_is)
    (case k21 => k_is); (case a22 => k_is); (case l22 => k_is); (case c22 => k_is); (case k22 => k_is); (case a23 => k_is)
    (case l23 => k_is); (case c23 => k_is); (case k23 => k_is); (case a24 => k_is); (case l24 => k_is); (case c24 => k_is)
    (case k24 => k_is); (case a25 => k_is); (case l25 => k_is); (case c25 => k_is); (case k25 => k_is); (case a26 => k_is)
    (case l26 => k_is); (case c26 => k_is); (case k26 => k_is); (case a27 => k_is); (case l27 => k_is); (case c27 => k_is)
    (case k27 => k_is); (case a28 => k_is); (case i28 => k_is); (case l28 => k_is); (case c28 => k_is); (case k28 => k_is)
    (case a29 => k_is); (case y29 => k_is); (case l29 => k_is); (case c29 => k_is); (case k29 => k_is); (case a30 => k_is)
    (case l30 => k_is); (case c30 => k_is); (case k30 => k_is); (case a31 => k_is); (case l31 => k_is); (case c31 => k_is)
    (case k31 => k_is); (case a32 => k_is); (case l32 => k_is); (case c32 => k_is); (case k32 => k_is); (case a33 => k_is)
    (case l33 => k_is); (case c33 => k_is); (case k33 => k_is); (case a34 => k_is); (case l34 => k_is); (case c34 => k_is)
    (case k34 => k_is); (case a35 => k_is); (case l35 => k_is); (case c35 => k_is); (case k35 => k_is); (case a36 => k_is)
    (case i36 => k_is); (case l36 => k_is); (case c36 => k_is); (case k36 => k_is); (case a37 => k_is); (case i37 => k_is)
    (case l37 => k_is); (case c37 => k_is); (case k37 => k_is); (case a38 => k_is); (case i38 => k_is); (case l38 => k_is)
    (case c38 => k_is); (case k38 => k_is); (case a39 => k_is); (case l39 => k_is); (case c39 => k_is); (case k39 => k_is)
    (case a40 => k_is); (case l40 => k_is); (case c40 => k_is); (case k40 => k_is); (case a41 => k_is); (case l41 => k_is)
    (case c41 => k_is); (case k41 => k_is); (case a42 => k_is); (case l42 => k_is); (case c42 => k_is); (case k42 => k_is)
    (case a43 => k_is); (case l43 => k_is); (case c43 => k_is); (case k43 => k_is); (case a44 => k_is); (case l44 => k_is)
    (case c44 => k_is); (case k44 => k_is); (case a45 => k_is); (case l45 => k_is); (case c45 => k_is); (case k45 => k_is)
    (case a46 => k_is); (case l46 => k_is); (case c46 => k_is); (case k46 => k_is); (case a47 => k_is); (case l47 => k_is)
    (case c47 => k_is); (case k47 => k_is); (case a48 => k_is); (case l48 => k_is); (case c48 => k_is); (case k48 => k_is)
    (case vg0 => k_is); (case vg1 => k_is); (case vg2 => k_is); (case vg3 => k_is); (case vg4 => k_is); (case vg5 => k_is)
    (case vg6 => k_is); (case vg7 => k_is); (case vg8 => k_is); (case vg9 => k_is); (case vg10 => k_is); (case vg11 => k_is)
    (case vg12 => k_is); (case vg13 => k_is); (case vg14 => k_is); (case vg15 => k_is); (case vg16 => k_is); (case vg17 => k_is)
    (case vg18 => k_is); (case vg19 => k_is); (case vg20 => k_is); (case vg21 => k_is); (case vg22 => k_is); (case vg23 => k_is)
    (case vg24 => k_is); (case vg25 => k_is); (case vg26 => k_is); (case z0 => k_is); (case z1 => k_is); (case z2 => k_is)
    (case z3 => k_is); (case z4 => k_is); (case z5 => k_is); (case z6 => k_is); (case z7 => k_is); (case z8 => k_is)
    (case z9 => k_is); (case z10 => k_is); (case z11 => k_is); (case z12 => k_is); (case z13 => k_is); (case z14 => k_is)
    (case z15 => k_is); (case z16 => k_is)
