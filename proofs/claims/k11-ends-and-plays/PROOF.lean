import PyProof.Rows.All
import Wide.All
import OpenK.AllK
import Wide.FinOn
import KE.GoesNew
import KE.GoesMore
import KE.GoesZip
import KE.GoesEnum
import HandS.ForMost
import HandS.ForExc
import HandS.Walk
import HandS.Zip
import HandS.TupAny
import HandS.TupMul
import HandS.Style
import HandS.Defaults
import HandS.IsInst
import HandS.Strs
import HandS.More
import HandS.Conv
import PySem.Challenge.RW_neverheaps_k11_whole_ends_and_plays
import PyProof.ReprRoads
import PyProof.CallFns
import HandS.HeadEnd
import KE.KDictZip
import PyProof.ListNew
import HandS.ExcValue
import KE.KDictKeyed
import KE.KeyNested
import KE.KDictDisplayH
import KE.KDictWalk
import HandS.Dict
import HandS.TupLen
import HandS.ExcInit
import HandS.WordsExc
import HandS.TryOnly
import KE.KSortTupG
import KE.KSortTupUse
import HandS.TupLe
import HandS.DictComp
import PyProof.FitsInt
import PyProof.ReprText
import KE.KStateDown
import HandS.Base
import HandS.Call
import HandS.Ends
import HandS.Words
import HandS.Head0
import HandS.Head1
import HandS.Head2
import HandS.HeadHook1
import HandS.HeadHook2
import HandS.HeadHook3
import HandS.HeadHook4
set_option Elab.async false
set_option linter.all false
set_option maxRecDepth 100000
set_option maxHeartbeats 4000000
namespace K11
open PySem PySem.Spec PyProof.Rows L2

/-! ### heaps -/
theorem same_new {H : Hp} {p : Addr} {o : HO} (h : H p = none) : Same H (upd H p o) := fun b x e => by
  rw [upd_ne (ne_of_none e h)]
  exact e
theorem same_mut {H H' : Hp} {p : Addr} {o : HO} (e : Same H H') (h : H p = none) : Same H (upd H' p o) := fun b x q => by
  rw [upd_ne (ne_of_none q h)]
  exact e b x q
/-- the tuples stay -/
def Tp (H H' : Hp) : Prop := (∀ a xs, H a = some (.tup xs) → H' a = some (.tup xs)) ∧ ∀ a o xs, H a = some (.frz o (.tup xs)) → H' a = some (.frz o (.tup xs))
theorem Tp.refl (H : Hp) : Tp H H := ⟨fun _ _ h => h, fun _ _ _ h => h⟩
theorem Tp.trans {H H1 H2 : Hp} (a : Tp H H1) (b : Tp H1 H2) : Tp H H2 := ⟨fun x o h => b.1 x o (a.1 x o h), fun x p o h => b.2 x p o (a.2 x p o h)⟩
theorem tp_same {H H' : Hp} (e : Same H H') : Tp H H' := ⟨fun a xs h => e a _ h, fun a o xs h => e a _ h⟩
theorem tp_new {H : Hp} {p : Addr} {o : HO} (h : H p = none) : Tp H (upd H p o) := tp_same (same_new h)
theorem tp_mut {H : Hp} {p : Addr} {o u : HO} (h : H p = some u) (nt : ∀ xs, u ≠ .tup xs) (nf : ∀ x xs, u ≠ .frz x (.tup xs)) : Tp H (upd H p o) := ⟨fun a xs e => by
  rw [upd_ne (ne_of e h (fun z => nt xs z.symm))]
  exact e, fun a x xs e => by
  rw [upd_ne (ne_of e h (fun z => nf x xs z.symm))]
  exact e⟩
theorem tp_lst {H : Hp} {p : Addr} {o : HO} {ys : List V} (h : H p = some (.lst ys)) : Tp H (upd H p o) := tp_mut h (fun _ z => nomatch z) (fun _ _ z => nomatch z)

/-! ### what is walked: lists and tuples alike -/
section
variable {X : Cx} {pins : List (Addr × Obj)} {σ : L2.St} {H : Hp} {s : Shared} {a : Addr} {xs ys : List V}
def SrcAt (K : PySem.W.Frag) (H : Hp) (k : Bool) (a : Addr) (xs : List V) : Prop := match k with
  | true => SqL K H a xs
  | false => SqT K H a xs
def SrcIt (h : Heap) (k : Bool) (it a : Addr) (i : Nat) : Prop := match k with
  | true => h.IsListIter it a i
  | false => h.IsTupleIter it a i
def SrcOb (h : Heap) (k : Bool) (a : Addr) (its : Array Value) : Prop := match k with
  | true => h.IsList a its
  | false => h.IsTuple a its
def srcO (k : Bool) (a : Addr) : Obj := match k with
  | true => { cls := .type "list_iterator", data := .fields #[.ref a, .int 0 0] }
  | false => { cls := .type "tuple_iterator", data := .fields #[.ref a, .int 0 0] }
theorem inv_src (I : Inv X pins σ H s) {k : Bool} (h : SrcAt X.K H k a xs) : ∃ its : List Value, Vals xs its ∧ SrcOb s.heap k a its.toArray := by
  cases k with
  | true =>
    obtain ⟨its, r, p, _⟩ := I.list h
    exact ⟨its, r, p.isList⟩
  | false =>
    obtain ⟨its, r, p, _⟩ := I.tuple h
    exact ⟨its, r, p⟩
theorem src_inj (I : Inv X pins σ H s) {k : Bool} (h : SrcAt X.K H k a xs) (h' : SrcAt X.K H k a ys) : xs = ys := by
  cases k with
  | true => exact I.list_inj h h'
  | false => exact I.tuple_inj h h'
theorem src_same {K : PySem.W.Frag} {H H' : Hp} {k : Bool} (e : Same H H') (h : SrcAt K H k a xs) : SrcAt K H' k a xs := by
  cases k with
  | true => exact e.seq h
  | false =>
    have h1 : SqT K H a xs := h
    rcases h1 with (h1 | ⟨o, h1⟩) | h1
    · exact .inl (.inl (e _ _ h1))
    · exact .inl (.inr ⟨o, e _ _ h1⟩)
    · exact .inr h1
theorem src_of_tup {K : PySem.W.Frag} {H : Hp} (h : H a = some (.tup xs)) : SrcAt K H false a xs := SqT.of h
theorem src_of_lst {K : PySem.W.Frag} {H : Hp} (h : H a = some (.lst xs)) : SrcAt K H true a xs := SqL.of h
theorem srcIt_at {h h' : Heap} {k : Bool} {it a : Addr} {i : Nat} (x : SrcIt h k it a i) (e : ∀ o, h.get? it = some o → h'.get? it = some o) : SrcIt h' k it a i := by
  cases k with
  | true => exact Heap.IsListIter.at x e
  | false => exact Heap.IsTupleIter.at x e
theorem srcIt_obj {h : Heap} {k : Bool} {it a : Addr} {i : Nat} (x : SrcIt h k it a i) : ∃ o, h.get? it = some o ∧ ∀ v, o.data ≠ .cell v := by
  cases k with
  | true =>
    obtain ⟨o, e, c, d⟩ := x
    exact ⟨o, e, fun v z => by rw [d] at z; cases z⟩
  | false =>
    obtain ⟨o, e, c, d⟩ := x
    exact ⟨o, e, fun v z => by rw [d] at z; cases z⟩
theorem srcIt_lt {h : Heap} {k : Bool} {it a : Addr} {i : Nat} (x : SrcIt h k it a i) : it < h.objs.size := by
  obtain ⟨o, e, _⟩ := srcIt_obj x
  exact Heap.lt_size e
theorem srcOb_lt {h : Heap} {k : Bool} {a : Addr} {its : Array Value} (x : SrcOb h k a its) : a < h.objs.size := by
  cases k with
  | true =>
    obtain ⟨o, e, _⟩ := x
    exact Heap.lt_size e
  | false =>
    obtain ⟨o, e, _⟩ := x
    exact Heap.lt_size e
theorem draws_src {prog : Program} {w : World} {A : Around} {k : Bool} (hh : A.handled = none) (it a : Addr) (hne : a ≠ it) (items : Array Value) :
    Draws prog w A it [it, a] items.size (fun i v => items[i]? = some v) (fun i h => SrcIt h k it a i ∧ SrcOb h k a items) := by
  cases k with
  | true => exact Draws.list hh it a hne items
  | false => exact Draws.tuple hh it a hne items
theorem begins_src (k : Bool) (a : Addr) (items : Array Value) : Begins (.ref a) (srcO k a) fun h => SrcOb h k a items := by
  cases k with
  | true => exact begins_list a items
  | false => exact begins_tuple a items
theorem srcIt_new {h : Heap} {k : Bool} {it a : Addr} (e : h.get? it = some (srcO k a)) : SrcIt h k it a 0 := by
  cases k with
  | true => exact ⟨_, e, rfl, rfl⟩
  | false => exact ⟨_, e, rfl, rfl⟩
end

/-! ### zip of two -/
def Jz (K : PySem.W.Frag) (k1 k2 : Bool) (a b : Addr) : It :=
  ⟨fun i H => ∃ (xs ys : List V) (x y : V), SrcAt K H k1 a xs ∧ SrcAt K H k2 b ys ∧ xs[i]? = some x ∧ ys[i]? = some y,
    fun i H v H' => ∃ T x y, v = .ref T ∧ H T = none ∧ H' = upd H T (.tup [x, y]) ∧ (∀ xs, SrcAt K H k1 a xs → xs[i]? = some x) ∧ ∀ ys, SrcAt K H k2 b ys → ys[i]? = some y,
    fun i H => ∃ xs ys : List V, SrcAt K H k1 a xs ∧ SrcAt K H k2 b ys ∧ i = min xs.length ys.length⟩
theorem vals_at {xs : List V} {its : List Value} {i : Nat} {x : V} {u : Value} (r : Vals xs its) (hx : xs[i]? = some x) (hu : its.toArray[i]? = some u) : RelV x u := by
  obtain ⟨u', h1, h2⟩ := r.get hx
  have e : its[i]? = some u := by simpa using hu
  rw [e] at h1
  cases h1
  exact h2
theorem turn_z {P : Program} {w : World} {K : PySem.W.Frag} {elts : List Expr} {kk : Nat} {tpos : Pos} {k1 k2 : Bool} {a b z TI TO i1 i2 : Addr} (S : ZipSep2 z TI TO i1 i2 [i1, a] [i2, b]) (n1 : a ≠ i1) (n2 : b ≠ i2) :
    Turn P w K (.Tuple elts kk tpos) (Jz K k1 k2 a b) [z, TI, TO, i1, i2] z (fun i h => IsZip h z TI TO .none ∧ IsTupOf2 h TI (.ref i1) (.ref i2) ∧ (∃ x y, IsTupOf2 h TO x y) ∧ SrcIt h k1 i1 a i ∧ SrcIt h k2 i2 b i) where
  mem := by simp
  obj := fun i h st c hc => by
    obtain ⟨hz, hTI, ⟨x, y, hTO⟩, s1, s2⟩ := st
    have e' : c = z ∨ c = TI ∨ c = TO ∨ c = i1 ∨ c = i2 := by simpa using hc
    rcases e' with q | q | q | q | q
    · rw [q]; exact ⟨_, hz, fun v q => nomatch q⟩
    · rw [q]; exact ⟨_, hTI, fun v q => nomatch q⟩
    · rw [q]; exact ⟨_, hTO, fun v q => nomatch q⟩
    · rw [q]; exact srcIt_obj s1
    · rw [q]; exact srcIt_obj s2
  keep := fun i h h' st k => by
    obtain ⟨hz, hTI, ⟨x, y, hTO⟩, h1, h2⟩ := st
    exact ⟨k z (by simp) _ hz, k TI (by simp) _ hTI, ⟨x, y, k TO (by simp) _ hTO⟩, srcIt_at h1 fun o q => k i1 (by simp) o q, srcIt_at h2 fun o q => k i2 (by simp) o q⟩
  item := by
    intro X hP hw hK hc i pins s σ H E I hf st hg
    subst hP hw hK
    obtain ⟨hz, hTI, hTO, h1, h2⟩ := st
    obtain ⟨xs, ys, x, y, hqx, hqy, hx, hy⟩ := hg
    obtain ⟨its, rv, p⟩ := inv_src I hqx
    obtain ⟨its2, rv2, p2⟩ := inv_src I hqy
    have hh : X.A.in1.handled = none := I.ok.hd hc
    have W := GoesN.ofWalksT (elts := elts) (k := kk) (pos := tpos) (WalksT.zipD2 (A := X.A) S (draws_src (prog := X.prog) (w := X.w) (k := k1) hh i1 a n1 its.toArray) (draws_src (prog := X.prog) (w := X.w) (k := k2) hh i2 b n2 its2.toArray))
    have l1 := rv.length
    have l2 := rv2.length
    have lx := (List.getElem?_eq_some_iff.mp hx).1
    have ly := (List.getElem?_eq_some_iff.mp hy).1
    refine W.goes i s _ E (by simp; omega) ⟨hz, hTI, hTO, ⟨h1, p⟩, ⟨h2, p2⟩⟩ fun v h' tk hY st' hk htk => ?_
    obtain ⟨T, vals, rfl, hT, ⟨u1, u2, hu1, hu2, rfl⟩, hTup⟩ := hY
    obtain ⟨hz', hTI', hTO', ⟨h1', _⟩, ⟨h2', _⟩⟩ := st'
    have ru := vals_at rv hx hu1
    have ru2 := vals_at rv2 hy hu2
    have new : ObjOk X.prog X.w (upd H T (.tup [x, y])) h' T (.tup [x, y]) := ⟨by show 2 ≤ sizeLine; decide, [u1, u2], .cons ru (.cons ru2 .nil), hTup⟩
    have I1 : Inv X pins σ (upd H T (.tup [x, y])) { s with heap := h', toks := tk } :=
      I.turnedNew (ch := [z, TI, TO, i1, i2]) (fun c o hb q => hk c o (fun q' => hb (by
        have e' : c = z ∨ c = TO ∨ c = i1 ∨ c = i2 := by simpa using q'
        rcases e' with e | e | e | e <;> simp [e])) q) hf hT new
    refine ⟨.ref T, _, I1, rfl, ⟨T, x, y, rfl, I.hok.fresh hT, rfl, fun l hl => by rw [src_inj I hl hqx]; exact hx, fun l hl => by rw [src_inj I hl hqy]; exact hy⟩, ⟨hz', hTI', hTO', h1', h2'⟩, fun c hcm => ?_⟩
    have hlt : c < s.heap.objs.size := by
      have e' : c = z ∨ c = TI ∨ c = TO ∨ c = i1 ∨ c = i2 := by simpa using hcm
      obtain ⟨_, _, hTO2⟩ := hTO
      rcases e' with q | q | q | q | q
      · rw [q]; exact Heap.lt_size hz
      · rw [q]; exact Heap.lt_size hTI
      · rw [q]; exact Heap.lt_size hTO2
      · rw [q]; exact srcIt_lt h1
      · rw [q]; exact srcIt_lt h2
    rw [upd_ne (Nat.ne_of_lt (Nat.lt_of_lt_of_le hlt hT))]
    exact (hf c hcm).1
  done := by
    intro X hP hw hK hc i pins s σ H E I hf st hg
    subst hP hw hK
    obtain ⟨hz, hTI, hTO, h1, h2⟩ := st
    obtain ⟨xs, ys, hqx, hqy, hend⟩ := hg
    obtain ⟨its, rv, p⟩ := inv_src I hqx
    obtain ⟨its2, rv2, p2⟩ := inv_src I hqy
    have hh : X.A.in1.handled = none := I.ok.hd hc
    have W := GoesN.ofWalksT (elts := elts) (k := kk) (pos := tpos) (WalksT.zipD2 (A := X.A) S (draws_src (prog := X.prog) (w := X.w) (k := k1) hh i1 a n1 its.toArray) (draws_src (prog := X.prog) (w := X.w) (k := k2) hh i2 b n2 its2.toArray))
    have l1 := rv.length
    have l2 := rv2.length
    have en : min its.toArray.size its2.toArray.size = i := by simp; omega
    refine W.stops s _ E (by rw [en]; exact ⟨hz, hTI, hTO, ⟨h1, p⟩, ⟨h2, p2⟩⟩) fun h' tk hk htk => ?_
    exact I.turnedL (t' := tk) (ch := [z, TI, TO, i1, i2]) (fun c o hb q => hk c o (fun q' => hb (by
        have e' : c = z ∨ c = TO ∨ c = i1 ∨ c = i2 := by simpa using q'
        rcases e' with e | e | e | e <;> simp [e])) q) hf
  self := fun A i s Q E st h => wpAny_pyIter_zip st.1 h

def iZ2 (K : PySem.W.Frag) (ta : TA) : TI := fun σ H R => ta σ H fun vs H1 => ∃ k1 k2 a b xs ys, vs = [.ref a, .ref b] ∧ SrcAt K H1 k1 a xs ∧ SrcAt K H1 k2 b ys ∧ R (Jz K k1 k2 a b) H1
theorem pi_z2 {X : Cx} {e e2 : Expr} {ta : TA} {p pos tpos : Pos} {elts : List Expr} {kk : Nat} (hg : Gl X "zip") (hm : X.mg "zip" = none) (ha : PA X [e, e2] ta)
    (hs : starEach [e, e2] X.env = (false, eval e X.env) :: starEach [e2] X.env := by rfl) (hpl : (backTo pos (starEach [e2] X.env)).any (·.1) = false := by rfl) :
    PI X (.Tuple elts kk tpos) (.Call (.Name "zip" p) [e, e2] [] pos) (iZ2 X.K ta) := by
  refine ⟨fun pins s σ H R I h => ?_⟩
  refine Call_ (ld_blt I hg hm PyProof.Rows.boot_zip (PyProof.Rows.callWith_type1 (thn (ha.run pos pins s σ H _ I h) fun us s1 ⟨vs, H1, I1, r1, q1⟩ => ?_) hs hpl))
  obtain ⟨k1, k2, a, b, xs, ys, ex, hqx, hqy, q⟩ := q1
  subst ex
  cases r1 with
  | cons r rr =>
    cases rr with
    | cons r' rr =>
      cases rr
      cases r
      cases r'
      obtain ⟨its, rv, p1⟩ := inv_src I1 hqx
      obtain ⟨its2, rv2, p2⟩ := inv_src I1 hqy
      have la := srcOb_lt p1
      have lb := srcOb_lt p2
      refine zip_begins2 (begins_src k1 a its.toArray) (begins_src k2 b its2.toArray) p1 p2 fun h' hz hTI hTO e1 e2 hsz hk => wpAny_pyIter_zip hz ?_
      have I2 : Inv X pins σ H1 { s1 with heap := h' } := I1.kept (t' := s1.toks) hk
      have S := zip_sep2 (N := s1.heap.objs.size) (fp1 := [a]) (fp2 := [b]) (fun c hc => by rw [List.mem_singleton.mp hc]; exact la) (fun c hc => by rw [List.mem_singleton.mp hc]; exact lb)
      refine ⟨s1.heap.objs.size + 4, [s1.heap.objs.size + 4, s1.heap.objs.size + 2, s1.heap.objs.size + 3, s1.heap.objs.size, s1.heap.objs.size + 1], _, _, H1, rfl, I2,
        turn_z (k1 := k1) (k2 := k2) S (Nat.ne_of_lt la) (Nat.ne_of_lt (Nat.lt_of_lt_of_le lb (Nat.le_succ _))), ⟨hz, hTI, ⟨_, _, hTO⟩, srcIt_new e1, srcIt_new e2⟩, fun c hcm => ?_, q⟩
      have e' : c = s1.heap.objs.size + 4 ∨ c = s1.heap.objs.size + 2 ∨ c = s1.heap.objs.size + 3 ∨ c = s1.heap.objs.size ∨ c = s1.heap.objs.size + 1 := by simpa using hcm
      have hle : s1.heap.objs.size ≤ c := by
        rcases e' with z | z | z | z | z
        · rw [z]; exact Nat.le_add_right _ _
        · rw [z]; exact Nat.le_add_right _ _
        · rw [z]; exact Nat.le_add_right _ _
        · rw [z]; exact Nat.le_refl _
        · rw [z]; exact Nat.le_add_right _ _
      exact I1.fpOk hle (I1.hok.fresh hle)

/-! ### zip of three -/
def Jz3 (K : PySem.W.Frag) (k1 k2 k3 : Bool) (a b d : Addr) : It :=
  ⟨fun i H => ∃ (xs ys zs : List V) (x y u : V), SrcAt K H k1 a xs ∧ SrcAt K H k2 b ys ∧ SrcAt K H k3 d zs ∧ xs[i]? = some x ∧ ys[i]? = some y ∧ zs[i]? = some u,
    fun i H v H' => ∃ T x y u, v = .ref T ∧ H T = none ∧ H' = upd H T (.tup [x, y, u]) ∧ (∀ xs, SrcAt K H k1 a xs → xs[i]? = some x) ∧ (∀ ys, SrcAt K H k2 b ys → ys[i]? = some y) ∧ ∀ zs, SrcAt K H k3 d zs → zs[i]? = some u,
    fun i H => ∃ xs ys zs : List V, SrcAt K H k1 a xs ∧ SrcAt K H k2 b ys ∧ SrcAt K H k3 d zs ∧ i = min (min xs.length ys.length) zs.length⟩
theorem turn_z3 {P : Program} {w : World} {K : PySem.W.Frag} {elts : List Expr} {kk : Nat} {tpos : Pos} {k1 k2 k3 : Bool} {a b d z TI TO i1 i2 i3 : Addr} (S : ZipSep3 z TI TO i1 i2 i3 [i1, a] [i2, b] [i3, d]) (n1 : a ≠ i1) (n2 : b ≠ i2) (n3 : d ≠ i3) :
    Turn P w K (.Tuple elts kk tpos) (Jz3 K k1 k2 k3 a b d) [z, TI, TO, i1, i2, i3] z (fun i h => IsZip h z TI TO .none ∧ IsTupOf3 h TI (.ref i1) (.ref i2) (.ref i3) ∧ (∃ x y u, IsTupOf3 h TO x y u) ∧ SrcIt h k1 i1 a i ∧ SrcIt h k2 i2 b i ∧ SrcIt h k3 i3 d i) where
  mem := by simp
  obj := fun i h st c hc => by
    obtain ⟨hz, hTI, ⟨x, y, u, hTO⟩, s1, s2, s3⟩ := st
    have e' : c = z ∨ c = TI ∨ c = TO ∨ c = i1 ∨ c = i2 ∨ c = i3 := by simpa using hc
    rcases e' with q | q | q | q | q | q
    · rw [q]; exact ⟨_, hz, fun v q => nomatch q⟩
    · rw [q]; exact ⟨_, hTI, fun v q => nomatch q⟩
    · rw [q]; exact ⟨_, hTO, fun v q => nomatch q⟩
    · rw [q]; exact srcIt_obj s1
    · rw [q]; exact srcIt_obj s2
    · rw [q]; exact srcIt_obj s3
  keep := fun i h h' st k => by
    obtain ⟨hz, hTI, ⟨x, y, u, hTO⟩, h1, h2, h3⟩ := st
    exact ⟨k z (by simp) _ hz, k TI (by simp) _ hTI, ⟨x, y, u, k TO (by simp) _ hTO⟩, srcIt_at h1 fun o q => k i1 (by simp) o q, srcIt_at h2 fun o q => k i2 (by simp) o q, srcIt_at h3 fun o q => k i3 (by simp) o q⟩
  item := by
    intro X hP hw hK hc i pins s σ H E I hf st hg
    subst hP hw hK
    obtain ⟨hz, hTI, hTO, h1, h2, h3⟩ := st
    obtain ⟨xs, ys, zs, x, y, v, hqx, hqy, hqz, hx, hy, hv⟩ := hg
    obtain ⟨its, rv, p⟩ := inv_src I hqx
    obtain ⟨its2, rv2, p2⟩ := inv_src I hqy
    obtain ⟨its3, rv3, p3⟩ := inv_src I hqz
    have hh : X.A.in1.handled = none := I.ok.hd hc
    have W := GoesN.ofWalksT (elts := elts) (k := kk) (pos := tpos) (WalksT.zipD3 (A := X.A) S (draws_src (prog := X.prog) (w := X.w) (k := k1) hh i1 a n1 its.toArray) (draws_src (prog := X.prog) (w := X.w) (k := k2) hh i2 b n2 its2.toArray) (draws_src (prog := X.prog) (w := X.w) (k := k3) hh i3 d n3 its3.toArray))
    have l1 := rv.length
    have l2 := rv2.length
    have l3 := rv3.length
    have lx := (List.getElem?_eq_some_iff.mp hx).1
    have ly := (List.getElem?_eq_some_iff.mp hy).1
    have lv := (List.getElem?_eq_some_iff.mp hv).1
    refine W.goes i s _ E (by simp; omega) ⟨hz, hTI, hTO, ⟨h1, p⟩, ⟨h2, p2⟩, ⟨h3, p3⟩⟩ fun v0 h' tk hY st' hk htk => ?_
    obtain ⟨T, vals, rfl, hT, ⟨u1, u2, u3, hu1, hu2, hu3, rfl⟩, hTup⟩ := hY
    obtain ⟨hz', hTI', hTO', ⟨h1', _⟩, ⟨h2', _⟩, ⟨h3', _⟩⟩ := st'
    have ru := vals_at rv hx hu1
    have ru2 := vals_at rv2 hy hu2
    have ru3 := vals_at rv3 hv hu3
    have new : ObjOk X.prog X.w (upd H T (.tup [x, y, v])) h' T (.tup [x, y, v]) := ⟨by show 3 ≤ sizeLine; decide, [u1, u2, u3], .cons ru (.cons ru2 (.cons ru3 .nil)), hTup⟩
    have I1 : Inv X pins σ (upd H T (.tup [x, y, v])) { s with heap := h', toks := tk } :=
      I.turnedNew (ch := [z, TI, TO, i1, i2, i3]) (fun c o hb q => hk c o (fun q' => hb (by
        have e' : c = z ∨ c = TO ∨ c = i1 ∨ c = i2 ∨ c = i3 := by simpa using q'
        rcases e' with e | e | e | e | e <;> simp [e])) q) hf hT new
    refine ⟨.ref T, _, I1, rfl, ⟨T, x, y, v, rfl, I.hok.fresh hT, rfl, fun l hl => by rw [src_inj I hl hqx]; exact hx, fun l hl => by rw [src_inj I hl hqy]; exact hy, fun l hl => by rw [src_inj I hl hqz]; exact hv⟩, ⟨hz', hTI', hTO', h1', h2', h3'⟩, fun c hcm => ?_⟩
    have hlt : c < s.heap.objs.size := by
      have e' : c = z ∨ c = TI ∨ c = TO ∨ c = i1 ∨ c = i2 ∨ c = i3 := by simpa using hcm
      obtain ⟨_, _, _, hTO2⟩ := hTO
      rcases e' with q | q | q | q | q | q
      · rw [q]; exact Heap.lt_size hz
      · rw [q]; exact Heap.lt_size hTI
      · rw [q]; exact Heap.lt_size hTO2
      · rw [q]; exact srcIt_lt h1
      · rw [q]; exact srcIt_lt h2
      · rw [q]; exact srcIt_lt h3
    rw [upd_ne (Nat.ne_of_lt (Nat.lt_of_lt_of_le hlt hT))]
    exact (hf c hcm).1
  done := by
    intro X hP hw hK hc i pins s σ H E I hf st hg
    subst hP hw hK
    obtain ⟨hz, hTI, hTO, h1, h2, h3⟩ := st
    obtain ⟨xs, ys, zs, hqx, hqy, hqz, hend⟩ := hg
    obtain ⟨its, rv, p⟩ := inv_src I hqx
    obtain ⟨its2, rv2, p2⟩ := inv_src I hqy
    obtain ⟨its3, rv3, p3⟩ := inv_src I hqz
    have hh : X.A.in1.handled = none := I.ok.hd hc
    have W := GoesN.ofWalksT (elts := elts) (k := kk) (pos := tpos) (WalksT.zipD3 (A := X.A) S (draws_src (prog := X.prog) (w := X.w) (k := k1) hh i1 a n1 its.toArray) (draws_src (prog := X.prog) (w := X.w) (k := k2) hh i2 b n2 its2.toArray) (draws_src (prog := X.prog) (w := X.w) (k := k3) hh i3 d n3 its3.toArray))
    have l1 := rv.length
    have l2 := rv2.length
    have l3 := rv3.length
    have en : min (min its.toArray.size its2.toArray.size) its3.toArray.size = i := by simp; omega
    refine W.stops s _ E (by rw [en]; exact ⟨hz, hTI, hTO, ⟨h1, p⟩, ⟨h2, p2⟩, ⟨h3, p3⟩⟩) fun h' tk hk htk => ?_
    exact I.turnedL (t' := tk) (ch := [z, TI, TO, i1, i2, i3]) (fun c o hb q => hk c o (fun q' => hb (by
        have e' : c = z ∨ c = TO ∨ c = i1 ∨ c = i2 ∨ c = i3 := by simpa using q'
        rcases e' with e | e | e | e | e <;> simp [e])) q) hf
  self := fun A i s Q E st h => wpAny_pyIter_zip st.1 h

def iZ3 (K : PySem.W.Frag) (ta : TA) : TI := fun σ H R => ta σ H fun vs H1 => ∃ k1 k2 k3 a b d xs ys zs, vs = [.ref a, .ref b, .ref d] ∧ SrcAt K H1 k1 a xs ∧ SrcAt K H1 k2 b ys ∧ SrcAt K H1 k3 d zs ∧ R (Jz3 K k1 k2 k3 a b d) H1
theorem pi_z3 {X : Cx} {e e2 e3 : Expr} {ta : TA} {p pos tpos : Pos} {elts : List Expr} {kk : Nat} (hg : Gl X "zip") (hm : X.mg "zip" = none) (ha : PA X [e, e2, e3] ta)
    (hs : starEach [e, e2, e3] X.env = (false, eval e X.env) :: starEach [e2, e3] X.env := by rfl) (hpl : (backTo pos (starEach [e2, e3] X.env)).any (·.1) = false := by rfl) :
    PI X (.Tuple elts kk tpos) (.Call (.Name "zip" p) [e, e2, e3] [] pos) (iZ3 X.K ta) := by
  refine ⟨fun pins s σ H R I h => ?_⟩
  refine Call_ (ld_blt I hg hm PyProof.Rows.boot_zip (PyProof.Rows.callWith_type1 (thn (ha.run pos pins s σ H _ I h) fun us s1 ⟨vs, H1, I1, r1, q1⟩ => ?_) hs hpl))
  obtain ⟨k1, k2, k3, a, b, d, xs, ys, zs, ex, hqx, hqy, hqz, q⟩ := q1
  subst ex
  cases r1 with
  | cons r rr =>
    cases rr with
    | cons r' rr =>
      cases rr with
      | cons r'' rr =>
      cases rr
      cases r
      cases r'
      cases r''
      obtain ⟨its, rv, p1⟩ := inv_src I1 hqx
      obtain ⟨its2, rv2, p2⟩ := inv_src I1 hqy
      obtain ⟨its3, rv3, p3⟩ := inv_src I1 hqz
      have la := srcOb_lt p1
      have lb := srcOb_lt p2
      have ld := srcOb_lt p3
      refine zip_begins3 (begins_src k1 a its.toArray) (begins_src k2 b its2.toArray) (begins_src k3 d its3.toArray) p1 p2 p3 fun h' hz hTI hTO e1 e2 e3 hsz hk => wpAny_pyIter_zip hz ?_
      have I2 : Inv X pins σ H1 { s1 with heap := h' } := I1.kept (t' := s1.toks) hk
      have S := zip_sep3 (N := s1.heap.objs.size) (fp1 := [a]) (fp2 := [b]) (fp3 := [d]) (fun c hc => by rw [List.mem_singleton.mp hc]; exact la) (fun c hc => by rw [List.mem_singleton.mp hc]; exact lb) (fun c hc => by rw [List.mem_singleton.mp hc]; exact ld)
      refine ⟨s1.heap.objs.size + 5, [s1.heap.objs.size + 5, s1.heap.objs.size + 3, s1.heap.objs.size + 4, s1.heap.objs.size, s1.heap.objs.size + 1, s1.heap.objs.size + 2], _, _, H1, rfl, I2,
        turn_z3 (k1 := k1) (k2 := k2) (k3 := k3) S (Nat.ne_of_lt la) (Nat.ne_of_lt (Nat.lt_of_lt_of_le lb (Nat.le_succ _))) (Nat.ne_of_lt (Nat.lt_of_lt_of_le ld (Nat.le_add_right _ _))), ⟨hz, hTI, ⟨_, _, _, hTO⟩, srcIt_new e1, srcIt_new e2, srcIt_new e3⟩, fun c hcm => ?_, q⟩
      have e' : c = s1.heap.objs.size + 5 ∨ c = s1.heap.objs.size + 3 ∨ c = s1.heap.objs.size + 4 ∨ c = s1.heap.objs.size ∨ c = s1.heap.objs.size + 1 ∨ c = s1.heap.objs.size + 2 := by simpa using hcm
      have hle : s1.heap.objs.size ≤ c := by
        rcases e' with z | z | z | z | z | z
        · rw [z]; exact Nat.le_add_right _ _
        · rw [z]; exact Nat.le_add_right _ _
        · rw [z]; exact Nat.le_add_right _ _
        · rw [z]; exact Nat.le_refl _
        · rw [z]; exact Nat.le_add_right _ _
        · rw [z]; exact Nat.le_add_right _ _
      exact I1.fpOk hle (I1.hok.fresh hle)
end K11

set_option Elab.async false
set_option linter.all false
set_option maxRecDepth 100000
set_option maxHeartbeats 4000000
namespace K11
open PySem PySem.Spec PyProof.Rows L2

def YTrip (xs ys zs : Nat → Option V) : Nat → Hp → V → Hp → Prop := fun i H v H' => ∃ T x y z, v = .ref T ∧ H T = none ∧ H' = upd H T (.tup [x, y, z]) ∧ xs i = some x ∧ ys i = some y ∧ zs i = some z
section
variable {K : PySem.W.Frag} {k1 k2 k3 : Bool} {a b d : Addr} {xs ys zs : List V}
theorem walk_z {n : Nat} (hn : n = min xs.length ys.length) : Walk (Jz K k1 k2 a b) n (fun H => SrcAt K H k1 a xs ∧ SrcAt K H k2 b ys) (YPair (fun i => xs[i]?) (fun i => ys[i]?)) := by
  subst hn
  refine ⟨fun i _ hi q => ?_, fun _ q => ⟨xs, ys, q.1, q.2, rfl⟩, fun i H v H' _ q y => ?_⟩
  · have h1 : i < xs.length := by omega
    have h2 : i < ys.length := by omega
    exact ⟨xs, ys, xs[i], ys[i], q.1, q.2, by simp [h1], by simp [h2]⟩
  · obtain ⟨T, x, z, h1, h2, h3, h4, h5⟩ := y
    exact ⟨T, x, z, h1, h2, h3, h4 xs q.1, h5 ys q.2⟩
theorem walk_z3 {n : Nat} (hn : n = min (min xs.length ys.length) zs.length) : Walk (Jz3 K k1 k2 k3 a b d) n (fun H => SrcAt K H k1 a xs ∧ SrcAt K H k2 b ys ∧ SrcAt K H k3 d zs) (YTrip (fun i => xs[i]?) (fun i => ys[i]?) (fun i => zs[i]?)) := by
  subst hn
  refine ⟨fun i _ hi q => ?_, fun _ q => ⟨xs, ys, zs, q.1, q.2.1, q.2.2, rfl⟩, fun i H v H' _ q y => ?_⟩
  · have h1 : i < xs.length := by omega
    have h2 : i < ys.length := by omega
    have h3 : i < zs.length := by omega
    exact ⟨xs, ys, zs, xs[i], ys[i], zs[i], q.1, q.2.1, q.2.2, by simp [h1], by simp [h2], by simp [h3]⟩
  · obtain ⟨T, x, z, u, h1, h2, h3, h4, h5, h6⟩ := y
    exact ⟨T, x, z, u, h1, h2, h3, h4 xs q.1, h5 ys q.2.1, h6 zs q.2.2⟩
end

/-! ### comprehensions -/
theorem wipe_in {σ : L2.St} {k : Nat} : ∀ {vs : List Nat}, k ∈ vs → k < σ.length → (wipe σ vs)[k]? = some none
  | v :: vs, h, l => by
    unfold wipe
    rw [List.getElem?_set]
    by_cases e : v = k
    · rw [if_pos e, if_pos (by rw [wipe_length]; omega)]
    · rw [if_neg e]
      exact wipe_in ((List.mem_cons.mp h).resolve_left fun q => e q.symm) l
theorem wipe_eq {σ τ : L2.St} {vs : List Nat} (hl : σ.length = τ.length) (h : ∀ k, k ∉ vs → σ[k]? = τ[k]?) : wipe σ vs = wipe τ vs := by
  apply List.ext_getElem?
  intro k
  by_cases hk : k ∈ vs
  · by_cases hl' : k < σ.length
    · rw [wipe_in hk hl', wipe_in hk (by omega)]
    · rw [List.getElem?_eq_none (by rw [wipe_length]; omega), List.getElem?_eq_none (by rw [wipe_length]; omega)]
  · rw [wipe_out hk, wipe_out hk]
    exact h k hk
theorem wipe1 {σ : L2.St} {vs : List Nat} {i : Nat} {x : Option V} (h : i ∈ vs) : wipe ((wipe σ vs).set i x) vs = wipe σ vs := by
  refine wipe_eq (by rw [List.length_set, wipe_length]) fun k hk => ?_
  rw [List.getElem?_set_ne (fun e => hk (by rw [← e]; exact h)), wipe_out hk]
theorem wipe2 {σ : L2.St} {vs : List Nat} {i j : Nat} {x y : Option V} (h : i ∈ vs) (h2 : j ∈ vs) : wipe (((wipe σ vs).set i x).set j y) vs = wipe σ vs := by
  refine wipe_eq (by rw [List.length_set, List.length_set, wipe_length]) fun k hk => ?_
  rw [List.getElem?_set_ne (fun e => hk (by rw [← e]; exact h2)), List.getElem?_set_ne (fun e => hk (by rw [← e]; exact h)), wipe_out hk]
theorem wipe3 {σ : L2.St} {vs : List Nat} {i j l : Nat} {x y z : Option V} (h : i ∈ vs) (h2 : j ∈ vs) (h3 : l ∈ vs) : wipe ((((wipe σ vs).set i x).set j y).set l z) vs = wipe σ vs := by
  refine wipe_eq (by rw [List.length_set, List.length_set, List.length_set, wipe_length]) fun k hk => ?_
  rw [List.getElem?_set_ne (fun e => hk (by rw [← e]; exact h3)), List.getElem?_set_ne (fun e => hk (by rw [← e]; exact h2)), List.getElem?_set_ne (fun e => hk (by rw [← e]; exact h)), wipe_out hk]
theorem range_filter_succ (f : Nat → Bool) (i : Nat) : (List.range (i + 1)).filter f = (List.range i).filter f ++ (if f i = true then [i] else []) := by
  rw [List.range_succ, List.filter_append]
  congr 1
  by_cases h : f i = true
  · rw [if_pos h]
    simp [h]
  · rw [if_neg h]
    simp [h]
theorem paired_len {α β : Type} {F : α → β → Prop} : ∀ {l : List α} {r : List β}, Paired F l r → l.length = r.length
  | _, _, .nil => rfl
  | _, _, .cons _ t => by rw [List.length_cons, List.length_cons, paired_len t]
/-- any walk: at turn i kept if f i; the item has P i, which stays while the tuples stay -/
theorem lcG {J : It} {n : Nat} {G : Hp → Prop} {Y : Nat → Hp → V → Hp → Prop} (w : Walk J n G Y) {g : TG} {tt : TT} {te : TE} {vs : List Nat} {σ : L2.St} {H1 : Hp} {Q : VK}
    (hG : ∀ H, Same H1 H → G H) (f : Nat → Bool) (P : Nat → V → Hp → Prop) (hP : ∀ i y H H', Tp H H' → P i y H → P i y H') (hn : n ≤ 1000000) (hY : ∀ i H x H', Y i H x H' → Same H H')
    (hs : ∀ i x H H', i < n → Same H1 H' → Y i H x H' → ∀ (K : V → Hp → Prop) (N : Hp → Prop), (f i = true → ∀ y H4, Same H' H4 → P i y H4 → K y H4) → (f i = false → ∀ H4, Same H' H4 → N H4) →
      g x (wipe σ vs) H' fun σ2 H2 => wipe σ2 vs = wipe σ vs ∧ tt σ2 H2 fun b H3 => if b = true then te σ2 H3 K else N H3)
    (hd : ∀ D H' ys, H1 D = none → Same H1 H' → H' D = some (.lst ys) → Paired (fun i y => P i y H') ((List.range n).filter f) ys → Q (.ref D) H') :
    ∀ D, H1 D = none → ∃ W : Nat → Nat → Hp → Prop, (∃ m, W 0 m (upd H1 D (.lst []))) ∧ ∀ i m H, W i m H →
      (J.stop i H ∧ Q (.ref D) H) ∨ (J.go i H ∧ ∃ Nx : Hp → Prop, (∀ H', Nx H' → ∃ m', m' < m ∧ W (i + 1) m' H') ∧ ∀ x H', J.yld i H x H' → g x (wipe σ vs) H' fun σ2 H2 => wipe σ2 vs = wipe σ vs ∧ tt σ2 H2 fun b H3 =>
        if b = true then te σ2 H3 fun y H4 => ∃ acc, H4 D = some (.lst acc) ∧ acc.length < sizeLine ∧ Nx (upd H4 D (.lst (acc ++ [y]))) else Nx H3) := fun D hD => by
  refine lc_it w (Qd := fun H => Q (.ref D) H) (fun i H => i ≤ n ∧ Same H1 H ∧ ∃ ys, H D = some (.lst ys) ∧ Paired (fun i y => P i y H) ((List.range i).filter f) ys)
    ⟨Nat.zero_le _, same_new hD, [], upd_same, .nil⟩ (fun i H _ p => hG H p.2.1) (fun i x H H' hi p y => ?_) (fun H p => ?_)
  · obtain ⟨_, sm, ys, eD, pr⟩ := p
    have s1 := hY i H x H' y
    have len : ys.length ≤ i := by
      have e := paired_len pr
      have l := List.length_filter_le f (List.range i)
      rw [List.length_range] at l
      omega
    refine hs i x H H' hi (sm.trans s1) y _ _ (fun hf z H4 s4 pz => ?_) (fun hf H4 s4 => ?_)
    · have e4 : H4 D = some (.lst ys) := s4 _ _ (s1 _ _ eD)
      refine ⟨ys, e4, Nat.lt_of_lt_of_le (show ys.length < 1000000 by omega) (by decide), hi, same_mut ((sm.trans s1).trans s4) hD, ys ++ [z], upd_same, ?_⟩
      rw [range_filter_succ, if_pos hf]
      exact Paired.snoc (Paired.mapP pr fun i y q => hP i y _ _ (tp_lst e4) (hP i y _ _ (tp_same s4) (hP i y _ _ (tp_same s1) q))) (hP i z _ _ (tp_lst e4) pz)
    · have e4 : H4 D = some (.lst ys) := s4 _ _ (s1 _ _ eD)
      refine ⟨hi, (sm.trans s1).trans s4, ys, e4, ?_⟩
      rw [range_filter_succ, if_neg (by rw [hf]; decide), List.append_nil]
      exact Paired.mapP pr fun i y q => hP i y _ _ (tp_same s4) (hP i y _ _ (tp_same s1) q)
  · obtain ⟨_, sm, ys, eD, pr⟩ := p
    exact hd D H ys hD sm eD pr
theorem paired_eq {α : Type} {v : Nat → α} : ∀ {l : List Nat} {ys : List α}, Paired (fun i y => y = v i) l ys → ys = l.map v
  | _, _, .nil => rfl
  | _, _, .cons h t => by rw [h, paired_eq t] <;> rfl
theorem ypair_same {xs ys : Nat → Option V} {i : Nat} {H : Hp} {x : V} {H' : Hp} (y : YPair xs ys i H x H') : Same H H' := by
  obtain ⟨T, a, b, _, h, e, _⟩ := y
  rw [e]
  exact same_new h
theorem ytrip_same {xs ys zs : Nat → Option V} {i : Nat} {H : Hp} {x : V} {H' : Hp} (y : YTrip xs ys zs i H x H') : Same H H' := by
  obtain ⟨T, a, b, c, _, h, e, _⟩ := y
  rw [e]
  exact same_new h
section
variable {K : PySem.W.Frag} {tt : TT} {te : TE} {vs : List Nat} {σ : L2.St} {H1 : Hp} {Q : VK} {k1 k2 k3 : Bool} {a b d : Addr} {xs ys zs : List V}
/-- what is asked of an element: kept if f, then P -/
def Elt (tt : TT) (te : TE) (σ : L2.St) (H' : Hp) (f : Bool) (P : V → Hp → Prop) : Prop :=
  ∀ (K : V → Hp → Prop) (N : Hp → Prop), (f = true → ∀ y H4, Same H' H4 → P y H4 → K y H4) → (f = false → ∀ H4, Same H' H4 → N H4) → tt σ H' fun b H3 => if b = true then te σ H3 K else N H3
/-- the shape of a comprehension's reading behind its walked thing -/
def LcTail (J : It) (g : TG) (tt : TT) (te : TE) (vs : List Nat) (σ : L2.St) (H1 : Hp) (Q : VK) : Prop :=
  ∀ D, H1 D = none → ∃ W : Nat → Nat → Hp → Prop, (∃ m, W 0 m (upd H1 D (.lst []))) ∧ ∀ i m H, W i m H →
      (J.stop i H ∧ Q (.ref D) H) ∨ (J.go i H ∧ ∃ Nx : Hp → Prop, (∀ H', Nx H' → ∃ m', m' < m ∧ W (i + 1) m' H') ∧ ∀ x H', J.yld i H x H' → g x (wipe σ vs) H' fun σ2 H2 => wipe σ2 vs = wipe σ vs ∧ tt σ2 H2 fun b H3 =>
        if b = true then te σ2 H3 fun y H4 => ∃ acc, H4 D = some (.lst acc) ∧ acc.length < sizeLine ∧ Nx (upd H4 D (.lst (acc ++ [y]))) else Nx H3)
theorem lcZ {i j : Nat} {n : Nat} (h1 : SrcAt K H1 k1 a xs) (h2 : SrcAt K H1 k2 b ys) (en : n = min xs.length ys.length) (f : Nat → Bool) (P : Nat → V → Hp → Prop) (hP : ∀ i y H H', Tp H H' → P i y H → P i y H') (hn : n ≤ 1000000)
    (hwi : i ∈ vs) (hwj : j ∈ vs)
    (he : ∀ k x y H', k < n → xs[k]? = some x → ys[k]? = some y → Same H1 H' → Elt tt te (((wipe σ vs).set i (some x)).set j (some y)) H' (f k) (P k))
    (hd : ∀ D H' ys, H1 D = none → Same H1 H' → H' D = some (.lst ys) → Paired (fun i y => P i y H') ((List.range n).filter f) ys → Q (.ref D) H') :
    LcTail (Jz K k1 k2 a b) (gTup K 2 (gCons (gName i) (gCons (gName j) gNil))) tt te vs σ H1 Q := by
  refine lcG (walk_z (k1 := k1) (k2 := k2) (a := a) (b := b) (xs := xs) (ys := ys) en) (fun H e => ⟨src_same e h1, src_same e h2⟩) f P hP hn (fun _ _ _ _ y => ypair_same y) (fun k x H H' hk sm y Kc N hK hN => ?_) hd
  obtain ⟨T, u, v, rfl, nT, e, hu, hv⟩ := y
  subst e
  refine ⟨T, [u, v], rfl, SqT.of upd_same, rfl, u, [v], rfl, v, [], rfl, rfl, wipe2 hwi hwj, ?_⟩
  exact he k u v _ hk hu hv sm Kc N hK hN
theorem lcZ3 {i j l : Nat} {n : Nat} (h1 : SrcAt K H1 k1 a xs) (h2 : SrcAt K H1 k2 b ys) (h3 : SrcAt K H1 k3 d zs) (en : n = min (min xs.length ys.length) zs.length) (f : Nat → Bool) (P : Nat → V → Hp → Prop) (hP : ∀ i y H H', Tp H H' → P i y H → P i y H') (hn : n ≤ 1000000)
    (hwi : i ∈ vs) (hwj : j ∈ vs) (hwl : l ∈ vs)
    (he : ∀ k x y z H', k < n → xs[k]? = some x → ys[k]? = some y → zs[k]? = some z → Same H1 H' → Elt tt te ((((wipe σ vs).set i (some x)).set j (some y)).set l (some z)) H' (f k) (P k))
    (hd : ∀ D H' ys, H1 D = none → Same H1 H' → H' D = some (.lst ys) → Paired (fun i y => P i y H') ((List.range n).filter f) ys → Q (.ref D) H') :
    LcTail (Jz3 K k1 k2 k3 a b d) (gTup K 3 (gCons (gName i) (gCons (gName j) (gCons (gName l) gNil)))) tt te vs σ H1 Q := by
  refine lcG (walk_z3 (k1 := k1) (k2 := k2) (k3 := k3) (a := a) (b := b) (d := d) (xs := xs) (ys := ys) (zs := zs) en) (fun H e => ⟨src_same e h1, src_same e h2, src_same e h3⟩) f P hP hn (fun _ _ _ _ y => ytrip_same y) (fun k x H H' hk sm y Kc N hK hN => ?_) hd
  obtain ⟨T, u, v, w, rfl, nT, e, hu, hv, hw'⟩ := y
  subst e
  refine ⟨T, [u, v, w], rfl, SqT.of upd_same, rfl, u, [v, w], rfl, v, [w], rfl, w, [], rfl, rfl, wipe3 hwi hwj hwl, ?_⟩
  exact he k u v w _ hk hu hv hw' sm Kc N hK hN
theorem lcL {i : Nat} (h1 : SqL K H1 a xs) (f : Nat → Bool) (P : Nat → V → Hp → Prop) (hP : ∀ i y H H', Tp H H' → P i y H → P i y H') (hn : xs.length ≤ 1000000)
    (hwi : i ∈ vs)
    (he : ∀ k x H', xs[k]? = some x → Same H1 H' → Elt tt te ((wipe σ vs).set i (some x)) H' (f k) (P k))
    (hd : ∀ D H' ys, H1 D = none → Same H1 H' → H' D = some (.lst ys) → Paired (fun i y => P i y H') ((List.range xs.length).filter f) ys → Q (.ref D) H') :
    LcTail (Itl K a) (gName i) tt te vs σ H1 Q := by
  refine lcG (walk_list (K := K) (a := a) (xs := xs)) (fun H e => e.seq h1) f P hP hn (fun _ _ _ _ y => by rw [y.1]; exact Same.refl _) (fun k x H H' hk sm y Kc N hK hN => ?_) hd
  obtain ⟨rfl, hx⟩ := y
  exact ⟨wipe1 hwi, he k x _ hx sm Kc N hK hN⟩
theorem lcT {i : Nat} (h1 : SqT K H1 a xs) (f : Nat → Bool) (P : Nat → V → Hp → Prop) (hP : ∀ i y H H', Tp H H' → P i y H → P i y H') (hn : xs.length ≤ 1000000)
    (hwi : i ∈ vs)
    (he : ∀ k x H', xs[k]? = some x → Same H1 H' → Elt tt te ((wipe σ vs).set i (some x)) H' (f k) (P k))
    (hd : ∀ D H' ys, H1 D = none → Same H1 H' → H' D = some (.lst ys) → Paired (fun i y => P i y H') ((List.range xs.length).filter f) ys → Q (.ref D) H') :
    LcTail (Itt K a) (gName i) tt te vs σ H1 Q := by
  refine lcG (walk_tup (K := K) (a := a) (xs := xs)) (fun H e => src_same (k := false) e h1) f P hP hn (fun _ _ _ _ y => by rw [y.1]; exact Same.refl _) (fun k x H H' hk sm y Kc N hK hN => ?_) hd
  obtain ⟨rfl, hx⟩ := y
  exact ⟨wipe1 hwi, he k x _ hx sm Kc N hK hN⟩
theorem lcR {i : Nat} {lo : Int} {n : Nat} (f : Nat → Bool) (P : Nat → V → Hp → Prop) (hP : ∀ i y H H', Tp H H' → P i y H → P i y H') (hn : n ≤ 1000000)
    (hwi : i ∈ vs)
    (he : ∀ (k : Nat) H', k < n → Same H1 H' → Elt tt te ((wipe σ vs).set i (some (.int (lo + (k : Int))))) H' (f k) (P k))
    (hd : ∀ D H' ys, H1 D = none → Same H1 H' → H' D = some (.lst ys) → Paired (fun i y => P i y H') ((List.range n).filter f) ys → Q (.ref D) H') :
    LcTail (Itr lo n) (gName i) tt te vs σ H1 Q := by
  refine lcG (walk_range (lo := lo) (n := n)) (fun H e => trivial) f P hP hn (fun _ _ _ _ y => by rw [y.1]; exact Same.refl _) (fun k x H H' hk sm y Kc N hK hN => ?_) hd
  obtain ⟨rfl, hx⟩ := y
  subst hx
  exact ⟨wipe1 hwi, he k _ hk sm Kc N hK hN⟩
/-- an element that is a scalar, told: no test -/
theorem elt_v {te : TE} {σ : L2.St} {H' : Hp} {v : V} (h : ∀ Q : VK, Q v H' → te σ H' Q) : Elt tYes te σ H' true (fun y _ => y = v) := fun K N hK hN => by
  show (if true = true then te σ H' K else N H')
  rw [if_pos rfl]
  exact h _ (hK rfl _ _ (Same.refl _) rfl)
theorem map_eq_at {α : Type} {v : Nat → α} {l : List α} {n : Nat} (hn : n = l.length) (h : ∀ i x, l[i]? = some x → v i = x) : (List.range n).map v = l := by
  subst hn
  apply List.ext_getElem?
  intro i
  by_cases hi : i < l.length
  · rw [List.getElem?_map, List.getElem?_range hi, List.getElem?_eq_getElem hi]
    exact congrArg some (h i _ (List.getElem?_eq_getElem hi))
  · rw [List.getElem?_eq_none (by simp; omega), List.getElem?_eq_none (by omega)]
theorem filter_true (n : Nat) : (List.range n).filter (fun _ => true) = List.range n := by simp
end
end K11

set_option Elab.async false
set_option linter.all false
set_option maxRecDepth 100000
set_option maxHeartbeats 4000000
namespace K11
open PySem PySem.Spec PyProof.Rows L2

/-! ### the text, the built-ins, calls -/
def top (i : Nat) : Stmt := PySem.Challenge.pw_neverheaps_k11_whole_ends_and_plays.main.body.getD i (.Pass ⟨0, 0, 0, 0⟩)
abbrev FnP (K : PySem.W.Frag) (x : Str) (st : Stmt) (f : Addr) (fd : FuncData) : Prop := FunD K x x (defArgs st) (defBody st) (defScope st) [] [] f fd
structure Bt (mg : Str → Option Value) : Prop where
  isinstance : mg "isinstance" = none
  int_ : mg "int" = none
  bool_ : mg "bool" = none
  tuple : mg "tuple" = none
  all_ : mg "all" = none
  any_ : mg "any" = none
  zip : mg "zip" = none
  enumerate : mg "enumerate" = none
  list : mg "list" = none
  len : mg "len" = none
  range : mg "range" = none
  sorted : mg "sorted" = none
  repr_ : mg "repr" = none
  min_ : mg "min" = none
  max_ : mg "max" = none
  abs_ : mg "abs" = none
/-- a def that stands and keeps its promise -/
def Cl (P : Program) (w : World) (K : PySem.W.Frag) (mg : Str → Option Value) (base : Heap) (CX : CXT) (k : Nat) (x : Str) (ps : List Str) (sp : Sp) : Prop :=
  ∃ (f : Addr) (fd : FuncData), FnOk P w K mg base CX k f fd ps sp ∧ mg x = some (.ref f) ∧ PySem.W.keepIn K (.ref f) = true ∧ Binds K fd ps []
theorem pe_c {X : Cx} {j k : Nat} {x : Str} {ps : List Str} {sp : Sp} {p pos : Pos} {e : Expr} {es : List Expr} {t : TA} (c : Cl X.prog X.w X.K X.mg X.base CX0 k x ps sp) (hr : Room j X.A) (hk : k ≤ j) (hg : Gl X x) (ha : PA X (e :: es) t)
    (hdb : (x == ("__debug__" : Str)) = false := by decide) (he : starEach (e :: es) X.env = (false, eval e X.env) :: starEach es X.env := by rfl) (hpl : (backTo pos (starEach es X.env)).any (·.1) = false := by rfl) :
    PE X (.Call (.Name x p) (e :: es) [] pos) (tCall sp [] E0 t) := by
  obtain ⟨f, fd, F, g, kp, b⟩ := c
  exact pe_call F (hr.mono hk) hg g kp b .nil pass0 ha hdb he hpl
/-- a def that raises in none of the ways that are asked -/
theorem pe_cX {X : Cx} {j k : Nat} {x : Str} {ps : List Str} {sp : Sp} {p pos : Pos} {e : Expr} {es : List Expr} {t : TA} (c : Cl X.prog X.w X.K X.mg X.base (L2.CX X.prog X.w) k x ps sp) (hr : Room j X.A) (hk : k ≤ j) (hg : Gl X x) (ha : PA X (e :: es) t)
    (hdb : (x == ("__debug__" : Str)) = false := by decide) (he : starEach (e :: es) X.env = (false, eval e X.env) :: starEach es X.env := by rfl) (hpl : (backTo pos (starEach es X.env)).any (·.1) = false := by rfl) :
    PE X (.Call (.Name x p) (e :: es) [] pos) (tCall sp [] E0 t) := by
  obtain ⟨f, fd, F, g, kp, b⟩ := c
  exact pe_call F (hr.mono hk) hg g kp b .nil passL ha hdb he hpl

/-! ### data in the heap -/
def TupI (H : Hp) (v : V) (ns : List Int) : Prop := ∃ a, v = .ref a ∧ H a = some (.tup (ns.map V.int))
def TupS (H : Hp) (v : V) (ss : List Str) : Prop := ∃ a, v = .ref a ∧ H a = some (.tup (ss.map V.str))
/-- a tuple whose own object is known -/
def TupF (H : Hp) (v : V) (ss : List Str) : Prop := ∃ a o, v = .ref a ∧ H a = some (.frz o (.tup (ss.map V.str))) ∧ o.cls = .type "tuple" ∧ o.dict = none
def handV : Option Str → V
  | none => .non
  | some s => .str s
structure Rc where
  t : List Int
  p : List Int
  h : Option Str
structure Wk where
  kinds : List Str
  hands : List Str
  recs : List Rc
structure Ar where
  s : Int
  t : Int
  am : List Int
  cr : List Int
structure Sn where
  places : Int
  arrows : List Ar
def RecAt (H : Hp) (v : V) (r : Rc) : Prop := ∃ a x y, v = .ref a ∧ H a = some (.tup [x, y, handV r.h]) ∧ TupI H x r.t ∧ TupI H y r.p
def TupP {α : Type} (F : Hp → V → α → Prop) (H : Hp) (v : V) (l : List α) : Prop := ∃ a xs, v = .ref a ∧ H a = some (.tup xs) ∧ Paired (F H) xs l
def LstP {α : Type} (F : Hp → V → α → Prop) (H : Hp) (v : V) (l : List α) : Prop := ∃ a xs, v = .ref a ∧ H a = some (.lst xs) ∧ Paired (F H) xs l
def WkAt (H : Hp) (v : V) (W : Wk) : Prop := ∃ a x y z, v = .ref a ∧ H a = some (.tup [x, y, z]) ∧ TupS H x W.kinds ∧ TupF H y W.hands ∧ TupP RecAt H z W.recs
def ArAt (H : Hp) (v : V) (A : Ar) : Prop := ∃ a x y, v = .ref a ∧ H a = some (.tup [.int A.s, .int A.t, x, y]) ∧ TupI H x A.am ∧ TupI H y A.cr
def SnAt (H : Hp) (v : V) (S : Sn) : Prop := ∃ a y, v = .ref a ∧ H a = some (.tup [.int S.places, y]) ∧ TupP ArAt H y S.arrows
/-- heaps and a crew -/
abbrev Sta := List Int × List Int
def StAt (H : Hp) (v : V) (s : Sta) : Prop := ∃ a x y, v = .ref a ∧ H a = some (.tup [x, y]) ∧ TupI H x s.1 ∧ TupI H y s.2
section
variable {H H' : Hp} {v : V}
theorem TupI.tp {ns : List Int} (h : TupI H v ns) (e : Tp H H') : TupI H' v ns := by
  obtain ⟨a, rfl, h⟩ := h
  exact ⟨a, rfl, e.1 _ _ h⟩
theorem TupS.tp {ns : List Str} (h : TupS H v ns) (e : Tp H H') : TupS H' v ns := by
  obtain ⟨a, rfl, h⟩ := h
  exact ⟨a, rfl, e.1 _ _ h⟩
theorem TupF.tp {ns : List Str} (h : TupF H v ns) (e : Tp H H') : TupF H' v ns := by
  obtain ⟨a, o, rfl, h, c, d⟩ := h
  exact ⟨a, o, rfl, e.2 _ _ _ h, c, d⟩
theorem RecAt.tp {r : Rc} (h : RecAt H v r) (e : Tp H H') : RecAt H' v r := by
  obtain ⟨a, x, y, rfl, h, h1, h2⟩ := h
  exact ⟨a, x, y, rfl, e.1 _ _ h, h1.tp e, h2.tp e⟩
theorem TupP.tp {α : Type} {F : Hp → V → α → Prop} {l : List α} (hF : ∀ v x, F H v x → F H' v x) (h : TupP F H v l) (e : Tp H H') : TupP F H' v l := by
  obtain ⟨a, xs, rfl, h, p⟩ := h
  exact ⟨a, xs, rfl, e.1 _ _ h, Paired.mapP p hF⟩
theorem WkAt.tp {W : Wk} (h : WkAt H v W) (e : Tp H H') : WkAt H' v W := by
  obtain ⟨a, x, y, z, rfl, h, h1, h2, h3⟩ := h
  exact ⟨a, x, y, z, rfl, e.1 _ _ h, h1.tp e, h2.tp e, h3.tp (fun _ _ q => q.tp e) e⟩
theorem ArAt.tp {r : Ar} (h : ArAt H v r) (e : Tp H H') : ArAt H' v r := by
  obtain ⟨a, x, y, rfl, h, h1, h2⟩ := h
  exact ⟨a, x, y, rfl, e.1 _ _ h, h1.tp e, h2.tp e⟩
theorem SnAt.tp {r : Sn} (h : SnAt H v r) (e : Tp H H') : SnAt H' v r := by
  obtain ⟨a, y, rfl, h, h1⟩ := h
  exact ⟨a, y, rfl, e.1 _ _ h, h1.tp (fun _ _ q => q.tp e) e⟩
theorem StAt.tp {r : Sta} (h : StAt H v r) (e : Tp H H') : StAt H' v r := by
  obtain ⟨a, x, y, rfl, h, h1, h2⟩ := h
  exact ⟨a, x, y, rfl, e.1 _ _ h, h1.tp e, h2.tp e⟩
end
theorem tupI_new {H : Hp} {p : Addr} {ns : List Int} {xs : List V} (e : xs = ns.map V.int) : TupI (upd H p (.tup xs)) (.ref p) ns := ⟨p, rfl, by rw [upd_same, e]⟩
theorem paired_get {α β : Type} {F : α → β → Prop} : ∀ {l : List α} {r : List β} {i : Nat} {y : β}, Paired F l r → r[i]? = some y → ∃ x, l[i]? = some x ∧ F x y
  | _, _, _, _, .nil, h => by simp at h
  | _, _, 0, y, .cons h t, e => by
    have q : _ = y := Option.some.inj e
    subst q
    exact ⟨_, rfl, h⟩
  | _, _, i + 1, y, .cons h t, e => by
    obtain ⟨x, h1, h2⟩ := paired_get (i := i) t (by simpa using e)
    exact ⟨x, by simpa using h1, h2⟩
theorem paired_getL {α β : Type} {F : α → β → Prop} : ∀ {l : List α} {r : List β} {i : Nat} {x : α}, Paired F l r → l[i]? = some x → ∃ y, r[i]? = some y ∧ F x y
  | _, _, _, _, .nil, h => by simp at h
  | _, _, 0, y, .cons h t, e => by
    have q : _ = y := Option.some.inj e
    subst q
    exact ⟨_, rfl, h⟩
  | _, _, i + 1, y, .cons h t, e => by
    obtain ⟨x, h1, h2⟩ := paired_getL (i := i) t (by simpa using e)
    exact ⟨x, by simpa using h1, h2⟩
/-- a promise's shape: all that was tracked stays, the answer has the property -/
def Ret (H : Hp) (Q : VK) (Post : V → Hp → Prop) : Prop := ∀ v H', Same H H' → Post v H' → Q v H'
theorem at_map {α : Type} {f : α → V} {l : List α} {i : Nat} {x : V} (h : (l.map f)[i]? = some x) : ∃ y, l[i]? = some y ∧ x = f y := by
  rw [List.getElem?_map] at h
  cases e : l[i]? with
  | none =>
    rw [e] at h
    cases h
  | some y =>
    rw [e] at h
    exact ⟨y, rfl, (Option.some.inj h).symm⟩
/-! ### comprehensions, their reading told by LcTail -/
def tLcx (wi : TI) (g : TG) (tt : TT) (te : TE) (vs : List Nat) : TE := fun σ H Q => wi σ H fun J H1 => LcTail J g tt te vs σ H1 Q
theorem tLcx_eq : tLcx = tLc := rfl
theorem pe_lcx {X : Cx} {elt tg iter : Expr} {ifs : List Expr} {scope : Scope} {own : List (Str × Nat)} {pos : Pos} {wi : TI} {g : TG} {tt : TT} {te : TE} (hc : X.calm = true) (hN : X.N.Nodup) (hi : PI X tg iter wi) (ok : BlkOk X.N X.env.scope scope own)
    (hg : ∀ (s : Shared) (H : Hp) (C : Addr) (cl : List (Str × Addr)) (fp : List Addr), PG (X.blk s H scope (compEnvC scope cl C X.env) fp) tg g)
    (ht : ∀ (s : Shared) (H : Hp) (C : Addr) (cl : List (Str × Addr)) (fp : List Addr), PTs (X.blk s H scope (compEnvC scope cl C X.env) fp) ifs tt)
    (he : ∀ (s : Shared) (H : Hp) (C : Addr) (cl : List (Str × Addr)) (fp : List Addr), PE (X.blk s H scope (compEnvC scope cl C X.env) fp) elt te)
    (hs : ∀ x, foldedSetIterable iter X.env x = pure x := by intro _; rfl) : PE X (.ListComp elt [⟨tg, iter, ifs, 0⟩] scope pos) (tLcx wi g tt te (own.map (·.2))) :=
  pe_lc hc hN hi ok hg ht he hs
theorem ps_setLcx {X : Cx} {i : Nat} {y : Str} {py : Pos} {elt tg iter : Expr} {ifs : List Expr} {scope : Scope} {own : List (Str × Nat)} {pos spos : Pos} {wi : TI} {g : TG} {tt : TT} {te : TE} (hc : X.calm = true) (hN : X.N.Nodup) (hy : X.N[i]? = some y)
    (hyl : X.env.scope.names.lookup y = some .local) (hsw : swapsWith (.ListComp elt [⟨tg, iter, ifs, 0⟩] scope pos) (some (.Name y py)) spos.line X.env = pure true) (hi : PI X tg iter wi) (ok : BlkOk X.N X.env.scope scope own)
    (hg : ∀ (s : Shared) (H : Hp) (C : Addr) (cl : List (Str × Addr)) (fp : List Addr), PG (X.blk s H scope (compEnvC scope cl C X.env) fp) tg g)
    (ht : ∀ (s : Shared) (H : Hp) (C : Addr) (cl : List (Str × Addr)) (fp : List Addr), PTs (X.blk s H scope (compEnvC scope cl C X.env) fp) ifs tt)
    (he : ∀ (s : Shared) (H : Hp) (C : Addr) (cl : List (Str × Addr)) (fp : List Addr), PE (X.blk s H scope (compEnvC scope cl C X.env) fp) elt te)
    (hs : ∀ x, foldedSetIterable iter X.env x = pure x := by intro _; rfl) : PS X (.Assign [.Name y py] (.ListComp elt [⟨tg, iter, ifs, 0⟩] scope pos) spos) (tAsg (tLcx wi g tt te (own.map (·.2))) (gName i)) :=
  ps_setLc hc hN hy hyl hsw hi ok hg ht he hs
end K11

set_option Elab.async false
set_option linter.all false
set_option maxRecDepth 100000
set_option maxHeartbeats 4000000
/-! Defs that ask for a text of data (repr): they run where no repr is under way (the guards of what runs around are told to be none). -/
namespace K11
open PySem PySem.Spec PyProof.Rows L2

/-- as FnOk, where no repr is under way -/
structure FnG (P : Program) (w : World) (K : PySem.W.Frag) (mg : Str → Option Value) (base : Heap) (CX : CXT) (k : Nat) (f : Addr) (fd : FuncData) (ps : List Str) (sp : Sp) : Prop where
  len : ∀ vs H Q E, sp vs H Q E → vs.length = ps.length
  run : ∀ (A : Around) (outer : List Env) (s : Shared) (H : Hp) (args : Args) (us : List Value) (vs : List V) (Q : VK) (E : XK), A.guards = some [] → Room k A → Env0 P w K mg base A outer s H → BindsTo s fd args (ps.zip us) → Vals vs us → sp vs H Q E →
    codeAny (model P w) A (.call (.ref f) args) (CR CX outer P w H s Q E) s
section
variable {P : Program} {w : World} {K : PySem.W.Frag} {mg : Str → Option Value} {base : Heap} {CX : CXT} {N ps : List Str} {k : Nat} {sp : Sp} {f : Addr} {fd : FuncData}
theorem fnG_ok {x qual : Str} {params : Arguments} {body : List Stmt} {scope : Scope} {dvs : List V} {kws : List (Str × V)} (F : FunD K x qual params body scope dvs kws f fd) (S : FnScope N ps scope) (len : ∀ vs H Q E, sp vs H Q E → vs.length = ps.length)
    (hbody : ∀ (cdv : Value) (A : Around) (outer : List Env) (s : Shared) (H : Hp) (vs : List V) (Q : VK) (E : XK), A.guards = some [] → Room k (A.deeper (envOfC qual scope s.heap.objs.size f cdv)) → sp vs H Q E →
      ∃ t, PSs (cxOf CX P w K mg base N qual scope f cdv A outer s H E) body t ∧ t { nx := fun _ H' => Q .non H', rt := Q } (start N vs) H) : FnG P w K mg base CX (k + 1) f fd ps sp := by
  obtain ⟨oc, od, dV, kV, doc, pm, an, cdv, ct, osl, rfl, lk, hcd, _, _⟩ := F.ex
  refine ⟨len, fun A outer s H args us vs Q E hgd hr e0 hb r hsp => ?_⟩
  have old : ∀ b o, base.get? b = some o → s.heap.get? b = some o := fun b o e => (e0.bs b o e).1
  have KX : K.In s.heap := e0.mod.kin.keeps old
  have par : ∀ y ∈ ps.zip us, scope.names.lookup y.1 = some .local ∨ (scope.names.lookup y.1 = some .cell ∧ ((cellsFrom (s.heap.objs.size + 1) scope.names []).lookup y.1).isSome = true) := fun y hy => by
    obtain ⟨n, v⟩ := y
    cases S.par n (List.of_mem_zip hy).1 with
    | inl q => exact Or.inl q
    | inr q => exact Or.inr ⟨q, PySem.W.cellsFrom_some _ _ _ (Or.inl q)⟩
  refine codeAny_call_function hr.depth (KX _ _ lk) rfl S.co S.gen rfl (PySem.W.codeRec_of KX hcd) (hb _ _ _ _ (wpAny_newFunctionEnv_cells S.kind par fun env he s1 x => ?_))
  subst he
  refine ⟨(e0.mod.nolimit.keeps old).keeps x.toInCall.keep, codeAny_func ?_⟩
  obtain ⟨t, ht, hq⟩ := hbody cdv A outer s H vs Q E hgd (hr.deeper _) hsp
  refine wpAny_mono (ht.run [] s1 (start N vs) H _ (inv_start S hr.hd e0 (len _ _ _ _ hsp) r x) hq) (fun fl s' hs => ?_) fun e s' hs => hs
  cases fl with
  | ret u =>
    obtain ⟨v, σ', H', J, rv, q⟩ := hs
    exact ⟨v, H', J.os, J.bare, J.base, J.hok, rv, q⟩
  | next =>
    obtain ⟨σ', H', J, q⟩ := hs
    exact ⟨V.non, H', J.os, J.bare, J.base, J.hok, rfl, q⟩
  | brk =>
    obtain ⟨_, _, _, q⟩ := hs
    exact q.elim
  | cont =>
    obtain ⟨_, _, _, q⟩ := hs
    exact q.elim
end
/-- a def that stands and keeps its promise where no repr is under way -/
def ClG (P : Program) (w : World) (K : PySem.W.Frag) (mg : Str → Option Value) (base : Heap) (CX : CXT) (k : Nat) (x : Str) (ps : List Str) (sp : Sp) : Prop :=
  ∃ (f : Addr) (fd : FuncData), FnG P w K mg base CX k f fd ps sp ∧ mg x = some (.ref f) ∧ PySem.W.keepIn K (.ref f) = true ∧ Binds K fd ps []
theorem pe_cG {X : Cx} {j k : Nat} {x : Str} {ps : List Str} {sp : Sp} {p pos : Pos} {e : Expr} {es : List Expr} {t : TA} (c : ClG X.prog X.w X.K X.mg X.base CX0 k x ps sp) (hgd : X.A.guards = some []) (hr : Room j X.A) (hk : k ≤ j) (hg : Gl X x) (ha : PA X (e :: es) t)
    (hdb : (x == ("__debug__" : Str)) = false := by decide) (he : starEach (e :: es) X.env = (false, eval e X.env) :: starEach es X.env := by rfl) (hpl : (backTo pos (starEach es X.env)).any (·.1) = false := by rfl) :
    PE X (.Call (.Name x p) (e :: es) [] pos) (tCall sp [] E0 t) := by
  obtain ⟨f, fd, F, g, kp, b⟩ := c
  refine ⟨fun pins s σ H Q I h => wpAny_Call_Name_kw (ld_glob I hg g ?_ hdb)⟩
  refine PySem.W.callWith_K (h₀ := X.base) I.ok.mod.kin kp (thn (ha.run pos pins s σ H _ I h) fun us s1 ⟨vs, H1, I1, r, q⟩ => ⟨I1.kIn, ?_⟩) he hpl
  have q2 : sp vs H1 Q E0 := by
    have q3 : sp (vs ++ []) H1 Q E0 := q
    rw [List.append_nil] at q3
    exact q3
  have hl : (us ++ ([] : List Value)).length = ps.length := by
    rw [List.append_nil, ← r.length]
    exact F.len _ _ _ _ q2
  have hbind := b s1 us I1.kIn hl
  rw [List.append_nil] at hbind
  refine wpAny_call (codeAny_mono (F.run X.A X.stack s1 H1 ⟨us, []⟩ us vs Q E0 hgd (hr.mono hk) I1.env0 hbind r q2) fun r' s' hq => ?_)
  cases r' with
  | error er => exact False.elim hq
  | ok fl =>
    cases fl with
    | ret u => exact I1.after hq
    | next => exact hq.elim
    | brk => exact hq.elim
    | cont => exact hq.elim

/-! ### repr of data -/
def rRepr (K : PySem.W.Frag) : List V → Hp → VK → Prop := fun xs H Q => ∃ (a : Addr) (d : PyData), xs = [.ref a] ∧ Dp K H (.ref a) d ∧ d.showable = true ∧ d.hasDict = false ∧ d.depth ≤ 60 ∧ d.shown.length ≤ sizeLine ∧ Q (.str d.shown) H
theorem call_reprD {X : Cx} (hgd : X.A.guards = some []) (hu : X.A.units + 64 < cLine) : CallR X (.builtin "repr") (rRepr X.K) := by
  intro pins s σ H xs us Q I r h
  obtain ⟨a, d, rfl, hd, sh, nd, dp, hz, q⟩ := h
  cases r with
  | cons r1 r2 =>
    cases r2
    obtain ⟨as, rd⟩ := Dp.reads I d _ _ hd r1
    cases r1
    exact repr_of_reads' rd sh (PyData.noDict_hsm nd) hgd (by omega) (fun _ _ e => e) (fun h' u tk hk => ⟨.str d.shown, H, I.kept (t' := tk) hk, ⟨u, rfl⟩, q⟩) hz

/-! ### the law's end -/
theorem lawG {P : Program} {w : World} {K : PySem.W.Frag} {mg mb : Str → Option Value} {k : Nat} {fa a : Addr} {fd : FuncData} {x : Str} {sp : Sp} {s1 : Shared} {vs : List Value} {ns : List Int}
    (KX : K.In s1.heap) (hns : s1.heap.Ns mainGlobals mg) (hb : s1.heap.Ns builtinsNs mb) (hbb : ∀ x : Str, x ≠ "__name__" → mb x = bootBuiltins x) (hlim : s1.heap.NoLimit) (hg : s1.gens = #[])
    (ha : s1.heap.get? a = some { cls := .type "list", data := .seq vs.toArray }) (hi : IntsAre vs ns) (hl : ns.length ≤ sizeLine) (hr : Room k callerA)
    (F : ∀ base : Heap, K.In base → base.Ns mainGlobals mg → FnG P w K mg base CX0 k fa fd [x] sp) (hbind : ∀ (s : Shared) (u : Value), BindsTo s fd ⟨[u], []⟩ [(x, u)])
    (hsp : ∀ H : Hp, Only H → SqL K H a (ns.map V.int) → sp [.ref a] H (fun v _ => v = .bl true) fun _ _ _ => False) :
    codeAny (model P w) callerA (.call (.ref fa) ⟨[.ref a], []⟩) (fun r s' => r = .ok (.ret (.bool true)) ∧ OldK s1.heap s'.heap ∧ s'.os = s1.os ∧ AllBare s'.gens) s1 := by
  have rv := vals_ints hi
  have main : ∀ H : Hp, Only H → SqL K H a (ns.map V.int) → HOk P w H s1.heap → (∀ b, b ≠ a → H b = none) → (H a = none ∨ K.lookup a = none) →
      codeAny (model P w) callerA (.call (.ref fa) ⟨[.ref a], []⟩) (fun r s' => r = .ok (.ret (.bool true)) ∧ OldK s1.heap s'.heap ∧ s'.os = s1.os ∧ AllBare s'.gens) s1 := by
    intro H hO hS hok hA hK
    have dictFree : ∀ {b : Addr} {o : Obj} {es : Array DictEntry} {ep : Nat}, s1.heap.get? b = some o → o.data = .dict es ep → H b = none := fun {b o es ep} e d => hA b fun z => by
      rw [z, ha] at e
      cases e
      cases d
    have nsAt : ∀ {b : Addr} {m : Str → Option Value}, s1.heap.Ns b m → (hidT s1.heap H).Ns b m := fun {b m} n => by
      obtain ⟨o, es, ep, e, d, r⟩ := n
      exact ⟨o, es, ep, hidT_get e (dictFree e d), d, r⟩
    have hKb : K.In (hidT s1.heap H) := fun b o e => hidT_get (KX b o e) (by
      by_cases z : b = a
      · rcases hK with q | q
        · rw [z]
          exact q
        · rw [z, q] at e
          cases e
      · exact hA b z)
    obtain ⟨mc, c1, c2⟩ := hlim
    have e0 : Env0 P w K mg (hidT s1.heap H) callerA [] s1 H := ⟨rfl, ⟨hKb, nsAt hns, ⟨mb, nsAt hb, hbb⟩, ⟨mc, nsAt c1, c2⟩⟩, fun b o e => of_hidT e, Nat.le_of_eq (hidT_size _ _), trivial, (fun b z => nomatch (show b ∈ ([] : List Addr) from z)), hok, .of_eq hg⟩
    refine codeAny_mono ((F _ hKb (nsAt hns)).run callerA [] s1 H ⟨[.ref a], []⟩ [.ref a] [.ref a] _ _ rfl hr e0 (hbind s1 (.ref a)) (.cons rfl .nil) (hsp H hO hS)) fun r s' h => ?_
    cases r with
    | error e => exact False.elim h
    | ok fl =>
      cases fl with
      | next => exact False.elim h
      | brk => exact False.elim h
      | cont => exact False.elim h
      | ret u =>
        obtain ⟨v, H', os, bare, un, hok', r', q⟩ := h
        have ev : v = .bl true := q
        subst ev
        have eu : u = Value.bool true := r'
        subst eu
        refine ⟨rfl, OldK.of_keep fun b o e => ?_, os, bare⟩
        rcases hO b with n | ⟨ob, xs, z⟩
        · exact un.keep b o e n (fun z => nomatch (show b ∈ ([] : List Addr) from z)) (fun z => nomatch (show b ∈ ([] : List Addr) from z))
        · have e1 := (hok b _ z).1
          have e2 := (hok' b _ (un.frzs b ob _ z)).1
          rw [e] at e1
          cases e1
          exact e2
  cases hk : K.lookup a with
  | some o =>
    have e := KX a o hk
    rw [ha] at e
    cases e
    exact main (fun _ => none) (fun _ => .inl rfl) (.inr ⟨_, vs.toArray, _, hk, rfl, rfl, rfl, by rw [List.size_toArray, hi.length]; exact hl, by simpa using rv⟩) (fun b u z => nomatch (show (none : Option HO) = some u from z)) (fun _ _ => rfl) (.inl rfl)
  | none =>
    have at_ : ∀ b, b ≠ a → (if b = a then some (HO.frz { cls := .type "list", data := .seq vs.toArray } (.lst (ns.map V.int))) else none) = none := fun b z => if_neg z
    refine main (fun b => if b = a then some (.frz { cls := .type "list", data := .seq vs.toArray } (.lst (ns.map V.int))) else none) (fun b => ?_) (.inl (.inr ⟨_, if_pos rfl⟩)) (fun b u z => ?_) at_ (.inr hk)
    · by_cases z : b = a
      · exact .inr ⟨_, _, if_pos z⟩
      · exact .inl (if_neg z)
    · by_cases hb : b = a
      · have z' := (if_pos hb).symm.trans z
        cases z'
        subst hb
        exact ⟨ha, by rw [List.length_map]; exact hl, vs, _, rv, ha⟩
      · have z' := (if_neg hb).symm.trans z
        cases z'
theorem walkG {l : PySem.W.OpenLaw} {n k : Nat} {q : Program} {loose : List Str} {XP : (Str → Option Value) → Heap → Prop} {YP : World → Heap → Prop} {d : DefRec} {x : Str}
    (hn : l.most = some n) (hn2 : n ≤ sizeLine) (hdf : d.params.defaults = []) (hr : Room k callerA)
    (F : ∀ (w : World) (mg : Str → Option Value) (fa : Addr) (h : Heap), YP w h → h.Ns mainGlobals mg → mg d.name = some (.ref fa) →
      ∃ (K : PySem.W.Frag) (fd : FuncData) (sp : Sp), K.In h ∧ (∀ (s : Shared) (u : Value), BindsTo s fd ⟨[u], []⟩ [(x, u)]) ∧
        (∀ (H : Hp) (a : Addr) (ns : List Int), ns.length ≤ n → Only H → SqL K H a (ns.map V.int) → sp [.ref a] H (fun v _ => v = .bl true) fun _ _ _ => False) ∧
        ∀ base : Heap, K.In base → base.Ns mainGlobals mg → FnG l.prog w K mg base CX0 k fa fd [x] sp) :
    PySem.W.WalkO q loose XP YP l.row.toRowW d [] (fun f vs => PySem.call f vs) := by
  refine Att.attach_call hn hdf fun w s0 s1 mg mb fa o pm cd doc a vs ns G Y ho hd hcd hmg hobj hints hlen hg => ?_
  obtain ⟨K, fd, sp, KX, hb, hsp, hF⟩ := F w mg fa _ Y G.T.g hmg
  exact lawG KX G.T.g G.T.b G.T.builtins G.T.nolimit hg hobj hints (Nat.le_trans hlen hn2) hr hF hb fun H hO hS => hsp H a ns hlen hO hS
end K11

set_option Elab.async false
set_option linter.all false
set_option maxRecDepth 100000
set_option maxHeartbeats 4000000
namespace K11
open PySem PySem.Spec PyProof.Rows L2
/-! ### data as data -/
def dI (ns : List Int) : PyData := .tuple (ns.map .int)
def dL (ns : List Int) : PyData := .list (ns.map .int)
def dS (s : Sta) : PyData := .tuple [dI s.1, dI s.2]
def dH : Option Str → PyData
  | none => .none
  | some s => .str s
def dR (r : Rc) : PyData := .tuple [dI r.t, dI r.p, dH r.h]
def dA (a : Ar) : PyData := .tuple [.int a.s, .int a.t, dI a.am, dI a.cr]
theorem dpAll_paired {α : Type} {K : PySem.W.Frag} {H : Hp} {F : V → α → Prop} {d : α → PyData} (hF : ∀ v x, F v x → Dp K H v (d x)) : ∀ {xs : List V} {l : List α}, Paired F xs l → DpAll K H xs (l.map d)
  | _, _, .nil => .nil
  | _, _, .cons h t => .cons (hF _ _ h) (dpAll_paired hF t)
theorem dpAll_ints {K : PySem.W.Frag} {H : Hp} : ∀ ns : List Int, DpAll K H (ns.map V.int) (ns.map PyData.int)
  | [] => .nil
  | n :: ns => .cons (.int n) (dpAll_ints ns)
theorem dp_I {K : PySem.W.Frag} {H : Hp} {v : V} {ns : List Int} (h : TupI H v ns) : Dp K H v (dI ns) := by
  obtain ⟨a, rfl, h⟩ := h
  exact .tup (SqT.of h) (dpAll_ints ns)
theorem dp_L {K : PySem.W.Frag} {H : Hp} {a : Addr} {ns : List Int} (h : H a = some (.lst (ns.map V.int))) : Dp K H (.ref a) (dL ns) := .lst (SqL.of h) (dpAll_ints ns)
theorem dp_S {K : PySem.W.Frag} {H : Hp} {v : V} {s : Sta} (h : StAt H v s) : Dp K H v (dS s) := by
  obtain ⟨a, x, y, rfl, h, h1, h2⟩ := h
  exact .tup (SqT.of h) (.cons (dp_I h1) (.cons (dp_I h2) .nil))
theorem dp_H {K : PySem.W.Frag} {H : Hp} : ∀ h : Option Str, Dp K H (handV h) (dH h)
  | none => .non
  | some s => .str s
theorem dp_R {K : PySem.W.Frag} {H : Hp} {v : V} {r : Rc} (h : RecAt H v r) : Dp K H v (dR r) := by
  obtain ⟨a, x, y, rfl, h, h1, h2⟩ := h
  exact .tup (SqT.of h) (.cons (dp_I h1) (.cons (dp_I h2) (.cons (dp_H _) .nil)))
theorem dp_A {K : PySem.W.Frag} {H : Hp} {v : V} {r : Ar} (h : ArAt H v r) : Dp K H v (dA r) := by
  obtain ⟨a, x, y, rfl, h, h1, h2⟩ := h
  exact .tup (SqT.of h) (.cons (.int _) (.cons (.int _) (.cons (dp_I h1) (.cons (dp_I h2) .nil))))
/-- light data: shallow, no dict -/
def Lt (n : Nat) (d : PyData) : Prop := d.canLay0 = true ∧ d.depth ≤ n
theorem lt_all {n : Nat} : ∀ {ds : List PyData}, (∀ d ∈ ds, Lt n d) → PyData.canLayAll0 ds = true ∧ PyData.depthAll ds ≤ n
  | [], _ => ⟨rfl, Nat.zero_le _⟩
  | d :: ds, h => by
    obtain ⟨h1, h2⟩ := h d (List.mem_cons_self ..)
    obtain ⟨h3, h4⟩ := lt_all (ds := ds) fun e he => h e (List.mem_cons_of_mem _ he)
    exact ⟨by simp [PyData.canLayAll0, h1, h3], by simp only [PyData.depthAll]; omega⟩
theorem lt_tup {n : Nat} {ds : List PyData} (h : ∀ d ∈ ds, Lt n d) : Lt (n + 1) (.tuple ds) := by
  obtain ⟨h1, h2⟩ := lt_all h
  exact ⟨by simp only [PyData.canLay0]; exact h1, by simp only [PyData.depth]; omega⟩
theorem lt_lst {n : Nat} {ds : List PyData} (h : ∀ d ∈ ds, Lt n d) : Lt (n + 1) (.list ds) := by
  obtain ⟨h1, h2⟩ := lt_all h
  exact ⟨by simp only [PyData.canLay0]; exact h1, by simp only [PyData.depth]; omega⟩
theorem Lt.mono {n m : Nat} {d : PyData} (h : Lt n d) (e : n ≤ m) : Lt m d := ⟨h.1, Nat.le_trans h.2 e⟩
theorem lt_int (i : Int) : Lt 0 (.int i) := ⟨rfl, Nat.le_refl _⟩
theorem lt_non : Lt 0 .none := ⟨rfl, Nat.le_refl _⟩
theorem lt_bool (b : Bool) : Lt 0 (.bool b) := ⟨rfl, Nat.le_refl _⟩
theorem lt_I (ns : List Int) : Lt 1 (dI ns) := lt_tup fun d h => by
  obtain ⟨i, _, rfl⟩ := List.mem_map.mp h
  exact lt_int i
theorem lt_L (ns : List Int) : Lt 1 (dL ns) := lt_lst fun d h => by
  obtain ⟨i, _, rfl⟩ := List.mem_map.mp h
  exact lt_int i
theorem lt_S (s : Sta) : Lt 2 (dS s) := lt_tup fun d h => by
  rcases List.mem_cons.mp h with rfl | h
  · exact lt_I _
  · rw [List.mem_singleton.mp h]
    exact lt_I _
theorem lt_A (a : Ar) : Lt 2 (dA a) := lt_tup fun d h => by
  simp only [List.mem_cons, List.not_mem_nil, or_false] at h
  rcases h with rfl | rfl | rfl | rfl
  · exact (lt_int _).mono (by decide)
  · exact (lt_int _).mono (by decide)
  · exact lt_I _
  · exact lt_I _
theorem lt_H {h : Option Str} (k : ∀ s, h = some s → PyData.strOk s = true) : Lt 0 (dH h) := by
  cases h with
  | none => exact lt_non
  | some s => exact ⟨by simp only [dH, PyData.canLay0]; exact k s rfl, Nat.le_refl _⟩
theorem lt_R {r : Rc} (k : ∀ s, r.h = some s → PyData.strOk s = true) : Lt 2 (dR r) := lt_tup fun d h => by
  simp only [List.mem_cons, List.not_mem_nil, or_false] at h
  rcases h with rfl | rfl | rfl
  · exact lt_I _
  · exact lt_I _
  · exact (lt_H k).mono (by decide)
theorem Lt.shaped {n : Nat} {d : PyData} (h : Lt n d) (hn : n ≤ 64 := by decide) : SeqAt.shaped d = true := by
  unfold SeqAt.shaped
  rw [h.1, decide_eq_true (Nat.le_trans h.2 hn)]
  rfl
theorem eqvAll_ints : ∀ a b : List Int, PyData.eqvAll (a.map .int) (b.map .int) = decide (a = b)
  | [], [] => by simp [PyData.eqvAll]
  | [], _ :: _ => by simp [PyData.eqvAll]
  | _ :: _, [] => by simp [PyData.eqvAll]
  | x :: xs, y :: ys => by
    simp only [List.map_cons, PyData.eqvAll, PyData.eqv, eqvAll_ints xs ys]
    by_cases h : x = y
    · subst h
      by_cases h2 : xs = ys <;> simp [h2]
    · simp [h]
theorem eqv_I (a b : List Int) : PyData.eqv (dI a) (dI b) = decide (a = b) := by
  unfold dI
  rw [PyData.eqv]
  exact eqvAll_ints a b
theorem eqv_nilL (ds : List PyData) : PyData.eqv (.list ds) (.list []) = ds.isEmpty := by
  cases ds <;> simp [PyData.eqv, PyData.eqvAll]
theorem eqv_nilT (ds : List PyData) : PyData.eqv (.tuple ds) (.tuple []) = ds.isEmpty := by
  cases ds <;> simp [PyData.eqv, PyData.eqvAll]
/-- == [] and != [] of a list of light data -/
theorem rEq_nilL {K : PySem.W.Frag} {H : Hp} {a e : Addr} {xs : List V} {ds : List PyData} {Q : VK} {n : Nat} (ha : H a = some (.lst xs)) (hd : DpAll K H xs ds) (hl : ∀ d ∈ ds, Lt n d) (hn : n + 1 ≤ 64) (he : H e = some (.lst [])) (hq : Q (.bl xs.isEmpty) H) : rEqD K (.ref a) (.ref e) H Q := by
  refine ⟨_, _, .lst (SqL.of ha) hd, .lst (SqL.of he) .nil, (lt_lst hl).shaped hn, by decide, ?_⟩
  rw [eqv_nilL]
  have : ds.isEmpty = xs.isEmpty := by cases hd <;> rfl
  rw [this]
  exact hq
theorem rNe_nilL {K : PySem.W.Frag} {H : Hp} {a e : Addr} {xs : List V} {ds : List PyData} {Q : VK} {n : Nat} (ha : H a = some (.lst xs)) (hd : DpAll K H xs ds) (hl : ∀ d ∈ ds, Lt n d) (hn : n + 1 ≤ 64) (he : H e = some (.lst [])) (hq : Q (.bl (!xs.isEmpty)) H) : rNeD K (.ref a) (.ref e) H Q := by
  refine ⟨_, _, .lst (SqL.of ha) hd, .lst (SqL.of he) .nil, (lt_lst hl).shaped hn, by decide, ?_⟩
  rw [eqv_nilL]
  have : ds.isEmpty = xs.isEmpty := by cases hd <;> rfl
  rw [this]
  exact hq
theorem lt_ints (ns : List Int) : ∀ d ∈ ns.map PyData.int, Lt 0 d := fun d h => by
  obtain ⟨i, _, rfl⟩ := List.mem_map.mp h
  exact lt_int i
theorem atI_nat {α : Type} {xs : List α} {j : Nat} {x : α} (h : xs[j]? = some x) : atI xs ((j : Nat) : Int) = some x := by
  have hj := (List.getElem?_eq_some_iff.mp h).1
  unfold atI ixN
  rw [if_pos (Int.natCast_nonneg j), if_pos (by omega)]
  exact h
theorem atI_get {α : Type} {xs : List α} {i : Int} {x : α} (h0 : 0 ≤ i) (h : xs[i.toNat]? = some x) : atI xs i = some x := by
  have := atI_nat h
  rwa [Int.toNat_of_nonneg h0] at this
theorem map_at {α β : Type} {f : α → β} {l : List α} {i : Nat} {x : α} (h : l[i]? = some x) : (l.map f)[i]? = some (f x) := by
  rw [List.getElem?_map, h]
  rfl
end K11

set_option Elab.async false
set_option linter.all false
set_option maxRecDepth 100000
set_option maxHeartbeats 4000000
namespace K11
open PySem PySem.Spec PyProof.Rows L2
abbrev sadded : Stmt := top 9
abbrev N_added : List Str := ["one", "other", "mine", "its"]
theorem sc_added : FnScope N_added ["one", "other"] (defScope sadded) := ⟨rfl, rfl, rfl, by decide +kernel, rfl, by decide +kernel, by decide +kernel⟩
theorem st_added (x0 x1 : V) : L2.start N_added [x0, x1] = [some x0, some x1, none, none] := rfl
abbrev s_law_sum : Stmt := top 34
abbrev N_l_sum : List Str := ["_law_one_here", "_law_other", "_law_more", "_law_less_here"]
theorem sc_l_sum : FnScope N_l_sum ["_law_one_here", "_law_other"] (defScope s_law_sum) := ⟨rfl, rfl, rfl, by decide +kernel, rfl, by decide +kernel, by decide +kernel⟩
theorem st_l_sum (x0 x1 : V) : L2.start N_l_sum [x0, x1] = [some x0, some x1, none, none] := rfl
abbrev s_law_less : Stmt := top 35
abbrev N_l_less : List Str := ["_law_one_here", "_law_other", "_law_more", "_law_less_here"]
theorem sc_l_less : FnScope N_l_less ["_law_one_here", "_law_other"] (defScope s_law_less) := ⟨rfl, rfl, rfl, by decide +kernel, rfl, by decide +kernel, by decide +kernel⟩
theorem st_l_less (x0 x1 : V) : L2.start N_l_less [x0, x1] = [some x0, some x1, none, none] := rfl
abbrev s_law_within : Stmt := top 36
abbrev N_l_within : List Str := ["_law_one_here", "_law_other", "_law_less_here", "_law_more"]
theorem sc_l_within : FnScope N_l_within ["_law_one_here", "_law_other"] (defScope s_law_within) := ⟨rfl, rfl, rfl, by decide +kernel, rfl, by decide +kernel, by decide +kernel⟩
theorem st_l_within (x0 x1 : V) : L2.start N_l_within [x0, x1] = [some x0, some x1, none, none] := rfl
abbrev sfits : Stmt := top 18
abbrev N_fits : List Str := ["heaps", "rooms", "there", "room"]
theorem sc_fits : FnScope N_fits ["heaps", "rooms"] (defScope sfits) := ⟨rfl, rfl, rfl, by decide +kernel, rfl, by decide +kernel, by decide +kernel⟩
theorem st_fits (x0 x1 : V) : L2.start N_fits [x0, x1] = [some x0, some x1, none, none] := rfl
/-- item by item -/
def addL (a b : List Int) : List Int := List.zipWith (· + ·) a b
def subL (a b : List Int) : List Int := List.zipWith (· - ·) a b
def leL (a b : List Int) : Bool := (List.zipWith (fun x y => decide (x ≤ y)) a b).all id
def sp2 (f : List Int → List Int → List Int) : Sp := fun vs H Q _ => ∃ x y a b, vs = [x, y] ∧ TupI H x a ∧ TupI H y b ∧ a.length ≤ 1000 ∧ Ret H Q fun v H' => TupI H' v (f a b)
def sp2B (f : List Int → List Int → Bool) : Sp := fun vs H Q _ => ∃ x y a b, vs = [x, y] ∧ TupI H x a ∧ TupI H y b ∧ a.length ≤ 1000 ∧ Ret H Q fun v H' => v = .bl (f a b)
theorem zw_map {α : Type} (f : Int → Int → α) (a b : List Int) (v : Nat → V) (g : α → V) (h : ∀ k (x y : V), (a.map V.int)[k]? = some x → (b.map V.int)[k]? = some y → ∀ i j, x = .int i → y = .int j → v k = g (f i j)) :
    (List.range (min (a.map V.int).length (b.map V.int).length)).map v = (List.zipWith f a b).map g := by
  refine map_eq_at (by simp) fun k x hx => ?_
  obtain ⟨z, hz, rfl⟩ := at_map hx
  rw [List.getElem?_zipWith] at hz
  cases ea : a[k]? with
  | none => rw [ea] at hz; simp at hz
  | some i =>
    cases eb : b[k]? with
    | none => rw [ea, eb] at hz; simp at hz
    | some j =>
      rw [ea, eb] at hz
      have e : f i j = z := Option.some.inj hz
      rw [← e]
      exact h k (.int i) (.int j) (by rw [List.getElem?_map, ea] <;> rfl) (by rw [List.getElem?_map, eb] <;> rfl) i j rfl rfl
/-- a comprehension over zip of two tuples of ints: a value of each pair -/
theorem lcZI {K : PySem.W.Frag} {te : TE} {vs : List Nat} {σ : L2.St} {H1 : Hp} {Q : VK} {p q : Addr} {a b : List Int} {i j : Nat} {α : Type} (f : Int → Int → α) (g : α → V) (h1 : H1 p = some (.tup (a.map V.int))) (h2 : H1 q = some (.tup (b.map V.int))) (hn : a.length ≤ 1000)
    (hwi : i ∈ vs) (hwj : j ∈ vs)
    (he : ∀ (m n : Int) H' (Q : VK), Q (g (f m n)) H' → te (((wipe σ vs).set i (some (.int m))).set j (some (.int n))) H' Q)
    (hd : ∀ D H', H1 D = none → Same H1 H' → H' D = some (.lst ((List.zipWith f a b).map g)) → Q (.ref D) H') :
    LcTail (Jz K false false p q) (gTup K 2 (gCons (gName i) (gCons (gName j) gNil))) tYes te vs σ H1 Q := by
  refine lcZ (src_of_tup h1) (src_of_tup h2) rfl (fun _ => true) (fun k y _ => ∀ m n, a[k]? = some m → b[k]? = some n → y = g (f m n)) (fun _ _ _ _ _ h => h) (by simp; omega) hwi hwj (fun k x y H' hk hx hy sm => ?_) (fun D H' ys hD sm eD pr => ?_)
  · obtain ⟨m, hm, rfl⟩ := at_map hx
    obtain ⟨n, hn, rfl⟩ := at_map hy
    intro Kc N hK hN
    show (if true = true then te _ H' Kc else N H')
    rw [if_pos rfl]
    refine he m n H' Kc (hK rfl _ _ (Same.refl _) fun m' n' e1 e2 => ?_)
    rw [hm] at e1; rw [hn] at e2
    cases e1; cases e2
    rfl
  · refine hd D H' hD sm ?_
    rw [eD]
    congr 2
    rw [filter_true] at pr
    apply List.ext_getElem?
    intro k
    by_cases hk : k < min a.length b.length
    · have hr : (List.range (min (a.map V.int).length (b.map V.int).length))[k]? = some k := by
        rw [List.getElem?_range (by simpa using hk)]
      obtain ⟨y, hy, py⟩ := paired_getL pr hr
      have ha : a[k]? = some a[k] := List.getElem?_eq_getElem (by omega)
      have hb : b[k]? = some b[k] := List.getElem?_eq_getElem (by omega)
      rw [hy, py _ _ ha hb, List.getElem?_map, List.getElem?_zipWith, ha, hb]
      rfl
    · have l := paired_len pr
      rw [List.length_range] at l
      rw [List.getElem?_eq_none (by rw [← l]; simpa using Nat.not_lt.mp hk), List.getElem?_eq_none (by simp; omega)]
section
variable {P : Program} {w : World} {K : PySem.W.Frag} {mg : Str → Option Value} {base : Heap} {f : Addr} {fd : FuncData}
theorem ok_added (F : FnP K "added" sadded f fd) (B : Bt mg) : FnOk P w K mg base CX0 1 f fd ["one", "other"] (sp2 addL) := by
  refine F.ok sc_added (fun vs H Q E h => ?_) (fun cdv A outer s H vs Q E hr h => ?_)
  · obtain ⟨x, y, a, b, rfl, _⟩ := h
    rfl
  · obtain ⟨x, y, a, b, rfl, ⟨p, rfl, hp⟩, ⟨q, rfl, hq⟩, hn, k⟩ := h
    refine ⟨_, PSs.nox (pss_one (ps_ret (pe_callTy call_tuple_of (by rfl) B.tuple (by decide +kernel) (pa_cons (pe_lcx (own := [("mine", 2), ("its", 3)]) (g := (gTup K 2 (gCons (gName 2) (gCons (gName 3) gNil)))) rfl sc_added.nd (pi_z2 (by rfl) B.zip (pa_cons (pv 0) (pa_cons (pv 1) pa_nil))) (blkOk_by (own := [("mine", 2), ("its", 3)]) (N := N_added) (sc := (defScope sadded)) (by decide +kernel)) (fun _ _ _ _ _ => (pg_tup rfl (pgs_cons (pg_name (i := 2) sc_added.nd rfl (Or.inl rfl)) (pgs_cons (pg_name (i := 3) sc_added.nd rfl (Or.inl rfl)) pgs_nil)))) (fun _ _ _ _ _ => pts_nil) (fun _ _ _ _ _ => (pe_op op_add (pv 2) (pv 3)))) pa_nil)))), ?_⟩
    rw [st_added]
    refine ⟨_, rfl, _, rfl, false, false, p, q, _, _, rfl, src_of_tup hp, src_of_tup hq, ?_⟩
    refine lcZI (fun i j => i + j) V.int hp hq hn (by decide) (by decide) (fun m n H' Q hQ => ⟨_, rfl, _, rfl, m, n, rfl, rfl, hQ⟩) (fun D H' hD sm eD => ?_)
    refine ⟨D, _, rfl, .inl ⟨SqL.of eD, fun l hl => ?_⟩⟩
    exact k _ _ (sm.trans (same_new hl)) (tupI_new rfl)
theorem ok_lsum (F : FnP K "_law_sum" s_law_sum f fd) (B : Bt mg) : FnOk P w K mg base CX0 1 f fd ["_law_one_here", "_law_other"] (sp2 addL) := by
  refine F.ok sc_l_sum (fun vs H Q E h => ?_) (fun cdv A outer s H vs Q E hr h => ?_)
  · obtain ⟨x, y, a, b, rfl, _⟩ := h
    rfl
  · obtain ⟨x, y, a, b, rfl, ⟨p, rfl, hp⟩, ⟨q, rfl, hq⟩, hn, k⟩ := h
    refine ⟨_, PSs.nox (pss_one (ps_ret (pe_callTy call_tuple_of (by rfl) B.tuple (by decide +kernel) (pa_cons (pe_lcx (own := [("_law_more", 2), ("_law_less_here", 3)]) (g := (gTup K 2 (gCons (gName 2) (gCons (gName 3) gNil)))) rfl sc_l_sum.nd (pi_z2 (by rfl) B.zip (pa_cons (pv 0) (pa_cons (pv 1) pa_nil))) (blkOk_by (own := [("_law_more", 2), ("_law_less_here", 3)]) (N := N_l_sum) (sc := (defScope s_law_sum)) (by decide +kernel)) (fun _ _ _ _ _ => (pg_tup rfl (pgs_cons (pg_name (i := 2) sc_l_sum.nd rfl (Or.inl rfl)) (pgs_cons (pg_name (i := 3) sc_l_sum.nd rfl (Or.inl rfl)) pgs_nil)))) (fun _ _ _ _ _ => pts_nil) (fun _ _ _ _ _ => (pe_op op_add (pv 2) (pv 3)))) pa_nil)))), ?_⟩
    rw [st_l_sum]
    refine ⟨_, rfl, _, rfl, false, false, p, q, _, _, rfl, src_of_tup hp, src_of_tup hq, ?_⟩
    refine lcZI (fun i j => i + j) V.int hp hq hn (by decide) (by decide) (fun m n H' Q hQ => ⟨_, rfl, _, rfl, m, n, rfl, rfl, hQ⟩) (fun D H' hD sm eD => ?_)
    refine ⟨D, _, rfl, .inl ⟨SqL.of eD, fun l hl => ?_⟩⟩
    exact k _ _ (sm.trans (same_new hl)) (tupI_new rfl)
theorem ok_lless (F : FnP K "_law_less" s_law_less f fd) (B : Bt mg) : FnOk P w K mg base CX0 1 f fd ["_law_one_here", "_law_other"] (sp2 subL) := by
  refine F.ok sc_l_less (fun vs H Q E h => ?_) (fun cdv A outer s H vs Q E hr h => ?_)
  · obtain ⟨x, y, a, b, rfl, _⟩ := h
    rfl
  · obtain ⟨x, y, a, b, rfl, ⟨p, rfl, hp⟩, ⟨q, rfl, hq⟩, hn, k⟩ := h
    refine ⟨_, PSs.nox (pss_one (ps_ret (pe_callTy call_tuple_of (by rfl) B.tuple (by decide +kernel) (pa_cons (pe_lcx (own := [("_law_more", 2), ("_law_less_here", 3)]) (g := (gTup K 2 (gCons (gName 2) (gCons (gName 3) gNil)))) rfl sc_l_less.nd (pi_z2 (by rfl) B.zip (pa_cons (pv 0) (pa_cons (pv 1) pa_nil))) (blkOk_by (own := [("_law_more", 2), ("_law_less_here", 3)]) (N := N_l_less) (sc := (defScope s_law_less)) (by decide +kernel)) (fun _ _ _ _ _ => (pg_tup rfl (pgs_cons (pg_name (i := 2) sc_l_less.nd rfl (Or.inl rfl)) (pgs_cons (pg_name (i := 3) sc_l_less.nd rfl (Or.inl rfl)) pgs_nil)))) (fun _ _ _ _ _ => pts_nil) (fun _ _ _ _ _ => (pe_op op_sub (pv 2) (pv 3)))) pa_nil)))), ?_⟩
    rw [st_l_less]
    refine ⟨_, rfl, _, rfl, false, false, p, q, _, _, rfl, src_of_tup hp, src_of_tup hq, ?_⟩
    refine lcZI (fun i j => i - j) V.int hp hq hn (by decide) (by decide) (fun m n H' Q hQ => ⟨_, rfl, _, rfl, m, n, rfl, rfl, hQ⟩) (fun D H' hD sm eD => ?_)
    refine ⟨D, _, rfl, .inl ⟨SqL.of eD, fun l hl => ?_⟩⟩
    exact k _ _ (sm.trans (same_new hl)) (tupI_new rfl)
theorem ok_fits (F : FnP K "fits" sfits f fd) (B : Bt mg) : FnOk P w K mg base CX0 1 f fd ["heaps", "rooms"] (sp2B leL) := by
  refine F.ok sc_fits (fun vs H Q E h => ?_) (fun cdv A outer s H vs Q E hr h => ?_)
  · obtain ⟨x, y, a, b, rfl, _⟩ := h
    rfl
  · obtain ⟨x, y, a, b, rfl, ⟨p, rfl, hp⟩, ⟨q, rfl, hq⟩, hn, k⟩ := h
    refine ⟨_, PSs.nox (pss_one (ps_ret (pe_callB (cr_all rfl) (by rfl) B.all_ (by decide +kernel) (pa_cons (pe_lcx (own := [("there", 2), ("room", 3)]) (g := (gTup K 2 (gCons (gName 2) (gCons (gName 3) gNil)))) rfl sc_fits.nd (pi_z2 (by rfl) B.zip (pa_cons (pv 0) (pa_cons (pv 1) pa_nil))) (blkOk_by (own := [("there", 2), ("room", 3)]) (N := N_fits) (sc := (defScope sfits)) (by decide +kernel)) (fun _ _ _ _ _ => (pg_tup rfl (pgs_cons (pg_name (i := 2) sc_fits.nd rfl (Or.inl rfl)) (pgs_cons (pg_name (i := 3) sc_fits.nd rfl (Or.inl rfl)) pgs_nil)))) (fun _ _ _ _ _ => pts_nil) (fun _ _ _ _ _ => (pe_cmpR op_le (pv 2) (pv 3) (nomark _)))) pa_nil)))), ?_⟩
    rw [st_fits]
    refine ⟨_, rfl, _, rfl, false, false, p, q, _, _, rfl, src_of_tup hp, src_of_tup hq, ?_⟩
    refine lcZI (fun i j => decide (i ≤ j)) V.bl hp hq hn (by decide) (by decide) (fun m n H' Q hQ => ⟨_, rfl, _, rfl, m, n, rfl, rfl, hQ⟩) (fun D H' hD sm eD => ?_)
    exact ⟨D, _, rfl, SqL.of eD, k _ _ sm rfl⟩
theorem leL_iff {a b : List Int} : leL a b = true ↔ ∀ (k : Nat) (m n : Int), a[k]? = some m → b[k]? = some n → m ≤ n := by
  unfold leL
  constructor
  · intro h k m n ha hb
    have := List.all_eq_true.mp h (decide (m ≤ n)) (List.mem_iff_getElem?.mpr ⟨k, by rw [List.getElem?_zipWith, ha, hb]⟩)
    exact of_decide_eq_true this
  · intro h
    refine List.all_eq_true.mpr fun x hx => ?_
    obtain ⟨k, hk⟩ := List.mem_iff_getElem?.mp hx
    rw [List.getElem?_zipWith] at hk
    cases ea : a[k]? with
    | none => rw [ea] at hk; simp at hk
    | some m =>
      cases eb : b[k]? with
      | none => rw [ea, eb] at hk; simp at hk
      | some n =>
        rw [ea, eb] at hk
        cases hk
        exact decide_eq_true (h k m n ea eb)
theorem ok_lwithin (F : FnP K "_law_within" s_law_within f fd) (B : Bt mg) : FnOk P w K mg base CX0 1 f fd ["_law_one_here", "_law_other"] (sp2B leL) := by
  refine F.ok sc_l_within (fun vs H Q E h => ?_) (fun cdv A outer s H vs Q E hr h => ?_)
  · obtain ⟨x, y, a, b, rfl, _⟩ := h
    rfl
  · obtain ⟨x, y, a, b, rfl, ⟨p, rfl, hp⟩, ⟨q, rfl, hq⟩, hn, k⟩ := h
    refine ⟨_, PSs.nox (pss_one (ps_ret (pe_cmpR (op_eqD hr.units) (pe_lcx (own := [("_law_less_here", 2), ("_law_more", 3)]) (g := (gTup K 2 (gCons (gName 2) (gCons (gName 3) gNil)))) rfl sc_l_within.nd (pi_z2 (by rfl) B.zip (pa_cons (pv 0) (pa_cons (pv 1) pa_nil))) (blkOk_by (own := [("_law_less_here", 2), ("_law_more", 3)]) (N := N_l_within) (sc := (defScope s_law_within)) (by decide +kernel)) (fun _ _ _ _ _ => (pg_tup rfl (pgs_cons (pg_name (i := 2) sc_l_within.nd rfl (Or.inl rfl)) (pgs_cons (pg_name (i := 3) sc_l_within.nd rfl (Or.inl rfl)) pgs_nil)))) (fun _ _ _ _ _ => (pts_one (pt_cmpR op_gt (pv 2) (pv 3) (nomark _)))) (fun _ _ _ _ _ => pe_int)) (pe_lst pa_nil) (nomark _)))), ?_⟩
    rw [st_l_within]
    refine ⟨_, rfl, _, rfl, false, false, p, q, _, _, rfl, src_of_tup hp, src_of_tup hq, ?_⟩
    refine lcZ (src_of_tup hp) (src_of_tup hq) rfl (fun k => decide (b.getD k 0 < a.getD k 0)) (fun _ y _ => y = .int 1) (fun _ _ _ _ _ h => h) (by simp; omega) (by decide) (by decide) (fun k x y H' hk hx hy sm => ?_) (fun D H' ys hD sm eD pr => ?_)
    · obtain ⟨m, hm, rfl⟩ := at_map hx
      obtain ⟨n, hn, rfl⟩ := at_map hy
      intro Kc N hK hN
      refine ⟨_, rfl, _, rfl, m, n, rfl, rfl, _, rfl, ?_⟩
      rw [List.getD_eq_getElem?_getD, hn, List.getD_eq_getElem?_getD, hm] at hK hN
      by_cases hmn : n < m
      · rw [if_pos (decide_eq_true hmn)]
        exact hK (decide_eq_true hmn) _ _ (Same.refl _) rfl
      · rw [if_neg (by simpa using hmn)]
        exact hN (decide_eq_false hmn) _ (Same.refl _)
    · have ey := paired_eq (v := fun _ => V.int 1) pr
      have eys : ys = (((List.range (min (a.map V.int).length (b.map V.int).length)).filter fun k => decide (b.getD k 0 < a.getD k 0)).map fun _ => (1 : Int)).map V.int := by
        rw [ey, List.map_map]
        rfl
      refine ⟨by decide, fun e he => ?_⟩
      have eD' : upd H' e (.lst []) D = some (.lst ys) := same_new he _ _ eD
      refine rEq_nilL (n := 0) eD' (by rw [eys]; exact dpAll_ints _) (lt_ints _) (by decide) upd_same (k _ _ (sm.trans (same_new he)) ?_)
      congr 1
      rw [eys]
      cases hl : leL a b with
      | true =>
        have h1 := leL_iff.mp hl
        rw [List.isEmpty_iff, List.map_eq_nil_iff, List.map_eq_nil_iff, List.filter_eq_nil_iff]
        intro j hj
        have hj' := List.mem_range.mp hj
        rw [List.length_map, List.length_map] at hj'
        have ha : a[j]? = some a[j] := List.getElem?_eq_getElem (by omega)
        have hb : b[j]? = some b[j] := List.getElem?_eq_getElem (by omega)
        have := h1 j _ _ ha hb
        rw [List.getD_eq_getElem?_getD, hb, List.getD_eq_getElem?_getD, ha]
        simpa using this
      | false =>
        rw [← Bool.not_eq_true, List.isEmpty_iff, List.map_eq_nil_iff, List.map_eq_nil_iff, List.filter_eq_nil_iff]
        intro hh
        rw [← Bool.not_eq_true] at hl
        apply hl
        refine leL_iff.mpr fun j m n ha hb => ?_
        have l1 := (List.getElem?_eq_some_iff.mp ha).1
        have l2 := (List.getElem?_eq_some_iff.mp hb).1
        have := hh j (List.mem_range.mpr (by simp; omega))
        rw [List.getD_eq_getElem?_getD, hb, List.getD_eq_getElem?_getD, ha] at this
        simpa using this
end
end K11

set_option Elab.async false
set_option linter.all false
set_option maxRecDepth 100000
set_option maxHeartbeats 4000000
namespace K11
open PySem PySem.Spec PyProof.Rows L2
/-! ### works, states, deeds -/
def RcOk (n : Nat) (hs : List Str) (r : Rc) : Prop := r.t.length = n ∧ r.p.length = n ∧ (∀ x ∈ r.t, 0 ≤ x ∧ x ≤ 8) ∧ (∀ x ∈ r.p, 0 ≤ x ∧ x ≤ 8) ∧ ∀ s, r.h = some s → s ∈ hs ∧ PyData.strOk s = true
def WkOk (W : Wk) : Prop := 1 ≤ W.kinds.length ∧ W.kinds.length ≤ 8 ∧ W.hands.length ≤ 8 ∧ W.hands.Nodup ∧ W.recs.length ≤ 16 ∧ ∀ r ∈ W.recs, RcOk W.kinds.length W.hands r
def StOk (W : Wk) (s : Sta) : Prop := s.1.length = W.kinds.length ∧ s.2.length = W.hands.length ∧ ∀ x ∈ s.2, 0 ≤ x
def Bd (b : Nat) (l : List Int) : Prop := ∀ x ∈ l, 0 ≤ x ∧ x ≤ (b : Int)
def leftC (hs : List Str) (r : Rc) (cr : List Int) : Option (List Int) := match r.h with
  | none => some cr
  | some h => if cr.getD (hs.idxOf h) 0 = 0 then none else some (cr.set (hs.idxOf h) (cr.getD (hs.idxOf h) 0 - 1))
def deedR (W : Wk) (s : Sta) (r : Rc) : Option Sta := if leL r.t s.1 = true then (leftC W.hands r s.2).map fun c => (addL (subL s.1 r.t) r.p, c) else none
def deed (W : Wk) (s : Sta) (i : Int) : Option Sta := if 0 ≤ i then (W.recs[i.toNat]?).bind (deedR W s) else none
def runD (W : Wk) (s : Sta) : List Int → Option Sta
  | [] => some s
  | i :: ds => (deed W s i).bind fun t => runD W t ds
theorem runD_app (W : Wk) : ∀ (a b : List Int) (s : Sta), runD W s (a ++ b) = (runD W s a).bind fun t => runD W t b
  | [], b, s => rfl
  | i :: a, b, s => by
    simp only [List.cons_append, runD]
    cases deed W s i with
    | none => rfl
    | some t => exact runD_app W a b t
theorem runD_snoc (W : Wk) (a : List Int) (i : Int) (s : Sta) : runD W s (a ++ [i]) = (runD W s a).bind fun t => deed W t i := by
  rw [runD_app]
  congr 1
  funext t
  simp only [runD]
  cases deed W t i <;> rfl
theorem runD_take {W : Wk} {s t : Sta} {ds : List Int} (h : runD W s ds = some t) (m : Nat) : ∃ u, runD W s (ds.take m) = some u := by
  have e := runD_app W (ds.take m) (ds.drop m) s
  rw [List.take_append_drop, h] at e
  cases q : runD W s (ds.take m) with
  | none => rw [q] at e; cases e
  | some u => exact ⟨u, rfl⟩
theorem deed_rec {W : Wk} {s t : Sta} {i : Int} (h : deed W s i = some t) : ∃ r, 0 ≤ i ∧ W.recs[i.toNat]? = some r ∧ deedR W s r = some t := by
  unfold deed at h
  by_cases h0 : 0 ≤ i
  · rw [if_pos h0] at h
    cases e : W.recs[i.toNat]? with
    | none => rw [e] at h; cases h
    | some r =>
      rw [e] at h
      exact ⟨r, h0, rfl, h⟩
  · rw [if_neg h0] at h
    cases h
theorem deed_at {W : Wk} {s : Sta} {i : Int} {r : Rc} (h0 : 0 ≤ i) (h : W.recs[i.toNat]? = some r) : deed W s i = deedR W s r := by
  unfold deed
  rw [if_pos h0, h]
  rfl
theorem deedR_some {W : Wk} {s t : Sta} {r : Rc} (h : deedR W s r = some t) : leL r.t s.1 = true ∧ leftC W.hands r s.2 = some t.2 ∧ t.1 = addL (subL s.1 r.t) r.p := by
  unfold deedR at h
  by_cases hl : leL r.t s.1 = true
  · rw [if_pos hl] at h
    cases e : leftC W.hands r s.2 with
    | none => rw [e] at h; cases h
    | some c =>
      rw [e] at h
      cases h
      exact ⟨hl, rfl, rfl⟩
  · rw [if_neg hl] at h
    cases h
theorem leftC_ok {hs : List Str} {r : Rc} {c d : List Int} (h : leftC hs r c = some d) (hc : ∀ x ∈ c, (0 : Int) ≤ x) : d.length = c.length ∧ ∀ x ∈ d, 0 ≤ x := by
  unfold leftC at h
  cases e : r.h with
  | none =>
    rw [e] at h
    cases h
    exact ⟨rfl, hc⟩
  | some z =>
    rw [e] at h
    simp only at h
    by_cases h0 : c.getD (hs.idxOf z) 0 = 0
    · rw [if_pos h0] at h
      cases h
    · rw [if_neg h0] at h
      cases h
      refine ⟨List.length_set, fun x hx => ?_⟩
      rcases List.mem_or_eq_of_mem_set hx with q | q
      · exact hc x q
      · rw [q]
        have : 0 ≤ c.getD (hs.idxOf z) 0 := by
          rw [List.getD_eq_getElem?_getD]
          cases e2 : c[hs.idxOf z]? with
          | none => exact Int.le_refl _
          | some v => exact hc v (List.mem_of_getElem? e2)
        omega
theorem addL_len {a b : List Int} (h : a.length = b.length) : (addL a b).length = a.length := by simp [addL, h]
theorem subL_len {a b : List Int} (h : a.length = b.length) : (subL a b).length = a.length := by simp [subL, h]
theorem zw_mem {f : Int → Int → Int} : ∀ {a b : List Int} {x : Int}, x ∈ List.zipWith f a b → ∃ (k : Nat) (m n : Int), a[k]? = some m ∧ b[k]? = some n ∧ x = f m n := fun {a b x} h => by
  obtain ⟨k, hk⟩ := List.mem_iff_getElem?.mp h
  rw [List.getElem?_zipWith] at hk
  cases ea : a[k]? with
  | none => rw [ea] at hk; simp at hk
  | some m =>
    cases eb : b[k]? with
    | none => rw [ea, eb] at hk; simp at hk
    | some n =>
      rw [ea, eb] at hk
      exact ⟨k, m, n, ea, eb, (Option.some.inj hk).symm⟩
theorem addL_bd {a b : List Int} {m n : Nat} (ha : Bd m a) (hb : Bd n b) : Bd (m + n) (addL a b) := fun x hx => by
  obtain ⟨k, i, j, h1, h2, rfl⟩ := zw_mem hx
  have := ha i (List.mem_of_getElem? h1)
  have := hb j (List.mem_of_getElem? h2)
  omega
theorem addL_nn {a b : List Int} (ha : ∀ x ∈ a, 0 ≤ x) (hb : ∀ x ∈ b, 0 ≤ x) : ∀ x ∈ addL a b, 0 ≤ x := fun x hx => by
  obtain ⟨k, i, j, h1, h2, rfl⟩ := zw_mem hx
  have := ha i (List.mem_of_getElem? h1)
  have := hb j (List.mem_of_getElem? h2)
  omega
theorem subL_bd {a b : List Int} {m : Nat} (ha : Bd m a) (hb : ∀ x ∈ b, 0 ≤ x) (hl : leL b a = true) : Bd m (subL a b) := fun x hx => by
  obtain ⟨k, i, j, h1, h2, rfl⟩ := zw_mem hx
  have := ha i (List.mem_of_getElem? h1)
  have := hb j (List.mem_of_getElem? h2)
  have := leL_iff.mp hl k j i h2 h1
  omega
theorem StOk.deed {W : Wk} {s t : Sta} {i : Int} (w : WkOk W) (h : StOk W s) (e : deed W s i = some t) : StOk W t := by
  obtain ⟨r, _, hr, e⟩ := deed_rec e
  obtain ⟨_, e2, e1⟩ := deedR_some e
  obtain ⟨h1, h2, h3⟩ := h
  obtain ⟨l2, n2⟩ := leftC_ok e2 h3
  obtain ⟨rt, rp, _⟩ := w.2.2.2.2.2 r (List.mem_of_getElem? hr)
  refine ⟨?_, l2.trans h2, n2⟩
  have ls : (subL s.1 r.t).length = s.1.length := subL_len (by omega)
  rw [e1, addL_len (by omega), ls]
  exact h1
theorem Bd.deed {W : Wk} {s t : Sta} {i : Int} {b : Nat} (w : WkOk W) (h : Bd b s.1) (e : deed W s i = some t) : Bd (b + 8) t.1 := by
  obtain ⟨r, _, hr, e⟩ := deed_rec e
  obtain ⟨hl, _, e1⟩ := deedR_some e
  obtain ⟨_, _, rt, rp, _⟩ := w.2.2.2.2.2 r (List.mem_of_getElem? hr)
  rw [e1]
  exact addL_bd (subL_bd h (fun x hx => (rt x hx).1) hl) fun x hx => ⟨(rp x hx).1, by have := (rp x hx).2; omega⟩
theorem StOk.run {W : Wk} (w : WkOk W) : ∀ {ds : List Int} {s t : Sta}, StOk W s → runD W s ds = some t → StOk W t
  | [], s, t, h, e => by cases e; exact h
  | i :: ds, s, t, h, e => by
    simp only [runD] at e
    cases q : K11.deed W s i with
    | none => rw [q] at e; cases e
    | some u =>
      rw [q] at e
      exact StOk.run w (StOk.deed w h q) e
theorem Bd.run {W : Wk} (w : WkOk W) : ∀ {ds : List Int} {s t : Sta} {b : Nat}, Bd b s.1 → runD W s ds = some t → Bd (b + 8 * ds.length) t.1
  | [], s, t, b, h, e => by cases e; exact h
  | i :: ds, s, t, b, h, e => by
    simp only [runD] at e
    cases q : K11.deed W s i with
    | none => rw [q] at e; cases e
    | some u =>
      rw [q] at e
      have := Bd.run w (Bd.deed w h q) e
      rw [List.length_cons]
      rw [show b + 8 * (ds.length + 1) = b + 8 + 8 * ds.length by omega]
      exact this
theorem runD_ix {W : Wk} : ∀ {ds : List Int} {s t : Sta}, runD W s ds = some t → ∀ i ∈ ds, 0 ≤ i ∧ i < (W.recs.length : Int)
  | [], s, t, e => by simp
  | i :: ds, s, t, e => by
    simp only [runD] at e
    cases q : K11.deed W s i with
    | none => rw [q] at e; cases e
    | some u =>
      rw [q] at e
      intro j hj
      rcases List.mem_cons.mp hj with rfl | hj
      · obtain ⟨r, h0, hr, _⟩ := deed_rec q
        have := (List.getElem?_eq_some_iff.mp hr).1
        omega
      · exact runD_ix e j hj
/-! ### what was met -/
abbrev Met := List (Sta × List Int)
/-- all that was met is behind its deeds; what is behind any deeds was met with no more deeds -/
structure MetOk (W : Wk) (s : Sta) (M : Met) : Prop where
  nd : (M.map (·.1)).Nodup
  run : ∀ p ∈ M, runD W s p.2 = some p.1
  all : ∀ ds t, runD W s ds = some t → ∃ e, (t, e) ∈ M ∧ e.length ≤ ds.length
  short : ∀ p ∈ M, p.2.length ≤ 6000
def Small (W : Wk) (s : Sta) : Prop := ∃ M, MetOk W s M ∧ M.length ≤ 5000
/-- the walk's own invariant at level L -/
structure LvOk (W : Wk) (s : Sta) (L : Nat) (M : Met) (line : List Sta) : Prop where
  nd : (M.map (·.1)).Nodup
  run : ∀ p ∈ M, runD W s p.2 = some p.1 ∧ p.2.length ≤ L ∧ (p.2.length = L → p.1 ∈ line)
  line : ∀ t ∈ line, ∃ ds, (t, ds) ∈ M ∧ ds.length = L
  all : ∀ ds t, runD W s ds = some t → ds.length ≤ L → ∃ e, (t, e) ∈ M ∧ e.length ≤ ds.length
theorem lv0 (W : Wk) (s : Sta) : LvOk W s 0 [(s, [])] [s] where
  nd := by simp
  run := fun p hp => by
    rw [List.mem_singleton.mp hp]
    exact ⟨rfl, Nat.le_refl _, fun _ => by simp⟩
  line := fun t ht => ⟨[], by rw [List.mem_singleton.mp ht]; simp, rfl⟩
  all := fun ds t h hl => by
    have : ds = [] := List.length_eq_zero_iff.mp (by omega)
    subst this
    cases h
    exact ⟨[], by simp, Nat.le_refl _⟩
theorem LvOk.ends {W : Wk} {s : Sta} {L : Nat} {M : Met} (h : LvOk W s L M []) (hL : L ≤ 6000) : MetOk W s M where
  nd := h.nd
  run := fun p hp => (h.run p hp).1
  short := fun p hp => Nat.le_trans (h.run p hp).2.1 hL
  all := by
    have lt : ∀ p ∈ M, p.2.length < L := fun p hp => by
      obtain ⟨_, h1, h2⟩ := h.run p hp
      by_cases e : p.2.length = L
      · exact absurd (h2 e) (by simp)
      · omega
    intro ds
    induction hn : ds.length generalizing ds with
    | zero =>
      intro t ht
      obtain ⟨e, h1, h2⟩ := h.all ds t ht (by omega)
      exact ⟨e, h1, by omega⟩
    | succ n ih =>
      intro t ht
      rcases List.eq_nil_or_concat ds with e | ⟨ds', i, e⟩
      · subst e
        simp at hn
      · subst e
        rw [List.concat_eq_append] at ht hn
        rw [List.length_append, List.length_singleton] at hn
        rw [runD_snoc] at ht
        cases q : runD W s ds' with
        | none => rw [q] at ht; cases ht
        | some u =>
          rw [q] at ht
          have ht : deed W u i = some t := ht
          obtain ⟨e, he, hl⟩ := ih ds' (by omega) u q
          have l2 := lt _ he
          have r2 : runD W s (e ++ [i]) = some t := by
            rw [runD_snoc, (h.run _ he).1]
            exact ht
          obtain ⟨e3, h3, l3⟩ := h.all _ t r2 (by simp only [List.length_append, List.length_singleton]; simp only [] at l2; omega)
          refine ⟨e3, h3, ?_⟩
          simp only [List.length_append, List.length_singleton] at l3
          omega
/-- inside a level: pr tells which turns are done -/
structure InOk (W : Wk) (s : Sta) (L : Nat) (M : Met) (line : List Sta) (N : Met) (pr : Sta → Int → Prop) : Prop where
  nd : ((M ++ N).map (·.1)).Nodup
  run : ∀ p ∈ N, runD W s p.2 = some p.1 ∧ p.2.length = L + 1
  done : ∀ t i u, pr t i → deed W t i = some u → u ∈ (M ++ N).map (·.1)
theorem InOk.next {W : Wk} {s : Sta} {L : Nat} {M : Met} {line : List Sta} {N : Met} {pr : Sta → Int → Prop} (l : LvOk W s L M line) (h : InOk W s L M line N pr) (hp : ∀ t ∈ line, ∀ i u, deed W t i = some u → pr t i) : LvOk W s (L + 1) (M ++ N) (N.map (·.1)) where
  nd := h.nd
  run := fun p hp => by
    rcases List.mem_append.mp hp with q | q
    · obtain ⟨h1, h2, _⟩ := l.run p q
      exact ⟨h1, by omega, fun e => by omega⟩
    · obtain ⟨h1, h2⟩ := h.run p q
      exact ⟨h1, by omega, fun _ => List.mem_map.mpr ⟨p, q, rfl⟩⟩
  line := fun t ht => by
    obtain ⟨p, hp, rfl⟩ := List.mem_map.mp ht
    exact ⟨p.2, List.mem_append_right _ hp, (h.run p hp).2⟩
  all := fun ds t ht hl => by
    by_cases hL : ds.length ≤ L
    · obtain ⟨e, h1, h2⟩ := l.all ds t ht hL
      exact ⟨e, List.mem_append_left _ h1, h2⟩
    · rcases List.eq_nil_or_concat ds with e | ⟨ds', i, e⟩
      · subst e
        simp at hL
      · subst e
        rw [List.concat_eq_append] at ht hl hL ⊢
        rw [List.length_append, List.length_singleton] at hl hL
        rw [runD_snoc] at ht
        cases q : runD W s ds' with
        | none => rw [q] at ht; cases ht
        | some u =>
          rw [q] at ht
          have ht : deed W u i = some t := ht
          obtain ⟨e, he, hl'⟩ := l.all ds' u q (by omega)
          obtain ⟨r1, r2, r3⟩ := l.run _ he
          simp only [] at r1 r2 r3
          by_cases hE : e.length = L
          · have hu : u ∈ line := r3 hE
            have hk := h.done u i t (hp u hu i t ht) ht
            obtain ⟨p, hp, e2⟩ := List.mem_map.mp hk
            refine ⟨p.2, by rw [← e2]; exact hp, ?_⟩
            rw [List.length_append, List.length_singleton]
            rcases List.mem_append.mp hp with z | z
            · have := (l.run p z).2.1
              omega
            · have := (h.run p z).2
              omega
          · have r4 : runD W s (e ++ [i]) = some t := by
              rw [runD_snoc, r1]
              exact ht
            obtain ⟨e3, h3, l3⟩ := l.all _ t r4 (by rw [List.length_append, List.length_singleton]; omega)
            refine ⟨e3, List.mem_append_left _ h3, ?_⟩
            rw [List.length_append, List.length_singleton] at l3 ⊢
            omega
theorem nodup_sub_len {α : Type} [DecidableEq α] : ∀ {a b : List α}, a.Nodup → (∀ x ∈ a, x ∈ b) → a.length ≤ b.length
  | [], b, _, _ => Nat.zero_le _
  | x :: a, b, n, h => by
    have n' := List.nodup_cons.mp n
    have := nodup_sub_len (b := b.erase x) n'.2 fun y hy => (List.mem_erase_of_ne (fun e => n'.1 (by rw [← e]; exact hy))).mpr (h y (List.mem_cons_of_mem _ hy))
    have hx := List.length_erase_of_mem (h x (List.mem_cons_self ..))
    have pos : 0 < b.length := List.length_pos_of_mem (h x (List.mem_cons_self ..))
    rw [List.length_cons]
    omega
/-- what was met is never more than all that can be -/
theorem small_len {W : Wk} {s : Sta} {M : Met} (h : Small W s) (nd : (M.map (·.1)).Nodup) (run : ∀ p ∈ M, runD W s p.2 = some p.1) : M.length ≤ 5000 := by
  obtain ⟨M', ok, hl⟩ := h
  have := nodup_sub_len (b := M'.map (·.1)) nd fun t ht => by
    obtain ⟨p, hp, rfl⟩ := List.mem_map.mp ht
    obtain ⟨e, he, _⟩ := ok.all _ _ (run p hp)
    exact List.mem_map.mpr ⟨_, he, rfl⟩
  rw [List.length_map, List.length_map] at this
  omega
/-! ### ends -/
abbrev Es := List (List Int × List Int)
structure EndsOk (W : Wk) (s : Sta) (es : Es) : Prop where
  run : ∀ p ∈ es, ∃ t, runD W s p.2 = some t ∧ t.1 = p.1
  all : ∀ ds t, runD W s ds = some t → ∃ e, (t.1, e) ∈ es ∧ e.length ≤ ds.length
  nd : (es.map (·.1)).Nodup
  short : ∀ p ∈ es, p.2.length ≤ 6000
end K11

set_option Elab.async false
set_option linter.all false
set_option maxRecDepth 100000
set_option maxHeartbeats 4000000
namespace K11
open PySem PySem.Spec PyProof.Rows L2
/-! ### a tuple whose object is known; its index -/
section
variable {X : Cx}
theorem call_tuple_frz : CallR X (.type "tuple") (fun xs H Q => ∃ p ys, xs = [.ref p] ∧ SqL X.K H p ys ∧ ∀ l o, H l = none → o.cls = .type "tuple" → o.dict = none → Q (.ref l) (upd H l (.frz o (.tup ys)))) := by
  intro pins s σ H xs us Q I r h
  obtain ⟨p, ys, rfl, hq, q⟩ := h
  obtain ⟨u, rfl, rx⟩ := vals1 r
  cases rx
  obtain ⟨its, rv, pl, hz⟩ := I.list hq
  have hlen := rv.length
  refine call_tuple_list pl.isList (fun h' kp => ?_) (by simp only [List.size_toArray] <;> omega)
  have I1 : Inv X pins σ H { s with heap := h' } := I.kept (t' := s.toks) kp
  have I2 := I1.laid (a := h'.objs.size) (o := .frz { cls := .type "tuple", data := .seq its.toArray } (.tup ys)) (t' := s.toks) (h' := h'.push { cls := .type "tuple", data := .seq its.toArray }) (fun b o e => Heap.get?_push_of_some _ e) (Nat.le_refl _)
    ⟨Heap.get?_push_size _ rfl, hz, its, rv, IsTup.new _ _⟩
  exact ⟨.ref h'.objs.size, _, I2, rfl, q _ _ (I1.hok.fresh (Nat.le_refl _)) rfl rfl⟩
def tBMF (r : V → List V → Hp → VK → Prop) (to : TE) (t : TA) : TE := fun σ H Q => to σ H fun x H1 => (∃ a o xs, x = .ref a ∧ H1 a = some (.frz o (.tup xs)) ∧ o.cls = .type "tuple" ∧ o.dict = none) ∧ t σ H1 fun xs H2 => r x xs H2 Q
theorem pe_bmF {o e : Expr} {es : List Expr} {to : TE} {t : TA} {name : Str} {apos cpos : Pos} {id : String} {r : V → List V → Hp → VK → Prop} (pa : PlainAttrs "tuple") (slot : Slot "tuple" name id) (hty : typeOf (.builtin id) = pure (.type "method_descriptor")) (hm : MtR X id r) (ho : PE X o to) (ha : PA X (e :: es) t)
    (hbase : attributeBase o name X.env (eval o X.env) = eval o X.env := by rfl)
    (hfew : ((backTo cpos (starEach (e :: es) X.env)).all (fun x => !x.1) && (backToKw cpos (keywordEach [] X.env)).all (fun x => x.1.isSome)
      && decide ((e :: es).length + ([] : List Keyword).length + (if ([] : List Keyword).isEmpty then 0 else 1) < 30)) = true := by rfl)
    (hline : (apos.endLine == cpos.line) = true := by rfl) (hs : starEach (e :: es) X.env = (false, eval e X.env) :: starEach es X.env := by rfl) (hplain : (backTo cpos (starEach es X.env)).any (·.1) = false := by rfl) :
    PE X (.Call (.Attribute o name apos) (e :: es) [] cpos) (tBMF r to t) := by
  refine ⟨fun pins s σ H Q I h => wpAny_Call_method_late hbase hfew hline rfl (thn (ho.run pins s σ H _ I h) fun v s1 ⟨x, H1, I1, r1, ty, q1⟩ => ?_)⟩
  obtain ⟨a, ob, xs, rfl, hb, hc, hd⟩ := ty
  have hob := (I1.hok a _ hb).1
  refine ⟨"tuple", id, pa, slot, hty, ?_, ?_, ?_⟩
  · cases r1
    exact ⟨ob, hob, hc⟩
  · intro b e
    cases r1
    cases e
    exact ⟨ob, hob, hd⟩
  · have hA := ha.run cpos pins s1 σ H1 _ I1 q1
    rw [hs] at hA ⊢
    exact Calls.callWith_builtin (by show (false || (backTo cpos (starEach es X.env)).any (·.1)) = false; rw [hplain] <;> rfl) (Calls.evalArgs_plain (thn hA fun us s2 ⟨vs, H2, I2, r2, q2⟩ => hm pins s2 σ H2 (.ref a) vs v us Q I2 r1 r2 q2))
end
/-! ### tuples cut and joined -/
def TupV (H : Hp) (v : V) (xs : List V) : Prop := ∃ a, v = .ref a ∧ H a = some (.tup xs)
theorem sl_mk {K : PySem.W.Frag} {H : Hp} {a : Addr} {xs : List V} {lo hi : Option Int} {Q : VK} (ha : H a = some (.tup xs)) (h : ∀ v H', Same H H' → TupV H' v (cutV xs lo hi) → Q v H') : rSlA K (.ref a) lo hi H Q := by
  refine ⟨a, xs, rfl, SqT.of ha, fun e => h _ _ (Same.refl _) ⟨a, rfl, ?_⟩, fun _ p hp => h _ _ (same_new hp) ⟨p, rfl, upd_same⟩⟩
  unfold cutV
  rw [e.1, e.2, List.drop_zero, Nat.sub_zero, List.take_length]
  exact ha
theorem cat_mk {K : PySem.W.Frag} {H : Hp} {x y : V} {xs ys : List V} {Q : VK} (hx : TupV H x xs) (hy : TupV H y ys) (hz : xs.length + ys.length ≤ sizeLine) (h : ∀ v H', Same H H' → TupV H' v (xs ++ ys) → Q v H') : rCatA K x y H Q := by
  obtain ⟨a, rfl, ha⟩ := hx
  obtain ⟨b, rfl, hb⟩ := hy
  refine ⟨a, b, xs, ys, rfl, rfl, SqT.of ha, SqT.of hb, hz, fun e => h _ _ (Same.refl _) ⟨b, rfl, by rw [e]; exact hb⟩, fun _ e => h _ _ (Same.refl _) ⟨a, rfl, by rw [e, List.append_nil]; exact ha⟩, fun _ _ p hp => h _ _ (same_new hp) ⟨p, rfl, upd_same⟩⟩
theorem cut_to (xs : List V) (k : Nat) : cutV xs none (some (k : Int)) = xs.take k := by
  unfold cutV
  rw [HT.sIx_none, HT.sIx_nat, List.drop_zero, Nat.sub_zero]
  by_cases h : k ≤ xs.length
  · rw [Nat.min_eq_left h]
  · rw [Nat.min_eq_right (by omega), List.take_length, List.take_of_length_le (by omega)]
theorem cut_from (xs : List V) (k : Nat) : cutV xs (some (k : Int)) none = xs.drop k := by
  unfold cutV
  rw [HT.sIx_none, HT.sIx_nat]
  by_cases h : k ≤ xs.length
  · rw [Nat.min_eq_left h, List.take_of_length_le (by rw [List.length_drop]; omega)]
  · rw [Nat.min_eq_right (by omega), List.drop_length, List.take_nil, List.drop_of_length_le (by omega)]
theorem cut_mid (xs : List V) (j k : Nat) (h : j ≤ k) (hk : k ≤ xs.length) : cutV xs (some (j : Int)) (some (k : Int)) = (xs.drop j).take (k - j) := by
  unfold cutV
  rw [HT.sIx_nat, HT.sIx_nat, Nat.min_eq_left (show j ≤ xs.length by omega), Nat.min_eq_left hk]
theorem set_cut {α : Type} (xs : List α) (j : Nat) (x : α) (h : j < xs.length) : xs.take j ++ [x] ++ xs.drop (j + 1) = xs.set j x := by
  rw [List.set_eq_take_append_cons_drop, if_pos h, List.append_assoc]
  rfl
end K11

set_option Elab.async false
set_option linter.all false
set_option maxRecDepth 100000
set_option maxHeartbeats 4000000
namespace K11
open PySem PySem.Spec PyProof.Rows L2
abbrev safter_deed : Stmt := top 10
abbrev N_after_deed : List Str := ["works", "heaps", "crew", "index", "takes", "puts", "hand", "left", "name", "many", "there", "taken", "put"]
theorem sc_after_deed : FnScope N_after_deed ["works", "heaps", "crew", "index"] (defScope safter_deed) := ⟨rfl, rfl, rfl, by decide +kernel, rfl, by decide +kernel, by decide +kernel⟩
theorem st_after_deed (x0 x1 x2 x3 : V) : L2.start N_after_deed [x0, x1, x2, x3] = [some x0, some x1, some x2, some x3, none, none, none, none, none, none, none, none, none] := rfl
theorem sz2 : 2 ≤ sizeLine := by decide
theorem sz1 : 1 ≤ sizeLine := by decide
theorem sz3 : 3 ≤ sizeLine := by decide
theorem sz4 : 4 ≤ sizeLine := by decide
theorem elt_yes {te : TE} {σ : L2.St} {H' : Hp} {P : V → Hp → Prop} (h : ∀ Q : VK, (∀ y H4, Same H' H4 → P y H4 → Q y H4) → te σ H' Q) : Elt tYes te σ H' true P := fun Kc N hK hN => by
  show (if true = true then te σ H' Kc else N H')
  rw [if_pos rfl]
  exact h Kc (hK rfl)
def leftV (hs : List Str) (h : Option Str) (c : List Int) : List Int := List.zipWith (fun n m => m - if handV h = V.str n then 1 else 0) hs c
theorem left_non {hs : List Str} {c : List Int} (e : c.length = hs.length) : leftV hs none c = c := by
  apply List.ext_getElem?
  intro k
  unfold leftV
  rw [List.getElem?_zipWith]
  by_cases hk : k < c.length
  · rw [List.getElem?_eq_getElem hk, List.getElem?_eq_getElem (by omega : k < hs.length)]
    simp [handV]
  · rw [List.getElem?_eq_none (by omega : c.length ≤ k), List.getElem?_eq_none (by omega : hs.length ≤ k)]
theorem left_str {hs : List Str} {c : List Int} {z : Str} (e : c.length = hs.length) (n : hs.Nodup) (hz : z ∈ hs) : leftV hs (some z) c = c.set (hs.idxOf z) (c.getD (hs.idxOf z) 0 - 1) := by
  apply List.ext_getElem?
  intro k
  unfold leftV
  have hj := List.idxOf_lt_length_of_mem hz
  rw [List.getElem?_zipWith, List.getElem?_set]
  by_cases hk : k < c.length
  · rw [List.getElem?_eq_getElem hk, List.getElem?_eq_getElem (by omega : k < hs.length)]
    by_cases hkj : hs.idxOf z = k
    · rw [if_pos hkj, if_pos (by omega)]
      subst hkj
      simp [handV, List.getElem_idxOf, List.getD_eq_getElem?_getD, List.getElem?_eq_getElem hk]
    · rw [if_neg hkj]
      have : ¬ z = hs[k]'(by omega) := fun q => hkj (by
        rw [q]
        exact List.Nodup.idxOf_getElem n k (by omega))
      simp [handV, this]
  · rw [List.getElem?_eq_none (by omega : c.length ≤ k), List.getElem?_eq_none (by omega : hs.length ≤ k), if_neg (by omega)]
theorem left_of {hs : List Str} {r : Rc} {c : List Int} (e : c.length = hs.length) (n : hs.Nodup) (hz : ∀ s, r.h = some s → s ∈ hs) (hc : ∀ x ∈ c, (0 : Int) ≤ x) :
    (leftC hs r c = none ∧ (leftV hs r.h c).any (fun x => decide (x < 0)) = true) ∨ (leftC hs r c = some (leftV hs r.h c) ∧ (leftV hs r.h c).any (fun x => decide (x < 0)) = false) := by
  cases eh : r.h with
  | none =>
    refine .inr ⟨?_, ?_⟩
    · unfold leftC
      rw [eh, left_non e]
    · rw [left_non e, List.any_eq_false]
      intro x hx
      have := hc x hx
      simp
      omega
  | some z =>
    have hz' := hz z eh
    have hj := List.idxOf_lt_length_of_mem hz'
    rw [left_str e n hz']
    by_cases h0 : c.getD (hs.idxOf z) 0 = 0
    · refine .inl ⟨?_, ?_⟩
      · unfold leftC
        rw [eh]
        simp only
        rw [if_pos h0]
      · refine List.any_eq_true.mpr ⟨c.getD (hs.idxOf z) 0 - 1, List.mem_iff_getElem?.mpr ⟨hs.idxOf z, ?_⟩, by rw [h0]; decide⟩
        rw [List.getElem?_set, if_pos rfl, if_pos (by omega)]
    · have eC : leftC hs r c = some (c.set (hs.idxOf z) (c.getD (hs.idxOf z) 0 - 1)) := by
        unfold leftC
        rw [eh]
        simp only
        rw [if_neg h0]
      refine .inr ⟨eC, ?_⟩
      rw [List.any_eq_false]
      intro x hx
      have := (leftC_ok eC hc).2 x hx
      simp
      omega
theorem deedR_mk {W : Wk} {s : Sta} {r : Rc} {c : List Int} (h : leL r.t s.1 = true) (e : leftC W.hands r s.2 = some c) : deedR W s r = some (addL (subL s.1 r.t) r.p, c) := by
  unfold deedR
  rw [h, e]
  rfl
theorem deedR_no {W : Wk} {s : Sta} {r : Rc} (h : leL r.t s.1 = false) : deedR W s r = none := by
  unfold deedR
  rw [h]
  rfl
theorem deedR_no2 {W : Wk} {s : Sta} {r : Rc} (h : leL r.t s.1 = true) (e : leftC W.hands r s.2 = none) : deedR W s r = none := by
  unfold deedR
  rw [h, e]
  rfl
def OStAt (H : Hp) (v : V) : Option Sta → Prop
  | none => v = .non
  | some s => StAt H v s
def spDeed : Sp := fun vs H Q _ => ∃ w x y W, ∃ s : Sta, ∃ i : Int, vs = [w, x, y, .int i] ∧ WkAt H w W ∧ TupI H x s.1 ∧ TupI H y s.2 ∧ WkOk W ∧ StOk W s ∧ 0 ≤ i ∧ i < W.recs.length ∧ Ret H Q fun v H' => OStAt H' v (deed W s i)
/-- tuples of values of any kind: [value of each pair] over zip of two tuples -/
theorem lcZV {α β γ : Type} {K : PySem.W.Frag} {te : TE} {vs : List Nat} {σ : L2.St} {H1 : Hp} {Q : VK} {p q : Addr} {a : List α} {b : List β} {ga : α → V} {gb : β → V} {i j : Nat} (f : α → β → γ) (g : γ → V) (h1 : SqT K H1 p (a.map ga)) (h2 : SqT K H1 q (b.map gb)) (hn : a.length ≤ 1000)
    (hwi : i ∈ vs) (hwj : j ∈ vs)
    (he : ∀ (m : α) (n : β) H' (Q : VK), Same H1 H' → Q (g (f m n)) H' → te (((wipe σ vs).set i (some (ga m))).set j (some (gb n))) H' Q)
    (hd : ∀ D H', H1 D = none → Same H1 H' → H' D = some (.lst ((List.zipWith f a b).map g)) → Q (.ref D) H') :
    LcTail (Jz K false false p q) (gTup K 2 (gCons (gName i) (gCons (gName j) gNil))) tYes te vs σ H1 Q := by
  refine lcZ (k1 := false) (k2 := false) h1 h2 rfl (fun _ => true) (fun k y _ => ∀ m n, a[k]? = some m → b[k]? = some n → y = g (f m n)) (fun _ _ _ _ _ h => h) (by simp; omega) hwi hwj (fun k x y H' hk hx hy sm => ?_) (fun D H' ys hD sm eD pr => ?_)
  · obtain ⟨m, hm, rfl⟩ := at_map hx
    obtain ⟨n, hn, rfl⟩ := at_map hy
    intro Kc N hK hN
    show (if true = true then te _ H' Kc else N H')
    rw [if_pos rfl]
    refine he m n H' Kc sm (hK rfl _ _ (Same.refl _) fun m' n' e1 e2 => ?_)
    rw [hm] at e1; rw [hn] at e2
    cases e1; cases e2
    rfl
  · refine hd D H' hD sm ?_
    rw [eD]
    congr 2
    rw [filter_true] at pr
    apply List.ext_getElem?
    intro k
    by_cases hk : k < min a.length b.length
    · have hr : (List.range (min (a.map ga).length (b.map gb).length))[k]? = some k := by
        rw [List.getElem?_range (by simpa using hk)]
      obtain ⟨y, hy, py⟩ := paired_getL pr hr
      have ha : a[k]? = some a[k] := List.getElem?_eq_getElem (by omega)
      have hb : b[k]? = some b[k] := List.getElem?_eq_getElem (by omega)
      rw [hy, py _ _ ha hb, List.getElem?_map, List.getElem?_zipWith, ha, hb]
      rfl
    · have l := paired_len pr
      rw [List.length_range] at l
      rw [List.getElem?_eq_none (by rw [← l]; simpa using Nat.not_lt.mp hk), List.getElem?_eq_none (by simp; omega)]
/-- [value of each item] over a tuple -/
theorem lcTV {α β : Type} {K : PySem.W.Frag} {te : TE} {vs : List Nat} {σ : L2.St} {H1 : Hp} {Q : VK} {p : Addr} {a : List α} {ga : α → V} {i : Nat} (f : α → β) (g : β → V) (h1 : SqT K H1 p (a.map ga)) (hn : a.length ≤ 1000)
    (hwi : i ∈ vs)
    (he : ∀ (m : α) H' (Q : VK), m ∈ a → Same H1 H' → Q (g (f m)) H' → te ((wipe σ vs).set i (some (ga m))) H' Q)
    (hd : ∀ D H', H1 D = none → Same H1 H' → H' D = some (.lst ((a.map f).map g)) → Q (.ref D) H') :
    LcTail (Itt K p) (gName i) tYes te vs σ H1 Q := by
  refine lcT h1 (fun _ => true) (fun k y _ => ∀ m, a[k]? = some m → y = g (f m)) (fun _ _ _ _ _ h => h) (by simp; omega) hwi (fun k x H' hx sm => ?_) (fun D H' ys hD sm eD pr => ?_)
  · obtain ⟨m, hm, rfl⟩ := at_map hx
    intro Kc N hK hN
    show (if true = true then te _ H' Kc else N H')
    rw [if_pos rfl]
    refine he m H' Kc (List.mem_of_getElem? hm) sm (hK rfl _ _ (Same.refl _) fun m' e1 => ?_)
    rw [hm] at e1
    cases e1
    rfl
  · refine hd D H' hD sm ?_
    rw [eD]
    congr 2
    rw [filter_true] at pr
    apply List.ext_getElem?
    intro k
    by_cases hk : k < a.length
    · have hr : (List.range (a.map ga).length)[k]? = some k := by
        rw [List.getElem?_range (by simpa using hk)]
      obtain ⟨y, hy, py⟩ := paired_getL pr hr
      have ha : a[k]? = some a[k] := List.getElem?_eq_getElem hk
      rw [hy, py _ ha, List.getElem?_map, List.getElem?_map, ha]
      rfl
    · have l := paired_len pr
      rw [List.length_range, List.length_map] at l
      rw [List.getElem?_eq_none (by omega), List.getElem?_eq_none (by simp; omega)]
theorem leL_geL (a b : List Int) : (List.zipWith (fun x y => decide (y ≤ x)) a b).all id = leL b a := by
  unfold leL
  rw [List.zipWith_comm]
section
variable {P : Program} {w : World} {K : PySem.W.Frag} {mg : Str → Option Value} {base : Heap} {f : Addr} {fd : FuncData}
theorem ok_after_deed (F : FnP K "after_deed" safter_deed f fd) (B : Bt mg) : FnOk P w K mg base CX0 1 f fd ["works", "heaps", "crew", "index"] spDeed := by
  refine F.ok sc_after_deed (fun vs H Q E h => ?_) (fun cdv A outer s H vs Q E hr h => ?_)
  · obtain ⟨w, x, y, W, s, i, rfl, _⟩ := h
    rfl
  · obtain ⟨_, _, _, W, st, i, rfl, ⟨aw, xk, xh, _, rfl, hw, hk, ⟨ph, oh, rfl, hh0, hcl, hdn⟩, ⟨pr, rs, rfl, hr', pp⟩⟩, ⟨p, rfl, hp⟩, ⟨q, rfl, hq⟩, wk, so, h0, h1, k⟩ := h
    refine ⟨_, PSs.nox (pss_cons (ps_asg (pe_ix ix_tup (pe_ix ix_tup (pv 0) pe_int (fun _ _ => rfl)) (pv 3) (fun _ _ => rfl)) (pg_tup rfl (pgs_cons (pg_name (i := 4) sc_after_deed.nd rfl (Or.inl rfl)) (pgs_cons (pg_name (i := 5) sc_after_deed.nd rfl (Or.inl rfl)) (pgs_cons (pg_name (i := 6) sc_after_deed.nd rfl (Or.inr rfl)) pgs_nil)))))
      (pss_cons (ps_if (pt_not (pt_val (pe_callB (cr_all rfl) (by rfl) B.all_ (by decide +kernel) (pa_cons (pe_lcx (own := [("there", 10), ("taken", 11)]) (g := (gTup K 2 (gCons (gName 10) (gCons (gName 11) gNil)))) rfl sc_after_deed.nd (pi_z2 (by rfl) B.zip (pa_cons (pv 1) (pa_cons (pv 4) pa_nil))) (blkOk_by (own := [("there", 10), ("taken", 11)]) (N := N_after_deed) (sc := (defScope safter_deed)) (by decide +kernel)) (fun _ _ _ _ _ => (pg_tup rfl (pgs_cons (pg_name (i := 10) sc_after_deed.nd rfl (Or.inl rfl)) (pgs_cons (pg_name (i := 11) sc_after_deed.nd rfl (Or.inl rfl)) pgs_nil)))) (fun _ _ _ _ _ => pts_nil) (fun _ _ _ _ _ => (pe_cmpR op_ge (pv 10) (pv 11) (nomark _)))) pa_nil)))) (pss_one (ps_ret pe_non)) pss_nil)
      (pss_cons (ps_set (i := 7) sc_after_deed.nd rfl (Or.inl rfl) (pe_callTy call_tuple_of (by rfl) B.tuple (by decide +kernel) (pa_cons (pe_lcx (own := [("name", 8), ("many", 9)]) (g := (gTup K 2 (gCons (gName 8) (gCons (gName 9) gNil)))) rfl sc_after_deed.nd (pi_z2 (by rfl) B.zip (pa_cons (pe_ix ix_tup (pv 0) pe_int (fun _ _ => rfl)) (pa_cons (pv 2) pa_nil))) (blkOk_by (own := [("name", 8), ("many", 9)]) (N := N_after_deed) (sc := (defScope safter_deed)) (by decide +kernel)) (fun _ _ _ _ _ => (pg_tup rfl (pgs_cons (pg_name (i := 8) sc_after_deed.nd rfl (Or.inl rfl)) (pgs_cons (pg_name (i := 9) sc_after_deed.nd rfl (Or.inl rfl)) pgs_nil)))) (fun _ _ _ _ _ => pts_nil) (fun _ _ _ _ _ => (pe_op op_sub (pv 9) (pe_callTy call_int1 (by rfl) B.int_ (by decide +kernel) (pa_cons (pe_cmpR op_eq (pv 8) (pv 6) (nomark _)) pa_nil))))) pa_nil)))
      (pss_cons (ps_if (pt_val (pe_callB (cr_any rfl) (by rfl) B.any_ (by decide +kernel) (pa_cons (pe_lcx (own := [("many", 9)]) (g := (gName 9)) rfl sc_after_deed.nd (pi_tup (pv 7)) (blkOk_by (own := [("many", 9)]) (N := N_after_deed) (sc := (defScope safter_deed)) (by decide +kernel)) (fun _ _ _ _ _ => (pg_name (i := 9) sc_after_deed.nd rfl (Or.inl rfl))) (fun _ _ _ _ _ => pts_nil) (fun _ _ _ _ _ => (pe_cmpR op_lt (pv 9) pe_int (nomark _)))) pa_nil))) (pss_one (ps_ret pe_non)) pss_nil)
      (pss_one (ps_ret (pe_tup (pa_cons (pe_callTy call_tuple_of (by rfl) B.tuple (by decide +kernel) (pa_cons (pe_lcx (own := [("there", 10), ("taken", 11), ("put", 12)]) (g := (gTup K 3 (gCons (gName 10) (gCons (gName 11) (gCons (gName 12) gNil))))) rfl sc_after_deed.nd (pi_z3 (by rfl) B.zip (pa_cons (pv 1) (pa_cons (pv 4) (pa_cons (pv 5) pa_nil)))) (blkOk_by (own := [("there", 10), ("taken", 11), ("put", 12)]) (N := N_after_deed) (sc := (defScope safter_deed)) (by decide +kernel)) (fun _ _ _ _ _ => (pg_tup rfl (pgs_cons (pg_name (i := 10) sc_after_deed.nd rfl (Or.inl rfl)) (pgs_cons (pg_name (i := 11) sc_after_deed.nd rfl (Or.inl rfl)) (pgs_cons (pg_name (i := 12) sc_after_deed.nd rfl (Or.inl rfl)) pgs_nil))))) (fun _ _ _ _ _ => pts_nil) (fun _ _ _ _ _ => (pe_op op_add (pe_op op_sub (pv 10) (pv 11)) (pv 12)))) pa_nil)) (pa_cons (pv 7) pa_nil))))))))), ?_⟩
    rw [st_after_deed]
    have hh : SqT K H ph (W.hands.map V.str) := .inl (.inr ⟨oh, hh0⟩)
    have hi : i.toNat < W.recs.length := by omega
    have hrec : W.recs[i.toNat]? = some W.recs[i.toNat] := List.getElem?_eq_getElem hi
    generalize W.recs[i.toNat] = r at hrec
    obtain ⟨vr, hvr, ar, xt, xp, rfl, hrr, ⟨pt, rfl, ht⟩, ⟨pu, rfl, hu⟩⟩ := paired_get pp hrec
    obtain ⟨lt, lp, bt, bp, hhs⟩ := wk.2.2.2.2.2 r (List.mem_of_getElem? hrec)
    obtain ⟨l1, l2, cn⟩ := so
    refine ⟨_, rfl, aw, _, 2, _, rfl, rfl, SqT.of hw, rfl, _, rfl, pr, _, i, _, rfl, rfl, SqT.of hr', atI_get h0 hvr, ?_⟩
    refine ⟨ar, _, rfl, SqT.of hrr, rfl, _, _, rfl, _, _, rfl, _, _, rfl, rfl, ?_⟩
    refine ⟨_, rfl, _, rfl, false, false, p, pt, _, _, rfl, src_of_tup hp, src_of_tup ht, ?_⟩
    refine lcZV (fun i j : Int => decide (j ≤ i)) V.bl (.of hp) (.of ht) (by have := wk.2.1; omega) (by decide) (by decide) (fun m n H' Q _ hQ => ⟨_, rfl, _, rfl, m, n, rfl, rfl, hQ⟩) (fun D H1 hD sm eD => ?_)
    refine ⟨D, _, rfl, SqL.of eD, _, rfl, ?_⟩
    rw [leL_geL]
    have ed := deed_at (W := W) (s := st) h0 hrec
    cases hl : leL r.t st.1 with
    | false =>
      refine k _ _ sm ?_
      rw [ed, deedR_no hl]
      rfl
    | true =>
      refine ⟨_, rfl, aw, _, 1, _, rfl, rfl, SqT.of (sm _ _ hw), rfl, _, rfl, false, false, ph, q, _, _, rfl, src_same (k := false) sm hh, src_of_tup (sm _ _ hq), ?_⟩
      refine lcZV (fun (n : Str) (m : Int) => m - if handV r.h = V.str n then 1 else 0) V.int (src_same (k := false) sm hh) (.of (sm _ _ hq)) (by have := wk.2.2.1; omega) (by decide) (by decide) (fun m n H' Q _ hQ => ?_) (fun D2 H2 hD2 sm2 eD2 => ?_)
      · refine ⟨_, rfl, _, rfl, _, rfl, ?_, ?_⟩
        · cases r.h <;> rfl
        · refine .inr ⟨_, rfl, n, _, rfl, rfl, ?_⟩
          have : (decide (V.str m = handV r.h) = true) ↔ handV r.h = V.str m := by
            rw [decide_eq_true_iff]
            exact eq_comm
          simp only [this]
          exact hQ
      · refine ⟨D2, _, rfl, .inl ⟨SqL.of eD2, fun l hl' => ?_⟩⟩
        have eL := tupI_new (H := H2) (p := l) (ns := leftV W.hands r.h st.2) rfl
        have s3 := (sm.trans sm2).trans (same_new (o := .tup ((leftV W.hands r.h st.2).map V.int)) hl')
        refine ⟨_, rfl, l, rfl, ⟨_, SqT.of upd_same⟩, ?_⟩
        refine lcTV (fun x : Int => decide (x < 0)) V.bl (a := leftV W.hands r.h st.2) (.of upd_same) ?_ (by decide) (fun m H' Q _ _ hQ => ⟨_, rfl, m, 0, rfl, rfl, hQ⟩) (fun D3 H3 hD3 sm3 eD3 => ?_)
        · have := wk.2.2.1
          unfold leftV
          rw [List.length_zipWith]
          omega
        · refine ⟨D3, _, rfl, SqL.of eD3, _, rfl, ?_⟩
          rw [List.any_map, show (id ∘ fun x : Int => decide (x < 0)) = fun x => decide (x < 0) from rfl]
          have s4 := s3.trans sm3
          rcases left_of (r := r) l2 wk.2.2.2.1 (fun s hs => (hhs s hs).1) cn with ⟨e1, e2⟩ | ⟨e1, e2⟩
          · rw [e2]
            refine k _ _ s4 ?_
            rw [ed, deedR_no2 hl e1]
            rfl
          · rw [e2]
            refine ⟨_, rfl, _, rfl, _, rfl, false, false, false, p, pt, pu, _, _, _, rfl, src_of_tup (s4 _ _ hp), src_of_tup (s4 _ _ ht), src_of_tup (s4 _ _ hu), ?_⟩
            refine lcZ3 (src_of_tup (s4 _ _ hp)) (src_of_tup (s4 _ _ ht)) (src_of_tup (s4 _ _ hu)) rfl (fun _ => true) (fun k y _ => ∀ a b c, st.1[k]? = some a → r.t[k]? = some b → r.p[k]? = some c → y = .int (a - b + c)) (fun _ _ _ _ _ h => h) (by have := wk.2.1; simp; omega) (by decide) (by decide) (by decide) (fun k x y z H' hk hx hy hz sm => ?_) (fun D4 H4 ys hD4 sm4 eD4 pr4 => ?_)
            · obtain ⟨a, ha, rfl⟩ := at_map hx
              obtain ⟨b, hb, rfl⟩ := at_map hy
              obtain ⟨c, hc, rfl⟩ := at_map hz
              refine elt_yes fun Q hQ => ?_
              refine ⟨_, rfl, _, rfl, a, b, rfl, rfl, _, rfl, _, c, rfl, rfl, hQ _ _ (Same.refl _) fun a' b' c' e1 e2 e3 => ?_⟩
              rw [ha] at e1; rw [hb] at e2; rw [hc] at e3
              cases e1; cases e2; cases e3
              rfl
            · refine ⟨D4, _, rfl, .inl ⟨SqL.of eD4, fun l4 hl4 => ⟨_, rfl, sz2, fun b hb => ?_⟩⟩⟩
              have s5 : Same H4 (upd (upd H4 l4 (.tup ys)) b (.tup [.ref l4, .ref l])) := (same_new hl4).trans (same_new hb)
              refine k _ _ ((s4.trans sm4).trans s5) ?_
              have eys : ys = (addL (subL st.1 r.t) r.p).map V.int := by
                rw [filter_true] at pr4
                have l4' := paired_len pr4
                simp only [List.length_range, List.length_map] at l4'
                apply List.ext_getElem?
                intro k
                by_cases hk : k < W.kinds.length
                · have e1 : st.1[k]? = some st.1[k] := List.getElem?_eq_getElem (by omega)
                  have e2 : r.t[k]? = some r.t[k] := List.getElem?_eq_getElem (by omega)
                  have e3 : r.p[k]? = some r.p[k] := List.getElem?_eq_getElem (by omega)
                  obtain ⟨y, hy, py⟩ := paired_getL pr4 (i := k) (x := k) (by rw [List.getElem?_range (by simp; omega)])
                  rw [hy, py _ _ _ e1 e2 e3]
                  unfold addL subL
                  rw [List.getElem?_map, List.getElem?_zipWith, List.getElem?_zipWith, e1, e2, e3]
                  rfl
                · rw [List.getElem?_eq_none (by omega), List.getElem?_eq_none (by simp [addL, subL]; omega)]
              rw [ed, deedR_mk hl e1]
              have q1 : TupI (upd (upd H4 l4 (.tup ys)) b (.tup [.ref l4, .ref l])) (.ref l4) (addL (subL st.1 r.t) r.p) := ⟨l4, rfl, by rw [same_new hb _ _ (upd_same (a := l4)), eys]⟩
              have q2 : TupI (upd (upd H4 l4 (.tup ys)) b (.tup [.ref l4, .ref l])) (.ref l) (leftV W.hands r.h st.2) := ⟨l, rfl, s5 _ _ (sm4 _ _ (sm3 _ _ upd_same))⟩
              exact ⟨b, _, _, rfl, upd_same, q1, q2⟩
end
end K11

set_option Elab.async false
set_option linter.all false
set_option maxRecDepth 100000
set_option maxHeartbeats 4000000
namespace K11
open PySem PySem.Spec PyProof.Rows L2
/-! ### (x,) * k, any k -/
theorem tuple_mul0 (l : Addr) (items : Array Value) (n : Nat) (dd : Option Addr) (sl : Array (Option Value)) (x : Int) (u : Tok) (c0 : (decide (x < -(2 ^ 63)) || decide (x ≥ 2 ^ 63)) = false) (c1 : (items.isEmpty || x == 1) = false) (c2 : (decide (x ≤ 0) || items.isEmpty) = true) :
    Meets (Builtin.«tuple.__mul__» ⟨[.ref l, .int x u], []⟩) (fun _ R s => s.heap.get? l = some { cls := .type "tuple", dict := dd, data := .seq items n, slots := sl } ∧
      R (.ok (.ret (Value.ref s.heap.objs.size))) { s with heap := s.heap.push { cls := Value.type "tuple", data := Data.seq #[] }, toks := s.toks }) :=
  .of_wp fun prog w A R s h => by
    obtain ⟨hp, g, d, tk, os⟩ := s
    obtain ⟨hl, h⟩ := h
    have f1 := AutoSeq1.idx_int
    wp_walk using wpAny_loadPart' hl
    repeat (first
      | (refine wpAny_ite_false (decide_eq_false (by rw [c0]; exact Bool.false_ne_true)) ?_; wp_walk using wpAny_loadPart' hl)
      | (refine wpAny_ite_false (decide_eq_false (by rw [c1]; exact Bool.false_ne_true)) ?_; wp_walk using wpAny_loadPart' hl)
      | (refine wpAny_ite_true (decide_eq_true c2) ?_; wp_walk using wpAny_loadPart' hl))
    exact ⟨_, rfl, h⟩
theorem tuple_mul1 (l : Addr) (items : Array Value) (n : Nat) (dd : Option Addr) (sl : Array (Option Value)) (x : Int) (u : Tok) (c0 : (decide (x < -(2 ^ 63)) || decide (x ≥ 2 ^ 63)) = false) (c1 : (items.isEmpty || x == 1) = true) :
    Meets (Builtin.«tuple.__mul__» ⟨[.ref l, .int x u], []⟩) (fun _ R s => s.heap.get? l = some { cls := .type "tuple", dict := dd, data := .seq items n, slots := sl } ∧
      R (.ok (.ret (Value.ref l))) s) :=
  .of_wp fun prog w A R s h => by
    obtain ⟨hp, g, d, tk, os⟩ := s
    obtain ⟨hl, h⟩ := h
    have f1 := AutoSeq1.idx_int
    wp_walk using wpAny_loadPart' hl
    repeat (first
      | (refine wpAny_ite_false (decide_eq_false (by rw [c0]; exact Bool.false_ne_true)) ?_; wp_walk using wpAny_loadPart' hl)
      | (refine wpAny_ite_true (decide_eq_true c1) ?_; wp_walk using wpAny_loadPart' hl))
    exact ⟨_, rfl, h⟩
/-- a tuple of one item, repeated -/
def rRepA (K : PySem.W.Frag) : R2 := fun x y H Q => ∃ (l : Addr) (k : Nat) (v : V), x = .ref l ∧ y = .int k ∧ H l = some (.tup [v]) ∧ k ≤ 1000 ∧ ∀ v' H', Same H H' → TupV H' v' (List.replicate k v) → Q v' H'
section
variable {X : Cx}
theorem op_repA : OpR X (binaryOp .Mult) (rRepA X.K) := by
  intro pins s σ H x y v u Q I rx ry h
  obtain ⟨l, k, z, rfl, rfl, hT, h2, q⟩ := h
  by_cases hk : 2 ≤ k
  · refine op_repT pins s σ H _ _ v u Q I rx ry ⟨l, k, [z], rfl, rfl, SqT.of hT, by simp, by omega, by omega, by simp, fun p hp => q _ _ (same_new hp) ⟨p, rfl, ?_⟩⟩
    rw [upd_same, Int.toNat_natCast]
    congr 2
    induction k with
    | zero => rfl
    | succ n ih => simp
  · cases rx
    obtain ⟨t, rfl⟩ := ry
    obtain ⟨its, r, ⟨⟨cls, dd, data, sl⟩, ho, hc, n, hd⟩, hs⟩ := I.tuple (SqT.of hT)
    simp only at hc hd
    subst hc hd
    have hle : its.length = 1 := r.length.symm
    have c0 : (decide ((k : Int) < -(2 ^ 63)) || decide ((k : Int) ≥ 2 ^ 63)) = false := by
      rw [decide_eq_false (by omega), decide_eq_false (by omega)] <;> rfl
    have hi : its.toArray.isEmpty = false := by
      cases its with
      | nil => cases hle
      | cons a b => rfl
    by_cases h1 : k = 1
    · subst h1
      refine wpAny_binaryOp_repeat_ref (T := "tuple") (U := "int") (by decide) ⟨_, ho, rfl⟩ (fun s' => typeIs_int s' _ t) noFill_tuple_mul F.fills_int_mul F.slot_int_rmul repeat_tuple F.slot_int_index.lookup
        (call_meets F.slot_int_rmul (typeIs_int s _ t) F.entry_int_rmul (F.args_int_rmul_2 _ _) (int_rmul_tuple _ t l its.toArray n dd sl)
          ⟨ho, rfl, ⟨_, ho, rfl⟩, call_meets F.slot_tuple_mul ⟨_, ho, rfl⟩ F.entry_tuple_mul (F.args_tuple_mul_2 _ _) (tuple_mul1 l its.toArray n dd sl _ t c0 (by simp)) ⟨ho, ?_⟩⟩)
      exact ⟨.ref l, H, I, rfl, q _ _ (Same.refl _) ⟨l, rfl, hT⟩⟩
    · have h0 : k = 0 := by omega
      subst h0
      refine wpAny_binaryOp_repeat_ref (T := "tuple") (U := "int") (by decide) ⟨_, ho, rfl⟩ (fun s' => typeIs_int s' _ t) noFill_tuple_mul F.fills_int_mul F.slot_int_rmul repeat_tuple F.slot_int_index.lookup
        (call_meets F.slot_int_rmul (typeIs_int s _ t) F.entry_int_rmul (F.args_int_rmul_2 _ _) (int_rmul_tuple _ t l its.toArray n dd sl)
          ⟨ho, rfl, ⟨_, ho, rfl⟩, call_meets F.slot_tuple_mul ⟨_, ho, rfl⟩ F.entry_tuple_mul (F.args_tuple_mul_2 _ _) (tuple_mul0 l its.toArray n dd sl _ t c0 (by rw [hi]; rfl) (by simp)) ⟨ho, ?_⟩⟩)
      refine ⟨.ref s.heap.objs.size, _, I.laid (t' := s.toks) (o := .tup []) (fun b ob q => Heap.get?_push_of_some _ q) (Nat.le_refl _) ⟨Nat.zero_le _, [], .nil, IsTup.new _ _⟩, rfl, q _ _ (same_new (I.hok.fresh (Nat.le_refl _))) ⟨_, rfl, upd_same⟩⟩
/-! ### l[i] of a list, to be changed -/
theorem pget_list : PGet X (fun o i H Q => ∃ (l : Addr) (xs : List V) (j : Nat) (v : V), o = .ref l ∧ i = .int (j : Nat) ∧ SqL X.K H l xs ∧ xs[j]? = some v ∧ Q v H) := by
  intro pins s σ H x y v u Q I rx ry h
  obtain ⟨l, xs, j, z, rfl, rfl, hq, he, q⟩ := h
  cases rx
  obtain ⟨t, rfl⟩ := ry
  obtain ⟨its, r, pl, hz⟩ := I.list hq
  obtain ⟨w, ew, rw'⟩ := r.get he
  have hj := (List.getElem?_eq_some_iff.mp he).1
  have hn := line63
  exact wpAny_getItem_list pl.isList (Int.natCast_nonneg j) (by omega) (by rw [Int.toNat_natCast]; simpa using ew) ⟨z, H, I, rw', q⟩
/-! ### min and max of a tuple of ints -/
def rMinT (K : PySem.W.Frag) : List V → Hp → VK → Prop := fun vs H Q => ∃ (a : Addr) (ns : List Int), vs = [V.ref a] ∧ SqT K H a (ns.map V.int) ∧ 0 < ns.length ∧ ∀ m, m ∈ ns → (∀ y, y ∈ ns → m ≤ y) → Q (.int m) H
def rMaxT (K : PySem.W.Frag) : List V → Hp → VK → Prop := fun vs H Q => ∃ (a : Addr) (ns : List Int), vs = [V.ref a] ∧ SqT K H a (ns.map V.int) ∧ 0 < ns.length ∧ ∀ m, m ∈ ns → (∀ y, y ∈ ns → y ≤ m) → Q (.int m) H
theorem itup_begin {prog : Program} {w : World} {A : Around} {E : Value → Shared → Prop} {s : Shared} {l : Addr} {its : Array Value} {Q : Value → Shared → Prop} (ht : IsTup s.heap l its)
    (h : ∀ s₂ : Shared, s₂ = { s with heap := s.heap.push { cls := .type "tuple_iterator", data := .fields #[.ref l, .int 0 0] } } →
      (s₂.heap.IsTupleIter s.heap.objs.size l 0 ∧ s₂.heap.IsTuple l its) → (∀ b ∈ [s.heap.objs.size, l], b < s₂.heap.objs.size) → l ≠ s.heap.objs.size → Q (.ref s.heap.objs.size) s₂) :
    wpAny (model prog w) A (pyIter (.ref l)) Q E s := by
  have hlt : l < s.heap.objs.size := ht.lt
  have hp : IsTup (s.heap.push { cls := .type "tuple_iterator", data := .fields #[.ref l, .int 0 0] }) l its := ht.keeps fun b o e => Heap.get?_push_of_some _ e
  refine iter_tuple ht (h _ rfl ⟨⟨_, Heap.get?_push_size _ rfl, rfl, rfl⟩, hp⟩ (fun b hb => ?_) (Nat.ne_of_lt hlt))
  show b < (s.heap.push _).objs.size
  rw [Heap.size_push]
  rcases List.mem_cons.mp hb with rfl | hb
  · exact Nat.lt_succ_self _
  · rw [List.mem_singleton.mp hb]
    exact Nat.lt_succ_of_lt hlt
theorem old_keptT {s : Shared} {l : Addr} {h' : Heap} (hk : ∀ b o, b ∉ [s.heap.objs.size] → (s.heap.push { cls := .type "tuple_iterator", data := .fields #[.ref l, .int 0 0] }).get? b = some o → h'.get? b = some o) :
    ∀ b o, s.heap.get? b = some o → h'.get? b = some o := fun b o e => hk b o (fun hm => by
  have q := Heap.lt_size e
  rw [List.mem_singleton.mp hm] at q
  exact Nat.lt_irrefl _ q) (Heap.get?_push_of_some _ e)
theorem cr_minT (hc : X.calm = true) : CallR X (.builtin "min") (rMinT X.K) := by
  intro pins s σ H vs us Q I r h
  obtain ⟨a, ns, rfl, hs, hne, q⟩ := h
  obtain ⟨its, rv, hl, _⟩ := I.tuple hs
  rw [Vals.ref1 r]
  obtain ⟨xs, e⟩ := rv.ints.allInts.items
  have hn : numsOf (intItems xs).toList = ns := by rw [← e]; exact rv.ints.numsOf
  rw [nums_intItems] at hn
  rw [e] at hl
  have hsz : 0 < xs.size := by rw [← hn] at hne; simpa using hne
  refine call_min_walk (itup_begin hl fun s₂ e st hfp hlI => ?_)
  subst e
  refine ⟨_, _, _, _, _, _, _, rfl, Walks.tuple (A := X.A.in1) (I.ok.hd hc) _ a hlI (intItems xs), st, hfp, by simpa [intItems] using hsz, CmpOf.ints_lt (numAt xs) (fun _ _ => intItems_at), fun v h' tk hP hk => ?_⟩
  have hP' : (intItems xs)[argBest (fun i j => decide (numAt xs i < numAt xs j)) (xs.size - 1)]? = some v := by simpa [intItems] using hP
  obtain ⟨t, rfl⟩ := intItems_at hP'
  obtain ⟨h1, h2⟩ := argBest_lt (numAt xs) (xs.size - 1)
  refine ⟨.int _, H, I.kept (t' := tk) (old_keptT hk), ⟨t, rfl⟩, q _ ?_ fun y hy => ?_⟩
  · rw [← hn, numAt_eq]
    exact PySem.getD_mem (by rw [List.length_map, Array.length_toList]; omega)
  · rw [← hn] at hy
    obtain ⟨j, hj, rfl⟩ := mem_getD hy
    rw [List.length_map, Array.length_toList] at hj
    rw [← numAt_eq]
    exact h2 j (by omega)
theorem cr_maxT (hc : X.calm = true) : CallR X (.builtin "max") (rMaxT X.K) := by
  intro pins s σ H vs us Q I r h
  obtain ⟨a, ns, rfl, hs, hne, q⟩ := h
  obtain ⟨its, rv, hl, _⟩ := I.tuple hs
  rw [Vals.ref1 r]
  obtain ⟨xs, e⟩ := rv.ints.allInts.items
  have hn : numsOf (intItems xs).toList = ns := by rw [← e]; exact rv.ints.numsOf
  rw [nums_intItems] at hn
  rw [e] at hl
  have hsz : 0 < xs.size := by rw [← hn] at hne; simpa using hne
  refine call_max_walk (itup_begin hl fun s₂ e st hfp hlI => ?_)
  subst e
  refine ⟨_, _, _, _, _, _, _, rfl, Walks.tuple (A := X.A.in1) (I.ok.hd hc) _ a hlI (intItems xs), st, hfp, by simpa [intItems] using hsz, CmpOf.ints_gt (numAt xs) (fun _ _ => intItems_at), fun v h' tk hP hk => ?_⟩
  have hP' : (intItems xs)[argBest (fun i j => decide (numAt xs i > numAt xs j)) (xs.size - 1)]? = some v := by simpa [intItems] using hP
  obtain ⟨t, rfl⟩ := intItems_at hP'
  obtain ⟨h1, h2⟩ := argBest_gt (numAt xs) (xs.size - 1)
  refine ⟨.int _, H, I.kept (t' := tk) (old_keptT hk), ⟨t, rfl⟩, q _ ?_ fun y hy => ?_⟩
  · rw [← hn, numAt_eq]
    exact PySem.getD_mem (by rw [List.length_map, Array.length_toList]; omega)
  · rw [← hn] at hy
    obtain ⟨j, hj, rfl⟩ := mem_getD hy
    rw [List.length_map, Array.length_toList] at hj
    rw [← numAt_eq]
    exact h2 j (by omega)
end
/-! ### enumerate of a tuple -/
theorem meets_enum1 {v : Value} {o : Obj} {H : Heap → Prop} (B : Begins v o H) :
    Meets (Builtin.«enumerate.__new__» ⟨[.type "enumerate", v], []⟩) (fun _ R s => H s.heap ∧
      R (.ok (.ret (.ref (s.heap.push o).objs.size))) { s with heap := (s.heap.push o).push { cls := .type "enumerate", data := .fields #[.none, .bool false, .ref s.heap.objs.size, rawInt 0, .none, .none] } }) :=
  .of_wp fun prog w A R s h => by
    obtain ⟨hp, g, d, tk, os⟩ := s
    obtain ⟨h1, h⟩ := h
    have hsub := sub_enumerate
    have q1 : ∀ {A' : Around} {E : Value → Shared → Prop} {Q : Value → Shared → Prop}, Q (.ref hp.objs.size) ⟨hp.push o, g, d, tk, os⟩ → wpAny (model prog w) A' (pyIter v) Q E ⟨hp, g, d, tk, os⟩ :=
      fun q => B.iter prog w _ _ ⟨hp, g, d, tk, os⟩ _ h1 q
    wp_walk using q1
    refine wpAny_stack_any fun st => wpAny_pure ?_
    split
    · rename_i c _ _ _ _ _
      cases (c == Value.type "enumerate")
      · wp_walk using q1
        exact ⟨_, rfl, h⟩
      · wp_walk using q1
        exact ⟨_, rfl, h⟩
    · wp_walk using q1
      exact ⟨_, rfl, h⟩
theorem enum_begin1 {prog : Program} {w : World} {A : Around} {E : Value → Shared → Prop} {s : Shared} {v : Value} {o : Obj} {H : Heap → Prop} {Q : Value → Shared → Prop} (B : Begins v o H) (h1 : H s.heap)
    (h : ∀ h', IsEnum h' (s.heap.objs.size + 1) s.heap.objs.size 0 .none → h'.get? s.heap.objs.size = some o → h'.objs.size = s.heap.objs.size + 2 →
      (∀ b o, s.heap.get? b = some o → h'.get? b = some o) → Q (.ref (s.heap.objs.size + 1)) { s with heap := h' }) :
    wpAny (model prog w) A (call (.type "enumerate") [v]) Q E s := by
  refine callType_new F.called_enumerate (by decide) (F.typeCall_enumerate_1 _) (F.newCall_enumerate_1 _) (fun obj => F.args_object_init_2 obj _) F.entry_enumerate_new (meets_enum1 B) ⟨h1, ?_⟩
  have hz : (s.heap.push o).objs.size = s.heap.objs.size + 1 := Heap.size_push ..
  show _ ∧ _
  rw [hz]
  have he : IsEnum ((s.heap.push o).push { cls := .type "enumerate", data := .fields #[.none, .bool false, .ref s.heap.objs.size, rawInt 0, .none, .none] }) (s.heap.objs.size + 1) s.heap.objs.size 0 .none := by
    have := Heap.get?_push_size (s.heap.push o) (o := { cls := .type "enumerate", data := .fields #[.none, .bool false, .ref s.heap.objs.size, rawInt 0, .none, .none] }) rfl
    rw [hz] at this
    exact this
  exact ⟨⟨_, he, rfl⟩, h _ he (Heap.get?_push_of_some _ (Heap.get?_push_size _ B.free)) (by rw [Heap.size_push, hz]) fun b o x => Heap.get?_push_of_some _ (Heap.get?_push_of_some _ x)⟩
def Jen (K : PySem.W.Frag) (k1 : Bool) (a : Addr) : It :=
  ⟨fun i H => ∃ (xs : List V) (x : V), SrcAt K H k1 a xs ∧ xs[i]? = some x,
    fun i H v H' => ∃ T x, v = .ref T ∧ H T = none ∧ H' = upd H T (.tup [.int (i : Nat), x]) ∧ ∀ xs, SrcAt K H k1 a xs → xs[i]? = some x,
    fun i H => ∃ xs : List V, SrcAt K H k1 a xs ∧ i = xs.length⟩
theorem turn_en {P : Program} {w : World} {K : PySem.W.Frag} {elts : List Expr} {kk : Nat} {tpos : Pos} {k1 : Bool} {a e it : Addr} (n1 : a ≠ it) (n2 : e ≠ it) (n3 : e ≠ a) :
    Turn P w K (.Tuple elts kk tpos) (Jen K k1 a) [e, it] e (fun i h => (∃ old, IsEnum h e it ((i : Nat) : Int) old) ∧ SrcIt h k1 it a i) where
  mem := by simp
  obj := fun i h st c hc => by
    obtain ⟨⟨old, he⟩, s1⟩ := st
    have e' : c = e ∨ c = it := by simpa using hc
    rcases e' with q | q
    · rw [q]; exact ⟨_, he, fun v q => nomatch q⟩
    · rw [q]; exact srcIt_obj s1
  keep := fun i h h' st k => by
    obtain ⟨⟨old, he⟩, s1⟩ := st
    exact ⟨⟨old, k e (by simp) _ he⟩, srcIt_at s1 fun o q => k it (by simp) o q⟩
  item := by
    intro X hP hw hK hc i pins s σ H E I hf st hg
    subst hP hw hK
    obtain ⟨⟨old, he⟩, h1⟩ := st
    obtain ⟨xs, x, hqx, hx⟩ := hg
    obtain ⟨its, rv, p⟩ := inv_src I hqx
    have hh : X.A.in1.handled = none := I.ok.hd hc
    have W := GoesN.ofWalksT (elts := elts) (k := kk) (pos := tpos) (WalksT.enumFrom (A := X.A) 0 (draws_src (prog := X.prog) (w := X.w) (k := k1) hh it a n1 its.toArray) e n2 (by simp [n2, n3]) (by simp))
    have l1 := rv.length
    have lx := (List.getElem?_eq_some_iff.mp hx).1
    refine W.goes i s _ E (by simp; omega) ⟨⟨old, by rw [Int.zero_add]; exact he⟩, h1, p⟩ fun v h' tk hY st' hk htk => ?_
    obtain ⟨T, vals, rfl, hT, ⟨t, u, hu, rfl⟩, hTup⟩ := hY
    obtain ⟨⟨old', he'⟩, h1', _⟩ := st'
    rw [Int.zero_add] at he' hTup
    have ru := vals_at rv hx hu
    have new : ObjOk X.prog X.w (upd H T (.tup [.int (i : Nat), x])) h' T (.tup [.int (i : Nat), x]) := ⟨by show 2 ≤ sizeLine; decide, [.int (i : Nat) t, u], .cons ⟨t, rfl⟩ (.cons ru .nil), hTup⟩
    have I1 : Inv X pins σ (upd H T (.tup [.int (i : Nat), x])) { s with heap := h', toks := tk } :=
      I.turnedNew (ch := [e, it]) (fun c o hb q => hk c o (fun q' => hb (by simpa using q')) q) hf hT new
    refine ⟨.ref T, _, I1, rfl, ⟨T, x, rfl, I.hok.fresh hT, rfl, fun l hl => by rw [src_inj I hl hqx]; exact hx⟩, ⟨⟨old', he'⟩, h1'⟩, fun c hcm => ?_⟩
    have hlt : c < s.heap.objs.size := by
      have e' : c = e ∨ c = it := by simpa using hcm
      rcases e' with q | q
      · rw [q]; exact Heap.lt_size he
      · rw [q]; exact srcIt_lt h1
    rw [upd_ne (Nat.ne_of_lt (Nat.lt_of_lt_of_le hlt hT))]
    exact (hf c hcm).1
  done := by
    intro X hP hw hK hc i pins s σ H E I hf st hg
    subst hP hw hK
    obtain ⟨⟨old, he⟩, h1⟩ := st
    obtain ⟨xs, hqx, hend⟩ := hg
    obtain ⟨its, rv, p⟩ := inv_src I hqx
    have hh : X.A.in1.handled = none := I.ok.hd hc
    have W := GoesN.ofWalksT (elts := elts) (k := kk) (pos := tpos) (WalksT.enumFrom (A := X.A) 0 (draws_src (prog := X.prog) (w := X.w) (k := k1) hh it a n1 its.toArray) e n2 (by simp [n2, n3]) (by simp))
    have l1 := rv.length
    have en : its.toArray.size = i := by simp; omega
    refine W.stops s _ E (by rw [en]; exact ⟨⟨old, by rw [Int.zero_add]; exact he⟩, h1, p⟩) fun h' tk hk htk => ?_
    exact I.turnedL (t' := tk) (ch := [e, it]) (fun c o hb q => hk c o (fun q' => hb (by simpa using q')) q) hf
  self := fun A i s Q E st h => by
    obtain ⟨⟨old, he⟩, _⟩ := st
    exact wpAny_pyIter_enum he h
def iEn (K : PySem.W.Frag) (ta : TA) : TI := fun σ H R => ta σ H fun vs H1 => ∃ k1 a xs, vs = [.ref a] ∧ SrcAt K H1 k1 a xs ∧ R (Jen K k1 a) H1
theorem pi_en {X : Cx} {e : Expr} {ta : TA} {p pos tpos : Pos} {elts : List Expr} {kk : Nat} (hg : Gl X "enumerate") (hm : X.mg "enumerate" = none) (ha : PA X [e] ta) (hs : starEach [e] X.env = [(false, eval e X.env)] := by rfl) :
    PI X (.Tuple elts kk tpos) (.Call (.Name "enumerate" p) [e] [] pos) (iEn X.K ta) := by
  refine ⟨fun pins s σ H R I h => ?_⟩
  refine Call_ (ld_blt I hg hm boot_enumerate (PyProof.Rows.callWith_type1 (thn (ha.run pos pins s σ H _ I h) fun us s1 ⟨vs, H1, I1, r1, q1⟩ => ?_) hs rfl))
  obtain ⟨k1, a, xs, ex, hqx, q⟩ := q1
  subst ex
  cases r1 with
  | cons r rr =>
    cases rr
    cases r
    obtain ⟨its, rv, p1⟩ := inv_src I1 hqx
    have la := srcOb_lt p1
    refine enum_begin1 (begins_src k1 a its.toArray) p1 fun h' he e1 hsz hk => wpAny_pyIter_enum he ?_
    have I2 : Inv X pins σ H1 { s1 with heap := h' } := I1.kept (t' := s1.toks) hk
    refine ⟨s1.heap.objs.size + 1, [s1.heap.objs.size + 1, s1.heap.objs.size], _, _, H1, rfl, I2, turn_en (k1 := k1) (Nat.ne_of_lt la) (Nat.succ_ne_self _) (Nat.ne_of_gt (Nat.lt_succ_of_lt la)), ⟨⟨.none, he⟩, srcIt_new e1⟩, fun c hcm => ?_, q⟩
    have e' : c = s1.heap.objs.size + 1 ∨ c = s1.heap.objs.size := by simpa using hcm
    have hle : s1.heap.objs.size ≤ c := by
      rcases e' with z | z
      · rw [z]; exact Nat.le_add_right _ _
      · rw [z]; exact Nat.le_refl _
    exact I1.fpOk hle (I1.hok.fresh hle)
theorem walk_en {K : PySem.W.Frag} {k1 : Bool} {a : Addr} {xs : List V} : Walk (Jen K k1 a) xs.length (fun H => SrcAt K H k1 a xs) (YPair (fun i => some (.int (i : Nat))) (fun i => xs[i]?)) := by
  refine ⟨fun i _ hi q => ?_, fun _ q => ⟨xs, q, rfl⟩, fun i H v H' _ q y => ?_⟩
  · exact ⟨xs, xs[i], q, by simp [hi]⟩
  · obtain ⟨T, x, h1, h2, h3, h4⟩ := y
    exact ⟨T, _, x, h1, h2, h3, rfl, h4 xs q⟩
end K11

set_option Elab.async false
set_option linter.all false
set_option maxRecDepth 100000
set_option maxHeartbeats 4000000
namespace K11
open PySem PySem.Spec PyProof.Rows L2
abbrev s_law_done : Stmt := top 42
abbrev N_l_done : List Str := ["_law_works_here", "_law_heaps", "_law_crew", "_law_index", "_law_takes", "_law_puts", "_law_hand", "_law_at"]
theorem sc_l_done : FnScope N_l_done ["_law_works_here", "_law_heaps", "_law_crew", "_law_index"] (defScope s_law_done) := ⟨rfl, rfl, rfl, by decide +kernel, rfl, by decide +kernel, by decide +kernel⟩
theorem st_l_done (x0 x1 x2 x3 : V) : L2.start N_l_done [x0, x1, x2, x3] = [some x0, some x1, some x2, some x3, none, none, none, none] := rfl
abbrev sfirst_failed : Stmt := top 11
abbrev N_first_failed : List Str := ["works", "heaps", "crew", "deeds", "at", "index", "behind"]
theorem sc_first_failed : FnScope N_first_failed ["works", "heaps", "crew", "deeds"] (defScope sfirst_failed) := ⟨rfl, rfl, rfl, by decide +kernel, rfl, by decide +kernel, by decide +kernel⟩
theorem st_first_failed (x0 x1 x2 x3 : V) : L2.start N_first_failed [x0, x1, x2, x3] = [some x0, some x1, some x2, some x3, none, none, none] := rfl
abbrev safter : Stmt := top 14
abbrev N_after : List Str := ["works", "heaps", "crew", "deeds", "failed", "found"]
theorem sc_after : FnScope N_after ["works", "heaps", "crew", "deeds"] (defScope safter) := ⟨rfl, rfl, rfl, by decide +kernel, rfl, by decide +kernel, by decide +kernel⟩
theorem st_after (x0 x1 x2 x3 : V) : L2.start N_after [x0, x1, x2, x3] = [some x0, some x1, some x2, some x3, none, none] := rfl
abbrev scan_do : Stmt := top 15
abbrev N_can_do : List Str := ["works", "heaps", "crew", "deeds"]
theorem sc_can_do : FnScope N_can_do ["works", "heaps", "crew", "deeds"] (defScope scan_do) := ⟨rfl, rfl, rfl, by decide +kernel, rfl, by decide +kernel, by decide +kernel⟩
theorem st_can_do (x0 x1 x2 x3 : V) : L2.start N_can_do [x0, x1, x2, x3] = [some x0, some x1, some x2, some x3] := rfl
abbrev sno_heaps : Stmt := top 16
abbrev N_no_heaps : List Str := ["works"]
theorem sc_no_heaps : FnScope N_no_heaps ["works"] (defScope sno_heaps) := ⟨rfl, rfl, rfl, by decide +kernel, rfl, by decide +kernel, by decide +kernel⟩
theorem st_no_heaps (x0 : V) : L2.start N_no_heaps [x0] = [some x0] := rfl
abbrev s_law_nothing : Stmt := top 41
abbrev N_l_nothing : List Str := ["_law_works_here"]
theorem sc_l_nothing : FnScope N_l_nothing ["_law_works_here"] (defScope s_law_nothing) := ⟨rfl, rfl, rfl, by decide +kernel, rfl, by decide +kernel, by decide +kernel⟩
theorem st_l_nothing (x0 : V) : L2.start N_l_nothing [x0] = [some x0] := rfl
abbrev s_law_after : Stmt := top 43
abbrev N_l_after : List Str := ["_law_works_here", "_law_heaps", "_law_crew", "_law_deeds", "_law_place", "_law_index", "_law_found"]
theorem sc_l_after : FnScope N_l_after ["_law_works_here", "_law_heaps", "_law_crew", "_law_deeds"] (defScope s_law_after) := ⟨rfl, rfl, rfl, by decide +kernel, rfl, by decide +kernel, by decide +kernel⟩
theorem st_l_after (x0 x1 x2 x3 : V) : L2.start N_l_after [x0, x1, x2, x3] = [some x0, some x1, some x2, some x3, none, none, none] := rfl
def spFF : Sp := fun vs H Q _ => ∃ w x y z W, ∃ s t : Sta, ∃ ds : List Int, vs = [w, x, y, z] ∧ WkAt H w W ∧ TupI H x s.1 ∧ TupI H y s.2 ∧ TupI H z ds ∧ WkOk W ∧ StOk W s ∧ runD W s ds = some t ∧
  Ret H Q fun v H' => ∃ a y, v = .ref a ∧ H' a = some (.tup [.non, y]) ∧ TupI H' y t.1
def spAf : Sp := fun vs H Q _ => ∃ w x y z W, ∃ s t : Sta, ∃ ds : List Int, vs = [w, x, y, z] ∧ WkAt H w W ∧ TupI H x s.1 ∧ TupI H y s.2 ∧ TupI H z ds ∧ WkOk W ∧ StOk W s ∧ runD W s ds = some t ∧ Ret H Q fun v H' => TupI H' v t.1
def spCan : Sp := fun vs H Q _ => ∃ w x y z W, ∃ s t : Sta, ∃ ds : List Int, vs = [w, x, y, z] ∧ WkAt H w W ∧ TupI H x s.1 ∧ TupI H y s.2 ∧ TupI H z ds ∧ WkOk W ∧ StOk W s ∧ runD W s ds = some t ∧ Ret H Q fun v H' => v = .bl true
def spLAf : Sp := fun vs H Q _ => ∃ w x y z W, ∃ s t : Sta, ∃ ds : List Int, vs = [w, x, y, z] ∧ WkAt H w W ∧ TupI H x s.1 ∧ TupI H y s.2 ∧ TupI H z ds ∧ WkOk W ∧ StOk W s ∧ runD W s ds = some t ∧
  Ret H Q fun v H' => ∃ a x y, v = .ref a ∧ H' a = some (.tup [x, y, .non]) ∧ TupI H' x t.1 ∧ TupI H' y t.2
def spNo : Sp := fun vs H Q _ => ∃ w W, vs = [w] ∧ WkAt H w W ∧ WkOk W ∧ Ret H Q fun v H' => TupI H' v (List.replicate W.kinds.length 0)
theorem runD_step {W : Wk} {s t u : Sta} {ds : List Int} {i : Nat} {d : Int} (h : runD W s ds = some t) (hd : ds[i]? = some d) (hu : runD W s (ds.take i) = some u) : ∃ u', deed W u d = some u' ∧ runD W s (ds.take (i + 1)) = some u' := by
  have e : ds.take (i + 1) = ds.take i ++ [d] := by
    rw [List.take_succ, hd]
    rfl
  obtain ⟨u', hu'⟩ := runD_take h (i + 1)
  rw [e, runD_snoc, hu] at hu'
  refine ⟨u', hu', ?_⟩
  rw [e, runD_snoc, hu]
  exact hu'
section
variable {P : Program} {w : World} {K : PySem.W.Frag} {mg : Str → Option Value} {base : Heap} {f : Addr} {fd : FuncData}
theorem ok_ldone (F : FnP K "_law_done" s_law_done f fd) (B : Bt mg) (C_l_within : Cl P w K mg base CX0 1 "_law_within" ["_law_one_here", "_law_other"] (sp2B leL)) (C_l_sum : Cl P w K mg base CX0 1 "_law_sum" ["_law_one_here", "_law_other"] (sp2 addL))
    (C_l_less : Cl P w K mg base CX0 1 "_law_less" ["_law_one_here", "_law_other"] (sp2 subL)) : FnOk P w K mg base CX0 2 f fd ["_law_works_here", "_law_heaps", "_law_crew", "_law_index"] spDeed := by
  refine F.ok sc_l_done (fun vs H Q E h => ?_) (fun cdv A outer s H vs Q E hr h => ?_)
  · obtain ⟨w, x, y, W, s, i, rfl, _⟩ := h
    rfl
  · obtain ⟨_, _, _, W, st, i, rfl, ⟨aw, xk, xh, _, rfl, hw, hk, ⟨ph, oh, rfl, hh0, hcl, hdn⟩, ⟨pr, rs, rfl, hr', pp⟩⟩, ⟨p, rfl, hp⟩, ⟨q, rfl, hq⟩, wk, so, h0, h1, k⟩ := h
    refine ⟨_, PSs.nox (pss_cons (ps_asg (pe_ix ix_tup (pe_ix ix_tup (pv 0) pe_int (fun _ _ => rfl)) (pv 3) (fun _ _ => rfl)) (pg_tup rfl (pgs_cons (pg_name (i := 4) sc_l_done.nd rfl (Or.inl rfl)) (pgs_cons (pg_name (i := 5) sc_l_done.nd rfl (Or.inl rfl)) (pgs_cons (pg_name (i := 6) sc_l_done.nd rfl (Or.inl rfl)) pgs_nil)))))
      (pss_cons (ps_if (pt_not (pt_val (pe_c C_l_within hr (by decide) (by rfl) (pa_cons (pv 4) (pa_cons (pv 1) pa_nil))))) (pss_one (ps_ret pe_non)) pss_nil)
      (pss_cons (ps_if (pt_cmpR op_isN (pv 6) pe_non (nomark _)) (pss_one (ps_ret (pe_tup (pa_cons (pe_c C_l_sum hr (by decide) (by rfl) (pa_cons (pe_c C_l_less hr (by decide) (by rfl) (pa_cons (pv 1) (pa_cons (pv 4) pa_nil))) (pa_cons (pv 5) pa_nil))) (pa_cons (pv 2) pa_nil))))) pss_nil)
      (pss_cons (ps_set (i := 7) sc_l_done.nd rfl (Or.inl rfl) (pe_bmF PySem.F.plainAttrs_tuple PySem.F.slot_tuple_index PySem.F.type_tuple_index mt_tup_index (pe_ix ix_tup (pv 0) pe_int (fun _ _ => rfl)) (pa_cons (pv 6) pa_nil)))
      (pss_cons (ps_if (pt_cmpR op_eq (pe_ix ix_tup (pv 2) (pv 7) (fun _ _ => rfl)) pe_int (nomark _)) (pss_one (ps_ret pe_non)) pss_nil)
      (pss_one (ps_ret (pe_tup (pa_cons (pe_c C_l_sum hr (by decide) (by rfl) (pa_cons (pe_c C_l_less hr (by decide) (by rfl) (pa_cons (pv 1) (pa_cons (pv 4) pa_nil))) (pa_cons (pv 5) pa_nil))) (pa_cons (pe_op op_catA (pe_op op_catA (pe_slice sl_tupA (pv 2) po_none (po_some (pv 7))) (pe_tup (pa_cons (pe_op op_sub (pe_ix ix_tup (pv 2) (pv 7) (fun _ _ => rfl)) pe_int) pa_nil))) (pe_slice sl_tupA (pv 2) (po_some (pe_op op_add (pv 7) pe_int)) po_none)) pa_nil)))))))))), ?_⟩
    rw [st_l_done]
    have hi : i.toNat < W.recs.length := by omega
    have hrec : W.recs[i.toNat]? = some W.recs[i.toNat] := List.getElem?_eq_getElem hi
    generalize W.recs[i.toNat] = r at hrec
    obtain ⟨vr, hvr, ar, xt, xp, rfl, hrr, ⟨pt, rfl, ht⟩, ⟨pu, rfl, hu⟩⟩ := paired_get pp hrec
    obtain ⟨lt, lp, bt, bp, hhs⟩ := wk.2.2.2.2.2 r (List.mem_of_getElem? hrec)
    obtain ⟨l1, l2, cn⟩ := so
    have ed := deed_at (W := W) (s := st) h0 hrec
    have lk := wk.2.1
    refine ⟨_, rfl, aw, _, 2, _, rfl, rfl, SqT.of hw, rfl, _, rfl, pr, _, i, _, rfl, rfl, SqT.of hr', atI_get h0 hvr, ?_⟩
    refine ⟨ar, _, rfl, SqT.of hrr, rfl, _, _, rfl, _, _, rfl, _, _, rfl, rfl, ?_⟩
    refine ⟨_, rfl, _, rfl, _, _, _, _, rfl, ⟨pt, rfl, ht⟩, ⟨p, rfl, hp⟩, by omega, fun v H1 sm1 e1 => ?_⟩
    subst e1
    refine ⟨_, rfl, ?_⟩
    cases hl : leL r.t st.1 with
    | false =>
      refine k _ _ sm1 ?_
      rw [ed, deedR_no hl]
      rfl
    | true =>
      have lsub : (subL st.1 r.t).length = W.kinds.length := by
        rw [subL_len (by omega)]
        exact l1
      refine ⟨_, rfl, rfl, ?_⟩
      cases eh : r.h with
      | none =>
        refine ⟨_, rfl, ?_⟩
        refine ⟨_, rfl, _, rfl, _, _, _, _, rfl, ⟨p, rfl, sm1 _ _ hp⟩, ⟨pt, rfl, sm1 _ _ ht⟩, by omega, fun v2 H2 sm2 e2 => ?_⟩
        refine ⟨_, rfl, _, _, _, _, rfl, e2, ⟨pu, rfl, sm2 _ _ (sm1 _ _ hu)⟩, by omega, fun v3 H3 sm3 e3 => ?_⟩
        refine ⟨_, rfl, sz2, fun b hb => k _ _ (((sm1.trans sm2).trans sm3).trans (same_new hb)) ?_⟩
        have eC : leftC W.hands r st.2 = some st.2 := by
          unfold leftC
          rw [eh]
        rw [ed, deedR_mk hl eC]
        exact ⟨b, _, _, rfl, upd_same, e3.tp (tp_new hb), q, rfl, same_new hb _ _ (sm3 _ _ (sm2 _ _ (sm1 _ _ hq)))⟩
      | some z =>
        refine ⟨_, rfl, ?_⟩
        have hz := (hhs z eh).1
        have hj := List.idxOf_lt_length_of_mem hz
        have hjz : W.hands[W.hands.idxOf z]? = some z := by
          rw [List.getElem?_eq_getElem hj, List.getElem_idxOf]
        have hno : ∀ m, m < W.hands.idxOf z → W.hands[m]? ≠ some z := fun m hm e => by
          have hm' : m < W.hands.length := by omega
          rw [List.getElem?_eq_getElem hm'] at e
          have := wk.2.2.2.1.idxOf_getElem m hm'
          rw [Option.some.inj e] at this
          omega
        have hqj : st.2[W.hands.idxOf z]? = some (st.2.getD (W.hands.idxOf z) 0) := by
          rw [List.getD_eq_getElem?_getD, List.getElem?_eq_getElem (by omega)]
          rfl
        generalize W.hands.idxOf z = j at hj hjz hno hqj
        generalize ec : st.2.getD j 0 = c at hqj
        refine ⟨_, rfl, aw, _, 1, _, rfl, rfl, SqT.of (sm1 _ _ hw), rfl, ⟨ph, oh, _, rfl, sm1 _ _ hh0, hcl, hdn⟩, _, rfl, ph, W.hands, z, j, rfl, rfl, .inl (.inr ⟨oh, sm1 _ _ hh0⟩), hjz, hno, ?_⟩
        refine ⟨_, rfl, _, rfl, q, _, _, _, rfl, rfl, SqT.of (sm1 _ _ hq), atI_nat (map_at hqj), rfl, _, rfl, ?_⟩
        have eI : W.hands.idxOf z = j := by
          have hm := List.idxOf_lt_length_of_mem hz
          rcases Nat.lt_trichotomy (W.hands.idxOf z) j with h | h | h
          · exact absurd (by rw [List.getElem?_eq_getElem hm, List.getElem_idxOf]) (hno _ h)
          · exact h
          · have := wk.2.2.2.1.idxOf_getElem j hj
            rw [List.getElem?_eq_getElem hj] at hjz
            rw [Option.some.inj hjz] at this
            exact this
        by_cases hc : c = 0
        · rw [hc]
          refine k _ _ sm1 ?_
          have eC : leftC W.hands r st.2 = none := by
            unfold leftC
            rw [eh]
            simp only
            rw [eI, ec, if_pos hc]
          rw [ed, deedR_no2 hl eC]
          rfl
        · have eC : leftC W.hands r st.2 = some (st.2.set j (c - 1)) := by
            unfold leftC
            rw [eh]
            simp only
            rw [eI, ec, if_neg hc]
          rw [show decide (V.int c = V.int 0) = false from decide_eq_false fun e => hc (V.int.inj e)]
          refine ⟨_, rfl, _, rfl, _, _, _, _, rfl, ⟨p, rfl, sm1 _ _ hp⟩, ⟨pt, rfl, sm1 _ _ ht⟩, by omega, fun v2 H2 sm2 e2 => ?_⟩
          refine ⟨_, rfl, _, _, _, _, rfl, e2, ⟨pu, rfl, sm2 _ _ (sm1 _ _ hu)⟩, by omega, fun v3 H3 sm3 e3 => ?_⟩
          have s3 := (sm1.trans sm2).trans sm3
          refine ⟨_, rfl, _, rfl, j, rfl, ?_⟩
          refine sl_mk (s3 _ _ hq) fun v4 H4 sm4 e4 => ?_
          rw [cut_to] at e4
          have s4 := s3.trans sm4
          refine ⟨_, rfl, _, rfl, q, _, _, _, rfl, rfl, SqT.of (s4 _ _ hq), atI_nat (map_at hqj), _, 1, rfl, rfl, sz1, fun b5 hb5 => ?_⟩
          have s5 := s4.trans (same_new (o := .tup [V.int (c - 1)]) hb5)
          obtain ⟨b4, rfl, e4⟩ := e4
          have hz2 : st.2.length ≤ 8 := by have := wk.2.2.1; omega
          have hline : 1000 ≤ sizeLine := by decide
          refine cat_mk ⟨b4, rfl, same_new hb5 _ _ e4⟩ ⟨b5, rfl, upd_same⟩ (by simp; omega) fun v6 H6 sm6 e6 => ?_
          have s6 := s5.trans sm6
          refine ⟨_, rfl, _, rfl, j, 1, rfl, rfl, _, rfl, ?_⟩
          unfold tNoPart
          refine sl_mk (s6 _ _ hq) fun v7 H7 sm7 e7 => ?_
          rw [show ((j : Nat) : Int) + 1 = ((j + 1 : Nat) : Int) by omega, cut_from] at e7
          obtain ⟨b6, rfl, e6⟩ := e6
          refine cat_mk ⟨b6, rfl, sm7 _ _ e6⟩ e7 (by simp; omega) fun v8 H8 sm8 e8 => ?_
          have s8 := (s6.trans sm7).trans sm8
          refine ⟨sz2, fun b hb => k _ _ (s8.trans (same_new hb)) ?_⟩
          rw [ed, deedR_mk hl eC]
          obtain ⟨b8, rfl, e8⟩ := e8
          refine ⟨b, _, _, rfl, upd_same, e3.tp (tp_same ((((sm4.trans (same_new hb5)).trans sm6).trans sm7).trans (sm8.trans (same_new hb)))), ⟨b8, rfl, ?_⟩⟩
          rw [same_new hb _ _ e8]
          congr 2
          rw [← List.map_take, ← List.map_drop, ← set_cut st.2 j (c - 1) (by omega), List.map_append, List.map_append]
          rfl
theorem ok_first_failed (F : FnP K "first_failed" sfirst_failed f fd) (B : Bt mg) (C_after_deed : Cl P w K mg base CX0 1 "after_deed" ["works", "heaps", "crew", "index"] spDeed) :
    FnOk P w K mg base CX0 2 f fd ["works", "heaps", "crew", "deeds"] spFF := by
  refine F.ok sc_first_failed (fun vs H Q E h => ?_) (fun cdv A outer s H vs Q E hr h => ?_)
  · obtain ⟨w, x, y, z, W, s, t, ds, rfl, _⟩ := h
    rfl
  · obtain ⟨w, x, y, _, W, st, t, ds, rfl, hw, hx, hy, ⟨p, rfl, hp⟩, wk, so, hrun, k⟩ := h
    refine ⟨_, PSs.nox (pss_cons (ps_for PassesOwn.never rfl (pi_en (by rfl) B.enumerate (pa_cons (pv 3) pa_nil)) (pg_tup rfl (pgs_cons (pg_name (i := 4) sc_first_failed.nd rfl (Or.inl rfl)) (pgs_cons (pg_name (i := 5) sc_first_failed.nd rfl (Or.inl rfl)) pgs_nil)))
        (pss_cons (ps_set (i := 6) sc_first_failed.nd rfl (Or.inl rfl) (pe_c C_after_deed hr (by decide) (by rfl) (pa_cons (pv 0) (pa_cons (pv 1) (pa_cons (pv 2) (pa_cons (pv 5) pa_nil))))))
      (pss_cons (ps_if (pt_cmpR op_isN (pv 6) pe_non (nomark _)) (pss_one (ps_ret (pe_tup (pa_cons (pv 4) (pa_cons pe_non pa_nil))))) pss_nil)
      (pss_one (ps_asg (pv 6) (pg_tup rfl (pgs_cons (pg_name (i := 1) sc_first_failed.nd rfl (Or.inl rfl)) (pgs_cons (pg_name (i := 2) sc_first_failed.nd rfl (Or.inl rfl)) pgs_nil))))))))
      (pss_one (ps_ret (pe_tup (pa_cons pe_non (pa_cons (pv 1) pa_nil)))))), ?_⟩
    rw [st_first_failed]
    refine ⟨_, rfl, false, p, _, rfl, src_of_tup hp, ?_⟩
    refine for_it (walk_en (xs := ds.map V.int)) (fun i σ H' => ∃ hx cx o4 o5 o6 u, σ = [some w, some hx, some cx, some (.ref p), o4, o5, o6] ∧ Same H H' ∧ runD W st (ds.take i) = some u ∧ TupI H' hx u.1 ∧ TupI H' cx u.2) ?_ ?_ ?_ ?_
    · exact ⟨x, y, none, none, none, st, rfl, Same.refl _, rfl, hx, hy⟩
    · rintro i σ H' hi ⟨_, _, _, _, _, _, _, sm, _⟩
      exact src_same sm (src_of_tup hp)
    · rintro i T σ H1 H2 hi ⟨hx, cx, o4, o5, o6, u, rfl, sm, hu, t1, t2⟩ ⟨T', a, b, rfl, nT, rfl, ha, hb⟩
      cases ha
      obtain ⟨d, hd, rfl⟩ := at_map hb
      obtain ⟨u', hu', hu2⟩ := runD_step hrun hd hu
      have hix := runD_ix hrun d (List.mem_of_getElem? hd)
      refine ⟨T', _, rfl, SqT.of upd_same, rfl, _, _, rfl, _, _, rfl, rfl, ?_⟩
      have s2 := sm.trans (same_new (o := .tup [.int (i : Nat), .int d]) nT)
      refine ⟨_, rfl, _, rfl, _, rfl, _, rfl, _, _, _, W, u, d, rfl, hw.tp (tp_same s2), t1.tp (tp_new nT), t2.tp (tp_new nT), wk, so.run wk hu, hix.1, hix.2, fun v H3 sm3 e3 => ?_⟩
      rw [hu'] at e3
      obtain ⟨a, x', y', rfl, ha, e31, e32⟩ := e3
      refine ⟨_, rfl, rfl, _, rfl, ?_⟩
      refine ⟨_, rfl, a, _, rfl, SqT.of ha, rfl, _, _, rfl, _, _, rfl, rfl, ?_⟩
      exact ⟨x', y', _, _, _, u', rfl, s2.trans sm3, hu2, e31, e32⟩
    · rintro σ H1 ⟨hx, cx, o4, o5, o6, u, rfl, sm, hu, t1, t2⟩
      rw [List.length_map, List.take_length, hrun] at hu
      cases hu
      refine ⟨_, rfl, sz2, fun b hb => k _ _ (sm.trans (same_new hb)) ⟨b, hx, rfl, upd_same, t1.tp (tp_new hb)⟩⟩
theorem ok_after (F : FnP K "after" safter f fd) (B : Bt mg) (C_first_failed : Cl P w K mg base CX0 2 "first_failed" ["works", "heaps", "crew", "deeds"] spFF) : FnOk P w K mg base CX0 3 f fd ["works", "heaps", "crew", "deeds"] spAf := by
  refine F.ok sc_after (fun vs H Q E h => ?_) (fun cdv A outer s H vs Q E hr h => ?_)
  · obtain ⟨w, x, y, z, W, s, t, ds, rfl, _⟩ := h
    rfl
  · obtain ⟨w, x, y, z, W, st, t, ds, rfl, hw, hx, hy, hz, wk, so, hrun, k⟩ := h
    refine ⟨_, PSs.nox (pss_cons (ps_asg (pe_c C_first_failed hr (by decide) (by rfl) (pa_cons (pv 0) (pa_cons (pv 1) (pa_cons (pv 2) (pa_cons (pv 3) pa_nil))))) (pg_tup rfl (pgs_cons (pg_name (i := 4) sc_after.nd rfl (Or.inl rfl)) (pgs_cons (pg_name (i := 5) sc_after.nd rfl (Or.inl rfl)) pgs_nil))))
      (pss_cons (ps_if (pt_cmpR op_notN (pv 4) pe_non (nomark _)) (pss_one ps_never) pss_nil)
      (pss_one (ps_ret (pv 5))))), ?_⟩
    rw [st_after]
    refine ⟨_, rfl, _, rfl, _, rfl, _, rfl, _, _, _, _, W, st, t, ds, rfl, hw, hx, hy, hz, wk, so, hrun, fun v H1 sm1 e1 => ?_⟩
    obtain ⟨a, y', rfl, ha, ht⟩ := e1
    refine ⟨a, _, rfl, SqT.of ha, rfl, _, _, rfl, _, _, rfl, rfl, ?_⟩
    exact ⟨_, rfl, rfl, _, rfl, _, rfl, k _ _ sm1 ht⟩
theorem ok_can_do (F : FnP K "can_do" scan_do f fd) (B : Bt mg) (C_first_failed : Cl P w K mg base CX0 2 "first_failed" ["works", "heaps", "crew", "deeds"] spFF) : FnOk P w K mg base CX0 3 f fd ["works", "heaps", "crew", "deeds"] spCan := by
  refine F.ok sc_can_do (fun vs H Q E h => ?_) (fun cdv A outer s H vs Q E hr h => ?_)
  · obtain ⟨w, x, y, z, W, s, t, ds, rfl, _⟩ := h
    rfl
  · obtain ⟨w, x, y, z, W, st, t, ds, rfl, hw, hx, hy, hz, wk, so, hrun, k⟩ := h
    refine ⟨_, PSs.nox (pss_one (ps_ret (pe_cmpR op_isN (pe_ix ix_tup (pe_c C_first_failed hr (by decide) (by rfl) (pa_cons (pv 0) (pa_cons (pv 1) (pa_cons (pv 2) (pa_cons (pv 3) pa_nil))))) pe_int (fun _ _ => rfl)) pe_non (nomark _)))), ?_⟩
    rw [st_can_do]
    refine ⟨_, rfl, _, rfl, _, rfl, _, rfl, _, _, _, _, W, st, t, ds, rfl, hw, hx, hy, hz, wk, so, hrun, fun v H1 sm1 e1 => ?_⟩
    obtain ⟨a, y', rfl, ha, ht⟩ := e1
    exact ⟨a, _, 0, _, rfl, rfl, SqT.of ha, rfl, rfl, k _ _ sm1 rfl⟩
theorem ok_no_heaps (F : FnP K "no_heaps" sno_heaps f fd) (B : Bt mg) : FnOk P w K mg base CX0 1 f fd ["works"] spNo := by
  refine F.ok sc_no_heaps (fun vs H Q E h => ?_) (fun cdv A outer s H vs Q E hr h => ?_)
  · obtain ⟨w, W, rfl, _⟩ := h
    rfl
  · obtain ⟨_, W, rfl, ⟨aw, xk, xh, xr, rfl, hw, ⟨pk, rfl, hk⟩, _⟩, wk, k⟩ := h
    refine ⟨_, PSs.nox (pss_one (ps_ret (pe_op op_repA (pe_tup (pa_cons pe_int pa_nil)) (pe_callB call_len_seq (by rfl) B.len (by decide +kernel) (pa_cons (pe_ix ix_tup (pv 0) pe_int (fun _ _ => rfl)) pa_nil))))), ?_⟩
    rw [st_no_heaps]
    refine ⟨sz1, fun p hp => ?_⟩
    refine ⟨_, rfl, aw, _, 0, _, rfl, rfl, SqT.of (same_new hp _ _ hw), rfl, pk, _, rfl, .inr (SqT.of (same_new hp _ _ hk)), ?_⟩
    refine ⟨p, _, _, rfl, rfl, upd_same, by have := wk.2.1; simp; omega, fun v H1 sm1 e1 => k _ _ ((same_new hp).trans sm1) ?_⟩
    obtain ⟨b, rfl, e1⟩ := e1
    exact ⟨b, rfl, by rw [e1, List.map_replicate, List.length_map]⟩
theorem ok_lnothing (F : FnP K "_law_nothing" s_law_nothing f fd) (B : Bt mg) : FnOk P w K mg base CX0 1 f fd ["_law_works_here"] spNo := by
  refine F.ok sc_l_nothing (fun vs H Q E h => ?_) (fun cdv A outer s H vs Q E hr h => ?_)
  · obtain ⟨w, W, rfl, _⟩ := h
    rfl
  · obtain ⟨_, W, rfl, ⟨aw, xk, xh, xr, rfl, hw, ⟨pk, rfl, hk⟩, _⟩, wk, k⟩ := h
    refine ⟨_, PSs.nox (pss_one (ps_ret (pe_op op_repA (pe_tup (pa_cons pe_int pa_nil)) (pe_callB call_len_seq (by rfl) B.len (by decide +kernel) (pa_cons (pe_ix ix_tup (pv 0) pe_int (fun _ _ => rfl)) pa_nil))))), ?_⟩
    rw [st_l_nothing]
    refine ⟨sz1, fun p hp => ?_⟩
    refine ⟨_, rfl, aw, _, 0, _, rfl, rfl, SqT.of (same_new hp _ _ hw), rfl, pk, _, rfl, .inr (SqT.of (same_new hp _ _ hk)), ?_⟩
    refine ⟨p, _, _, rfl, rfl, upd_same, by have := wk.2.1; simp; omega, fun v H1 sm1 e1 => k _ _ ((same_new hp).trans sm1) ?_⟩
    obtain ⟨b, rfl, e1⟩ := e1
    exact ⟨b, rfl, by rw [e1, List.map_replicate, List.length_map]⟩
theorem ok_lafter (F : FnP K "_law_after" s_law_after f fd) (B : Bt mg) (C_l_done : Cl P w K mg base CX0 2 "_law_done" ["_law_works_here", "_law_heaps", "_law_crew", "_law_index"] spDeed) :
    FnOk P w K mg base CX0 3 f fd ["_law_works_here", "_law_heaps", "_law_crew", "_law_deeds"] spLAf := by
  refine F.ok sc_l_after (fun vs H Q E h => ?_) (fun cdv A outer s H vs Q E hr h => ?_)
  · obtain ⟨w, x, y, z, W, s, t, ds, rfl, _⟩ := h
    rfl
  · obtain ⟨w, x, y, _, W, st, t, ds, rfl, hw, hx, hy, ⟨p, rfl, hp⟩, wk, so, hrun, k⟩ := h
    refine ⟨_, PSs.nox (pss_cons (ps_for PassesOwn.never rfl (pi_en (by rfl) B.enumerate (pa_cons (pv 3) pa_nil)) (pg_tup rfl (pgs_cons (pg_name (i := 4) sc_l_after.nd rfl (Or.inl rfl)) (pgs_cons (pg_name (i := 5) sc_l_after.nd rfl (Or.inl rfl)) pgs_nil)))
        (pss_cons (ps_set (i := 6) sc_l_after.nd rfl (Or.inl rfl) (pe_c C_l_done hr (by decide) (by rfl) (pa_cons (pv 0) (pa_cons (pv 1) (pa_cons (pv 2) (pa_cons (pv 5) pa_nil))))))
      (pss_cons (ps_if (pt_cmpR op_isN (pv 6) pe_non (nomark _)) (pss_one (ps_ret (pe_tup (pa_cons (pv 1) (pa_cons (pv 2) (pa_cons (pv 4) pa_nil)))))) pss_nil)
      (pss_one (ps_asg (pv 6) (pg_tup rfl (pgs_cons (pg_name (i := 1) sc_l_after.nd rfl (Or.inl rfl)) (pgs_cons (pg_name (i := 2) sc_l_after.nd rfl (Or.inl rfl)) pgs_nil))))))))
      (pss_one (ps_ret (pe_tup (pa_cons (pv 1) (pa_cons (pv 2) (pa_cons pe_non pa_nil))))))), ?_⟩
    rw [st_l_after]
    refine ⟨_, rfl, false, p, _, rfl, src_of_tup hp, ?_⟩
    refine for_it (walk_en (xs := ds.map V.int)) (fun i σ H' => ∃ hx cx o4 o5 o6 u, σ = [some w, some hx, some cx, some (.ref p), o4, o5, o6] ∧ Same H H' ∧ runD W st (ds.take i) = some u ∧ TupI H' hx u.1 ∧ TupI H' cx u.2) ?_ ?_ ?_ ?_
    · exact ⟨x, y, none, none, none, st, rfl, Same.refl _, rfl, hx, hy⟩
    · rintro i σ H' hi ⟨_, _, _, _, _, _, _, sm, _⟩
      exact src_same sm (src_of_tup hp)
    · rintro i T σ H1 H2 hi ⟨hx, cx, o4, o5, o6, u, rfl, sm, hu, t1, t2⟩ ⟨T', a, b, rfl, nT, rfl, ha, hb⟩
      cases ha
      obtain ⟨d, hd, rfl⟩ := at_map hb
      obtain ⟨u', hu', hu2⟩ := runD_step hrun hd hu
      have hix := runD_ix hrun d (List.mem_of_getElem? hd)
      refine ⟨T', _, rfl, SqT.of upd_same, rfl, _, _, rfl, _, _, rfl, rfl, ?_⟩
      have s2 := sm.trans (same_new (o := .tup [.int (i : Nat), .int d]) nT)
      refine ⟨_, rfl, _, rfl, _, rfl, _, rfl, _, _, _, W, u, d, rfl, hw.tp (tp_same s2), t1.tp (tp_new nT), t2.tp (tp_new nT), wk, so.run wk hu, hix.1, hix.2, fun v H3 sm3 e3 => ?_⟩
      rw [hu'] at e3
      obtain ⟨a, x', y', rfl, ha, e31, e32⟩ := e3
      refine ⟨_, rfl, rfl, _, rfl, ?_⟩
      refine ⟨_, rfl, a, _, rfl, SqT.of ha, rfl, _, _, rfl, _, _, rfl, rfl, ?_⟩
      exact ⟨x', y', _, _, _, u', rfl, s2.trans sm3, hu2, e31, e32⟩
    · rintro σ H1 ⟨hx, cx, o4, o5, o6, u, rfl, sm, hu, t1, t2⟩
      rw [List.length_map, List.take_length, hrun] at hu
      cases hu
      exact ⟨_, rfl, _, rfl, sz3, fun b hb => k _ _ (sm.trans (same_new hb)) ⟨b, hx, cx, rfl, upd_same, t1.tp (tp_new hb), t2.tp (tp_new hb)⟩⟩
end
end K11

set_option Elab.async false
set_option linter.all false
set_option maxRecDepth 100000
set_option maxHeartbeats 4000000
/-! The bag: a list that only one def opens; for all others it is one thing that stays. -/
namespace K11
open PySem PySem.Spec PyProof.Rows L2
def BagO (a C : Addr) : HO := .ext fun h => ∃ (i j k : Int) (t1 t2 t3 : Tok) (n : Nat), 0 ≤ i ∧ 0 ≤ j ∧ 0 ≤ k ∧ h.get? a = some { cls := .type "list", data := .seq #[.int i t1, .int j t2, .int k t3, .ref C] n }
def bagL (i j k : Int) (C : Addr) : HO := .lst [.int i, .int j, .int k, .ref C]
theorem bag_close {P : Program} {w : World} {H H' : Hp} {h : Heap} {a C : Addr} {i j k : Int} (h1 : 0 ≤ i) (h2 : 0 ≤ j) (h3 : 0 ≤ k) (x : ObjOk P w H h a (bagL i j k C)) : ObjOk P w H' h a (BagO a C) := by
  obtain ⟨_, its, n, r, e⟩ := x
  cases r with
  | cons r1 r =>
    cases r with
    | cons r2 r =>
      cases r with
      | cons r3 r =>
        cases r with
        | cons r4 r =>
          cases r
          obtain ⟨t1, rfl⟩ := r1
          obtain ⟨t2, rfl⟩ := r2
          obtain ⟨t3, rfl⟩ := r3
          cases r4
          exact ⟨⟨i, j, k, t1, t2, t3, n, h1, h2, h3, e⟩, ⟨_, e⟩, fun g g' ⟨i, j, k, t1, t2, t3, n, h1, h2, h3, e⟩ st => ⟨i, j, k, t1, t2, t3, n, h1, h2, h3, st _ e⟩⟩
theorem bag_open {P : Program} {w : World} {H H' : Hp} {h : Heap} {a C : Addr} (x : ObjOk P w H h a (BagO a C)) : ∃ i j k, 0 ≤ i ∧ 0 ≤ j ∧ 0 ≤ k ∧ ObjOk P w H' h a (bagL i j k C) := by
  obtain ⟨⟨i, j, k, t1, t2, t3, n, h1, h2, h3, e⟩, _⟩ := x
  exact ⟨i, j, k, h1, h2, h3, by show 4 ≤ sizeLine; decide, [.int i t1, .int j t2, .int k t3, .ref C], n, .cons ⟨_, rfl⟩ (.cons ⟨_, rfl⟩ (.cons ⟨_, rfl⟩ (.cons rfl .nil))), e⟩
theorem ne_upd {H : Hp} {a b : Addr} {o u : HO} (ha : H a = some o) (hb : H b = some u) (d : o ≠ u) : b ≠ a := fun e => d (by rw [e, ha] at hb; exact Option.some.inj hb)
/-- seen from outside -/
theorem fnOk_bag {P : Program} {w : World} {K : PySem.W.Frag} {mg : Str → Option Value} {base : Heap} {k : Nat} {f : Addr} {fd : FuncData} {ps : List Str} {sp sp' : Sp} (F : FnOk P w K mg base CX0 k f fd ps sp) (hl : ∀ vs H Q E, sp' vs H Q E → vs.length = ps.length)
    (hv : ∀ vs H Q E, sp' vs H Q E → ∃ a C, H a = some (BagO a C) ∧ ∀ i j k, 0 ≤ i → 0 ≤ j → 0 ≤ k → sp vs (upd H a (bagL i j k C)) (fun v H2 => ∃ i' j' k', 0 ≤ i' ∧ 0 ≤ j' ∧ 0 ≤ k' ∧ H2 a = some (bagL i' j' k' C) ∧ Q v (upd H2 a (BagO a C))) E) :
    FnOk P w K mg base CX0 k f fd ps sp' := by
  refine ⟨hl, fun A outer s H args us vs Q E hr e0 hb r hsp => ?_⟩
  obtain ⟨a, C, ha, hin⟩ := hv vs H Q E hsp
  obtain ⟨i, j, l, h1, h2, h3, x⟩ := bag_open (H' := upd H a (bagL 0 0 0 C)) (e0.hok a _ ha)
  have x' : ObjOk P w (upd H a (bagL i j l C)) s.heap a (bagL i j l C) := x
  have hex : ∃ u, s.heap.get? a = some u := (e0.hok a _ ha).2.1
  have ok1 : HOk P w (upd H a (bagL i j l C)) s.heap := e0.hok.write (x := a) (e := a) (by rw [ha]; trivial) (.inl rfl) (fun _ _ _ q => q) hex x'
  have neN : ∀ b, H b = none → b ≠ a := fun b e z => by rw [z, ha] at e; cases e
  have e1 : Env0 P w K mg base A outer s (upd H a (bagL i j l C)) := ⟨e0.frames, e0.mod, fun b o q => ⟨(e0.bs b o q).1, by rw [upd_ne (neN b (e0.bs b o q).2)]; exact (e0.bs b o q).2⟩, e0.bsz, e0.funs,
    fun b q => by rw [upd_ne (neN b (e0.frf b q))]; exact e0.frf b q, ok1, e0.bare⟩
  refine codeAny_mono (F.run A outer s _ args us vs _ E hr e1 hb r (hin i j l h1 h2 h3)) fun r' s' hq => ?_
  cases r' with
  | error er => exact hq
  | ok fl =>
    cases fl with
    | next => exact hq
    | brk => exact hq
    | cont => exact hq
    | ret u =>
      obtain ⟨v, H2, os, bare, un, hok, rv, i', j', l', g1, g2, g3, ea, q⟩ := hq
      have ok3 : HOk P w (upd H2 a (BagO a C)) s'.heap := hok.write (x := a) (e := a) (by rw [ea]; trivial) (.inl rfl) (fun _ _ _ q => q) (by
        obtain ⟨_, _, _, _, e⟩ := hok a _ ea
        exact ⟨_, e⟩) (bag_close g1 g2 g3 (hok a _ ea))
      have ne2 : ∀ b o, H b = some o → o ≠ BagO a C → b ≠ a := fun b o e d z => by rw [z, ha] at e; exact d (Option.some.inj e).symm
      have up : ∀ b, b ≠ a → upd H a (bagL i j l C) b = H b := fun b n => upd_ne n
      refine ⟨v, upd H2 a (BagO a C), os, bare, ⟨fun b o q n hf hx => ?_, fun b o q n hf hx => ?_, fun b o q n hx => ?_, un.there, fun b xs q => ?_, fun b o x q => ?_, fun b ps q => ?_⟩, ok3, rv, q⟩
      · exact un.keep b o q (by rw [up b (neN b n)]; exact n) hf hx
      · exact un.slot b o q (by rw [up b (neN b n)]; exact n) hf hx
      · rw [upd_ne (neN b n)]
        exact un.free b o q (by rw [up b (neN b n)]; exact n) hx
      · have n := ne2 b _ q (fun z => nomatch z)
        rw [upd_ne n]
        exact un.tups b xs (by rw [up b n]; exact q)
      · have n := ne2 b _ q (fun z => nomatch z)
        rw [upd_ne n]
        exact un.frzs b o x (by rw [up b n]; exact q)
      · have n := ne2 b _ q (fun z => nomatch z)
        obtain ⟨m, e⟩ := un.tbls b ps (by rw [up b n]; exact q)
        exact ⟨m, by rw [upd_ne n]; exact e⟩
def BagAt (H : Hp) (v : V) : Prop := ∃ a C, ∃ ns : List Int, v = .ref a ∧ H a = some (BagO a C) ∧ H C = some (.lst (ns.map V.int)) ∧ ns.length ≤ 1000 ∧ ∀ n ∈ ns, 0 ≤ n
theorem BagAt.same {H H' : Hp} {v : V} (h : BagAt H v) (e : Same H H') : BagAt H' v := by
  obtain ⟨a, C, ns, rfl, h1, h2, h3⟩ := h
  exact ⟨a, C, ns, rfl, e _ _ h1, e _ _ h2, h3⟩
/-- the bag that was made is closed -/
theorem fnOk_close {P : Program} {w : World} {K : PySem.W.Frag} {mg : Str → Option Value} {base : Heap} {k : Nat} {f : Addr} {fd : FuncData} {ps : List Str} {sp sp' : Sp} (F : FnOk P w K mg base CX0 k f fd ps sp) (hl : ∀ vs H Q E, sp' vs H Q E → vs.length = ps.length)
    (hv : ∀ vs H Q E, sp' vs H Q E → sp vs H (fun v H2 => ∃ a C i j k, 0 ≤ i ∧ 0 ≤ j ∧ 0 ≤ k ∧ H2 a = some (bagL i j k C) ∧ Q v (upd H2 a (BagO a C))) E) :
    FnOk P w K mg base CX0 k f fd ps sp' := by
  refine ⟨hl, fun A outer s H args us vs Q E hr e0 hb r hsp => ?_⟩
  refine codeAny_mono (F.run A outer s _ args us vs _ E hr e0 hb r (hv vs H Q E hsp)) fun r' s' hq => ?_
  cases r' with
  | error er => exact hq
  | ok fl =>
    cases fl with
    | next => exact hq
    | brk => exact hq
    | cont => exact hq
    | ret u =>
      obtain ⟨v, H2, os, bare, un, hok, rv, a, C, i', j', l', g1, g2, g3, ea, q⟩ := hq
      have ok3 : HOk P w (upd H2 a (BagO a C)) s'.heap := hok.write (x := a) (e := a) (by rw [ea]; trivial) (.inl rfl) (fun _ _ _ q => q) (by
        obtain ⟨_, _, _, _, e⟩ := hok a _ ea
        exact ⟨_, e⟩) (bag_close g1 g2 g3 (hok a _ ea))
      have n2 : ∀ b, H2 b = none → b ≠ a := fun b e z => by rw [z, ea] at e; cases e
      refine ⟨v, upd H2 a (BagO a C), os, bare, ⟨un.keep, un.slot, fun b o q n hx => ?_, un.there, fun b xs q => ?_, fun b o x q => ?_, fun b ps q => ?_⟩, ok3, rv, q⟩
      · have e := un.free b o q n hx
        rw [upd_ne (n2 b e)]
        exact e
      · have e := un.tups b xs q
        rw [upd_ne (fun z => by rw [z, ea] at e; cases e)]
        exact e
      · have e := un.frzs b o x q
        rw [upd_ne (fun z => by rw [z, ea] at e; cases e)]
        exact e
      · obtain ⟨m, e⟩ := un.tbls b ps q
        exact ⟨m, by rw [upd_ne (fun z => by rw [z, ea] at e; cases e)]; exact e⟩
end K11

set_option Elab.async false
set_option linter.all false
set_option maxRecDepth 100000
set_option maxHeartbeats 4000000
namespace K11
open PySem PySem.Spec PyProof.Rows L2
abbrev s_law_bag : Stmt := top 29
abbrev N_l_bag : List Str := ["_law_script", "_law_cell"]
theorem sc_l_bag : FnScope N_l_bag ["_law_script"] (defScope s_law_bag) := ⟨rfl, rfl, rfl, by decide +kernel, rfl, by decide +kernel, by decide +kernel⟩
theorem st_l_bag (x0 : V) : L2.start N_l_bag [x0] = [some x0, none] := rfl
abbrev s_law_take : Stmt := top 30
abbrev N_l_take : List Str := ["_law_bag_here", "_law_many", "_law_cell", "_law_stirred", "_law_value", "_law_begin", "_law_second"]
theorem sc_l_take : FnScope N_l_take ["_law_bag_here", "_law_many"] (defScope s_law_take) := ⟨rfl, rfl, rfl, by decide +kernel, rfl, by decide +kernel, by decide +kernel⟩
theorem st_l_take (x0 x1 : V) : L2.start N_l_take [x0, x1] = [some x0, some x1, none, none, none, none, none] := rfl
abbrev s_law_one : Stmt := top 31
abbrev N_l_one : List Str := ["_law_bag_here", "_law_things"]
theorem sc_l_one : FnScope N_l_one ["_law_bag_here", "_law_things"] (defScope s_law_one) := ⟨rfl, rfl, rfl, by decide +kernel, rfl, by decide +kernel, by decide +kernel⟩
theorem st_l_one (x0 x1 : V) : L2.start N_l_one [x0, x1] = [some x0, some x1] := rfl
abbrev s_law_mixed : Stmt := top 32
abbrev N_l_mixed : List Str := ["_law_bag_here", "_law_things", "_law_found", "_law_thing"]
theorem sc_l_mixed : FnScope N_l_mixed ["_law_bag_here", "_law_things"] (defScope s_law_mixed) := ⟨rfl, rfl, rfl, by decide +kernel, rfl, by decide +kernel, by decide +kernel⟩
theorem st_l_mixed (x0 x1 : V) : L2.start N_l_mixed [x0, x1] = [some x0, some x1, none, none] := rfl
theorem seq_cut {t u : TS} {D : Ends} {σ : L2.St} {H : Hp} (Mid : L2.St → Hp → Prop) (h1 : ∀ σ H, Mid σ H → u D σ H) (h2 : (∀ σ H, Mid σ H → u D σ H) → t { D with nx := u D } σ H) : tSeq t u D σ H := h2 h1
theorem p10 : (0 : Int) < 1000000007 := by decide
theorem p9 : (0 : Int) < 998244353 := by decide
theorem p2 : (0 : Int) < 2147483647 := by decide
theorem p1018 : CPow 10 18 := ⟨by decide, by decide, by decide⟩
def Oth (a : Addr) (H H' : Hp) : Prop := ∀ b o, b ≠ a → H b = some o → H' b = some o
theorem Oth.refl (a : Addr) (H : Hp) : Oth a H H := fun _ _ _ h => h
theorem Oth.trans {a : Addr} {H H1 H2 : Hp} (x : Oth a H H1) (y : Oth a H1 H2) : Oth a H H2 := fun b o n h => y b o n (x b o n h)
theorem oth_same {a : Addr} {H H' : Hp} (x : Same H H') : Oth a H H' := fun b o _ h => x b o h
theorem oth_upd {a : Addr} {H : Hp} {o : HO} : Oth a H (upd H a o) := fun b o n h => by rw [upd_ne n]; exact h
def spTakeL : Sp := fun vs H Q _ => ∃ (a C : Addr) (i j k many : Int), ∃ ns : List Int, vs = [.ref a, .int many] ∧ H a = some (bagL i j k C) ∧ H C = some (.lst (ns.map V.int)) ∧ C ≠ a ∧ ns.length ≤ 1000 ∧ (∀ n ∈ ns, 0 ≤ n) ∧ 0 ≤ i ∧ 0 ≤ j ∧ 0 ≤ k ∧ 0 < many ∧ many < 1000000 ∧
  ∀ v i' j' k' H', 0 ≤ v → v < many → 0 ≤ i' → 0 ≤ j' → 0 ≤ k' → Oth a H H' → H' a = some (bagL i' j' k' C) → Q (.int v) H'
def spTake : Sp := fun vs H Q _ => ∃ b, ∃ many : Int, vs = [b, .int many] ∧ BagAt H b ∧ 0 < many ∧ many < 1000000 ∧ Ret H Q fun v _ => ∃ i : Int, v = .int i ∧ 0 ≤ i ∧ i < many
/-- the bag, a list that is not empty: one of the list's items -/
def spOne : Sp := fun vs H Q _ => ∃ b l xs, vs = [b, .ref l] ∧ BagAt H b ∧ H l = some (.lst xs) ∧ xs ≠ [] ∧ xs.length < 100000 ∧ Ret H Q fun v _ => v ∈ xs
def spMixed : Sp := fun vs H Q _ => ∃ b l xs, vs = [b, .ref l] ∧ BagAt H b ∧ H l = some (.lst xs) ∧ xs.length < 100000 ∧ Ret H Q fun v H' => ∃ p ys, v = .ref p ∧ H p = none ∧ H' p = some (.lst ys) ∧ ys.Perm xs
def spBagL (K : PySem.W.Frag) : Sp := fun vs H Q _ => ∃ l, ∃ ns : List Int, vs = [.ref l] ∧ SqL K H l (ns.map V.int) ∧ ∀ a C, ∀ ms : List Int, ∀ H', Same H H' → H a = none → H' a = some (bagL 0 1234567891 0 C) → C ≠ a → H' C = some (.lst (ms.map V.int)) → ms.length ≤ 1000 → (∀ n ∈ ms, (0 : Int) ≤ n) → Q (.ref a) H'
def spBagN (K : PySem.W.Frag) : Sp := fun vs H Q _ => ∃ l, ∃ ns : List Int, vs = [.ref l] ∧ SqL K H l (ns.map V.int) ∧ Ret H Q fun v H' => BagAt H' v
section
variable {P : Program} {w : World} {K : PySem.W.Frag} {mg : Str → Option Value} {base : Heap} {f : Addr} {fd : FuncData}
theorem ok_ltakeL (F : FnP K "_law_take" s_law_take f fd) (B : Bt mg) : FnOk P w K mg base CX0 1 f fd ["_law_bag_here", "_law_many"] spTakeL := by
  refine F.ok sc_l_take (fun vs H Q E h => ?_) (fun cdv A outer s H vs Q E hr h => ?_)
  · obtain ⟨a, C, i, j, k, many, ns, rfl, _⟩ := h
    rfl
  · obtain ⟨a, C, i, j, k, many, ns, rfl, ha, hC, hne, hlen, nn, i0, j0, k0, m0, m1, fin⟩ := h
    refine ⟨_, PSs.nox (pss_cons (ps_if (pt_cmpR op_eq (pe_ix ix_list (pv 0) pe_int (fun _ _ => rfl)) pe_int (nomark _)) (pss_cons (ps_set (i := 2) sc_l_take.nd rfl (Or.inl rfl) (pe_ix ix_list (pe_op op_cat (pe_slice sl_list (pe_ix ix_list (pv 0) pe_int (fun _ _ => rfl)) (po_some (pe_ix ix_list (pv 0) pe_int (fun _ _ => rfl))) po_none) (pe_lst (pa_cons pe_int pa_nil))) pe_int (fun _ _ => rfl)))
      (pss_cons (ps_augS (pv 0) pe_int pget_list pe_int ip_add set_list)
      (pss_cons (ps_if (pt_cmpR op_ge (pv 2) (pe_op op_pow pe_int pe_int) (nomark _)) (pss_one (ps_asg (pv 2) (pg_sub (pv 0) pe_int set_list))) pss_nil)
      (pss_cons (ps_set (i := 3) sc_l_take.nd rfl (Or.inl rfl) (pe_op op_add (pe_op op_add (pe_op op_mul (pe_ix ix_list (pv 0) pe_int (fun _ _ => rfl)) pe_int) (pe_op op_mod (pe_callTy call_int1 (by rfl) B.int_ (by decide +kernel) (pa_cons (pv 2) pa_nil)) pe_int)) (pe_op op_mul pe_int (pe_ix ix_list (pv 0) pe_int (fun _ _ => rfl)))))
      (pss_one (ps_asg (pe_op op_mod (pe_callTy call_int1 (by rfl) B.int_ (by decide +kernel) (pa_cons (pv 3) pa_nil)) pe_int) (pg_sub (pv 0) pe_int set_list))))))) pss_nil)
      (pss_cons (ps_if (pt_cmpR op_gt (pe_ix ix_list (pv 0) pe_int (fun _ _ => rfl)) pe_int (nomark _)) (pss_cons (ps_set (i := 4) sc_l_take.nd rfl (Or.inl rfl) (pe_op op_mod (pe_callTy call_int1 (by rfl) B.int_ (by decide +kernel) (pa_cons (pe_ix ix_list (pv 0) pe_int (fun _ _ => rfl)) pa_nil)) (pv 1)))
      (pss_cons (ps_asg (pe_op op_fdiv (pe_callTy call_int1 (by rfl) B.int_ (by decide +kernel) (pa_cons (pe_ix ix_list (pv 0) pe_int (fun _ _ => rfl)) pa_nil)) (pv 1)) (pg_sub (pv 0) pe_int set_list))
      (pss_one (ps_ret (pv 4))))) pss_nil)
      (pss_cons (ps_set (i := 5) sc_l_take.nd rfl (Or.inl rfl) (pe_op op_mod (pe_callTy call_int1 (by rfl) B.int_ (by decide +kernel) (pa_cons (pe_op op_mul (pe_op op_add (pe_ix ix_list (pv 0) pe_int (fun _ _ => rfl)) pe_int) pe_int) pa_nil)) pe_int))
      (pss_cons (ps_set (i := 6) sc_l_take.nd rfl (Or.inl rfl) (pe_op op_mod (pe_callTy call_int1 (by rfl) B.int_ (by decide +kernel) (pa_cons (pe_op op_mul (pe_op op_mod (pe_callTy call_int1 (by rfl) B.int_ (by decide +kernel) (pa_cons (pe_op op_mul (pv 5) (pv 5)) pa_nil)) pe_int) pe_int) pa_nil)) pe_int))
      (pss_one (ps_ret (pe_op op_mod (pe_callTy call_int1 (by rfl) B.int_ (by decide +kernel) (pa_cons (pe_op op_fdiv (pv 6) pe_int) pa_nil)) (pv 1)))))))), ?_⟩
    rw [st_l_take]
    unfold bagL at ha fin
    refine seq_cut (fun σ H' => ∃ o2 o3 i' j' k', σ = [some (V.ref a), some (V.int many), o2, o3, none, none, none] ∧ 0 ≤ i' ∧ 0 ≤ j' ∧ 0 ≤ k' ∧ Oth a H H' ∧ H' a = some (.lst [.int i', .int j', .int k', .ref C])) ?_ ?_
    · rintro σ H1 ⟨o2, o3, i', j', k', rfl, i0', j0', k0', ot, ha1⟩
      refine ⟨_, rfl, a, _, 0, _, rfl, rfl, SqL.of ha1, rfl, _, 0, rfl, rfl, _, rfl, ?_⟩
      by_cases hi : 0 < i'
      · rw [show decide ((0 : Int) < i') = true from decide_eq_true hi]
        refine ⟨_, rfl, a, _, 0, _, rfl, rfl, SqL.of ha1, rfl, .inl ⟨_, rfl, _, rfl, i', many, rfl, rfl, m0, ?_⟩⟩
        refine ⟨_, rfl, a, _, 0, _, rfl, rfl, SqL.of ha1, rfl, .inl ⟨_, rfl, _, rfl, i', many, rfl, rfl, ⟨m0, by omega⟩, ?_⟩⟩
        refine ⟨_, rfl, a, _, 0, 0, rfl, rfl, ha1, rfl, ?_⟩
        refine ⟨_, rfl, fin _ (i' / many) j' k' _ (Int.emod_nonneg _ (by omega)) (Int.emod_lt_of_pos _ m0) (Int.ediv_nonneg i0' (by omega)) j0' k0' (ot.trans oth_upd) upd_same⟩
      · rw [show decide ((0 : Int) < i') = false from decide_eq_false hi]
        refine ⟨_, rfl, a, _, 1, _, rfl, rfl, SqL.of ha1, rfl, j', 1, rfl, rfl, _, 39373, rfl, rfl, .inr (by decide), .inl ⟨_, rfl, _, 1000000007, rfl, rfl, p10, ?_⟩⟩
        refine ⟨_, rfl, _, rfl, (j' + 1) * 39373 % 1000000007, _, rfl, rfl, .inl ⟨by omega, by omega⟩, .inl ⟨_, rfl, _, 998244353, rfl, rfl, p9, _, 30011, rfl, rfl, .inr (by decide), .inl ⟨_, rfl, _, 998244353, rfl, rfl, p9, ?_⟩⟩⟩
        exact ⟨_, rfl, _, 7, rfl, rfl, ⟨by decide, by decide⟩, .inl ⟨_, rfl, _, rfl, _, many, rfl, rfl, m0, fin _ i' j' k' _ (Int.emod_nonneg _ (by omega)) (Int.emod_lt_of_pos _ m0) i0' j0' k0' ot ha1⟩⟩
    · intro tail
      refine ⟨_, rfl, a, _, 0, _, rfl, rfl, SqL.of ha, rfl, rfl, _, rfl, ?_⟩
      by_cases hi : i = 0
      · subst hi
        refine ⟨_, rfl, a, _, 3, _, rfl, rfl, SqL.of ha, rfl, _, rfl, a, _, 2, _, rfl, rfl, SqL.of ha, rfl, k, rfl, ?_⟩
        unfold tNoPart
        refine ⟨C, _, rfl, SqL.of hC, fun p hp => ?_⟩
        have hne' : p ≠ a := fun e => by rw [e, ha] at hp; cases hp
        have hk : cutV (ns.map V.int) (some k) none = (ns.drop k.toNat).map V.int := by
          rw [show k = ((k.toNat : Nat) : Int) by omega, cut_from, ← List.map_drop]
          rfl
        rw [hk]
        refine ⟨sz1, fun q hq => ?_⟩
        have s1 : Same H (upd (upd H p (.lst ((ns.drop k.toNat).map V.int))) q (.lst [.int 0])) := (same_new hp).trans (same_new hq)
        have hl : ((ns.drop k.toNat).map V.int).length + 1 ≤ sizeLine := by
          have hs : 1001 ≤ sizeLine := by decide
          rw [List.length_map, List.length_drop]
          omega
        refine ⟨p, q, _, _, rfl, rfl, same_new hq _ _ upd_same, upd_same, hl, fun r hr => ?_⟩
        have s2 := s1.trans (same_new (o := .lst ((ns.drop k.toNat).map V.int ++ [V.int 0])) hr)
        obtain ⟨c, c0, hc⟩ : ∃ c : Int, 0 ≤ c ∧ ((ns.drop k.toNat).map V.int ++ [V.int 0])[0]? = some (.int c) := by
          cases e : ns.drop k.toNat with
          | nil => exact ⟨0, Int.le_refl _, rfl⟩
          | cons x xs => exact ⟨x, nn x (List.mem_of_mem_drop (i := k.toNat) (by rw [e]; exact List.mem_cons_self ..)), rfl⟩
        refine ⟨r, _, 0, _, rfl, rfl, SqL.of upd_same, atI_nat (j := 0) hc, ?_⟩
        refine ⟨_, rfl, a, _, 2, _, rfl, rfl, SqL.of (s2 _ _ ha), rfl, k, 1, rfl, rfl, a, _, 2, 2, rfl, rfl, s2 _ _ ha, rfl, ?_⟩
        generalize eH : upd (upd (upd (upd H p (.lst ((ns.drop k.toNat).map V.int))) q (.lst [.int 0])) r (.lst ((ns.drop k.toNat).map V.int ++ [V.int 0]))) a (.lst ([V.int 0, V.int j, V.int k, V.ref C].set 2 (V.int (k + 1)))) = H3
        have ot3 : Oth a H H3 := by rw [← eH]; exact (oth_same s2).trans oth_upd
        have ha3 : H3 a = some (.lst [V.int 0, V.int j, V.int (k + 1), V.ref C]) := by rw [← eH]; exact upd_same
        dsimp only
        refine seq_cut (t := tIfS _ _ _) (fun σ H' => ∃ i', σ = [some (V.ref a), some (V.int many), some (V.int c), none, none, none, none] ∧ 0 ≤ i' ∧ Oth a H H' ∧ H' a = some (.lst [.int i', .int j, .int (k + 1), .ref C])) ?_ ?_
        · rintro σ H4 ⟨i', rfl, i0', ot4, ha4⟩
          refine ⟨_, rfl, a, _, 1, _, rfl, rfl, SqL.of ha4, rfl, j, 48271, rfl, rfl, .inr (by decide), _, rfl, .inl ⟨c, rfl, c, 2147483647, rfl, rfl, p2, _, _, rfl, rfl, ?_⟩⟩
          refine ⟨_, rfl, a, _, 2, _, rfl, rfl, SqL.of ha4, rfl, 7919, k + 1, rfl, rfl, .inl (by decide), _, _, rfl, rfl, ?_⟩
          refine ⟨_, rfl, .inl ⟨_, rfl, _, 2147483647, rfl, rfl, p2, ?_⟩⟩
          refine ⟨_, rfl, a, _, 1, 1, rfl, rfl, ha4, rfl, tail _ _ ⟨_, _, i', _, k + 1, rfl, i0', Int.emod_nonneg _ (by decide), by omega, ot4.trans oth_upd, upd_same⟩⟩
        · intro tail2
          refine ⟨_, rfl, 10, 18, rfl, rfl, p1018, c, _, rfl, rfl, _, rfl, ?_⟩
          by_cases hb : (10 : Int) ^ (18 : Int).toNat ≤ c
          · rw [show decide ((10 : Int) ^ (18 : Int).toNat ≤ c) = true from decide_eq_true hb]
            exact ⟨_, rfl, _, rfl, a, _, 0, 0, rfl, rfl, ha3, rfl, tail2 _ _ ⟨c, rfl, c0, ot3.trans oth_upd, upd_same⟩⟩
          · rw [show decide ((10 : Int) ^ (18 : Int).toNat ≤ c) = false from decide_eq_false hb]
            exact tail2 _ _ ⟨0, rfl, Int.le_refl _, ot3, ha3⟩
      · rw [show decide (V.int i = V.int 0) = false from decide_eq_false fun e => hi (V.int.inj e)]
        exact tail _ _ ⟨_, _, i, j, k, rfl, i0, j0, k0, Oth.refl _ _, ha⟩
theorem ok_ltake (F : FnP K "_law_take" s_law_take f fd) (B : Bt mg) : FnOk P w K mg base CX0 1 f fd ["_law_bag_here", "_law_many"] spTake := by
  refine fnOk_bag (ok_ltakeL F B) (fun vs H Q E h => ?_) fun vs H Q E h => ?_
  · obtain ⟨b, many, rfl, _⟩ := h
    rfl
  · obtain ⟨_, many, rfl, ⟨a, C, ns, rfl, ha, hC, hl, nn⟩, m0, m1, k⟩ := h
    have hne : C ≠ a := fun e => by rw [e, ha] at hC; cases hC
    refine ⟨a, C, ha, fun i j l i0 j0 l0 => ⟨a, C, i, j, l, many, ns, rfl, upd_same, by rw [upd_ne hne]; exact hC, hne, hl, nn, i0, j0, l0, m0, m1, fun v i' j' k' H2 v0 v1 i0' j0' k0' ot ha2 => ?_⟩⟩
    refine ⟨i', j', k', i0', j0', k0', ha2, k _ _ (fun b o e => ?_) ⟨v, rfl, v0, v1⟩⟩
    by_cases hb : b = a
    · subst hb
      rw [ha] at e
      cases e
      exact upd_same
    · rw [upd_ne hb]
      exact ot b o hb (by rw [upd_ne hb]; exact e)
theorem ok_lone (F : FnP K "_law_one" s_law_one f fd) (B : Bt mg) (C_l_take : Cl P w K mg base CX0 1 "_law_take" ["_law_bag_here", "_law_many"] spTake) : FnOk P w K mg base CX0 2 f fd ["_law_bag_here", "_law_things"] spOne := by
  refine F.ok sc_l_one (fun vs H Q E h => ?_) (fun cdv A outer s H vs Q E hr h => ?_)
  · obtain ⟨b, l, xs, rfl, _⟩ := h
    rfl
  · obtain ⟨b, l, xs, rfl, hb, hl, hne, hz, k⟩ := h
    refine ⟨_, PSs.nox (pss_one (ps_ret (pe_ix ix_list (pv 1) (pe_c C_l_take hr (by decide) (by rfl) (pa_cons (pv 0) (pa_cons (pe_callB call_len_seq (by rfl) B.len (by decide +kernel) (pa_cons (pv 1) pa_nil)) pa_nil))) (fun _ _ => rfl)))), ?_⟩
    rw [st_l_one]
    have hpos : 0 < xs.length := List.length_pos_iff.mpr hne
    refine ⟨_, rfl, _, rfl, _, rfl, l, xs, rfl, .inl (SqL.of hl), _, _, rfl, hb, by omega, by omega, fun v H1 sm e => ?_⟩
    obtain ⟨i, rfl, i0, i1⟩ := e
    have hi : xs[i.toNat]? = some (xs[i.toNat]'(by omega)) := List.getElem?_eq_getElem (by omega)
    exact ⟨l, xs, i, _, rfl, rfl, SqL.of (sm _ _ hl), atI_get i0 hi, k _ _ sm (List.mem_of_getElem? hi)⟩
theorem paired_ch {α β : Type} {F : α → V} {P : α → Prop} {l : List β} {ys : List V} (pr : Paired (fun (_ : β) y => ∃ x, P x ∧ y = F x) l ys) : ∃ xs : List α, ys = xs.map F ∧ ∀ x ∈ xs, P x := by
  induction pr with
  | nil => exact ⟨[], rfl, by simp⟩
  | cons h t ih =>
    obtain ⟨ms, rfl, hm⟩ := ih
    obtain ⟨n, n0, rfl⟩ := h
    refine ⟨n :: ms, rfl, fun x hx => ?_⟩
    rcases List.mem_cons.mp hx with rfl | hx
    · exact n0
    · exact hm x hx
theorem perm_ins {α : Type} (xs : List α) (i : Nat) (y : α) : (xs.take i ++ [y] ++ xs.drop i).Perm (y :: xs) := by
  have h : (xs.take i ++ y :: xs.drop i).Perm (y :: (xs.take i ++ xs.drop i)) := List.perm_middle
  rw [List.take_append_drop] at h
  rw [List.append_assoc]
  exact h
theorem ok_lmixed (F : FnP K "_law_mixed" s_law_mixed f fd) (B : Bt mg) (C_l_take : Cl P w K mg base CX0 1 "_law_take" ["_law_bag_here", "_law_many"] spTake) : FnOk P w K mg base CX0 2 f fd ["_law_bag_here", "_law_things"] spMixed := by
  refine F.ok sc_l_mixed (fun vs H Q E h => ?_) (fun cdv A outer s H vs Q E hr h => ?_)
  · obtain ⟨b, l, xs, rfl, _⟩ := h
    rfl
  · obtain ⟨b, l, xs, rfl, hb, hl, hz, k⟩ := h
    refine ⟨_, PSs.nox (pss_cons (ps_set (i := 2) sc_l_mixed.nd rfl (Or.inl rfl) (pe_lst pa_nil))
      (pss_cons (ps_for PassesOwn.never rfl (pi_list (pv 1)) (pg_name (i := 3) sc_l_mixed.nd rfl (Or.inl rfl))
        (pss_one (ps_expr (pe_bm PySem.F.plainAttrs_list PySem.F.slot_list_insert PySem.F.type_list_insert mt_insert (pv 2) (pa_cons (pe_c C_l_take hr (by decide) (by rfl) (pa_cons (pv 0) (pa_cons (pe_op op_add (pe_callB call_len_seq (by rfl) B.len (by decide +kernel) (pa_cons (pv 2) pa_nil)) pe_int) pa_nil))) (pa_cons (pv 3) pa_nil))))))
      (pss_one (ps_ret (pv 2))))), ?_⟩
    rw [st_l_mixed]
    refine ⟨Nat.zero_le _, fun p hp => ?_⟩
    refine ⟨_, rfl, l, rfl, ⟨_, SqL.of (same_new hp _ _ hl)⟩, ?_⟩
    refine for_it (walk_list (xs := xs)) (fun i σ H' => ∃ o ys, σ = [some b, some (.ref l), some (.ref p), o] ∧ Same H H' ∧ H' p = some (.lst ys) ∧ ys.Perm (xs.take i)) ?_ ?_ ?_ ?_
    · exact ⟨none, [], rfl, same_new hp, upd_same, List.Perm.refl _⟩
    · rintro i σ H' hi ⟨_, _, _, sm, _⟩
      exact SqL.of (sm _ _ hl)
    · rintro i x σ H1 H2 hi ⟨o, ys, rfl, sm, e1, pm⟩ ⟨rfl, hx⟩
      have ly := pm.length_eq
      rw [List.length_take] at ly
      refine ⟨_, rfl, .inl ⟨rfl, _, SqL.of e1⟩, _, rfl, _, rfl, p, ys, rfl, .inl (SqL.of e1), _, 1, rfl, rfl, _, _, rfl, hb.same sm, by omega, by omega, fun v H3 sm3 e3 => ?_⟩
      obtain ⟨j, rfl, j0, j1⟩ := e3
      have hs : 100000 ≤ sizeLine := by decide
      refine ⟨_, rfl, p, ys, j, x, rfl, rfl, sm3 _ _ e1, by omega, j0, by omega, ?_⟩
      refine ⟨_, _, rfl, same_mut (sm.trans sm3) hp, upd_same, ?_⟩
      refine (perm_ins ys j.toNat x).trans ?_
      rw [List.take_succ, hx]
      exact (pm.cons x).trans (List.perm_append_singleton x _).symm
    · rintro σ H1 ⟨o, ys, rfl, sm, e1, pm⟩
      rw [List.take_length] at pm
      exact ⟨_, rfl, k _ _ sm ⟨p, ys, rfl, hp, e1, pm⟩⟩
theorem ok_lbag (F : FnP K "_law_bag" s_law_bag f fd) (B : Bt mg) : FnOk P w K mg base CX0 1 f fd ["_law_script"] (spBagN K) := by
  have F1 : FnOk P w K mg base CX0 1 f fd ["_law_script"] (spBagL K) := by
    refine F.ok sc_l_bag (fun vs H Q E h => ?_) (fun cdv A outer s H vs Q E hr h => ?_)
    · obtain ⟨l, ns, rfl, _⟩ := h
      rfl
    · obtain ⟨l, ns, rfl, hl, k⟩ := h
      refine ⟨_, PSs.nox (pss_one (ps_ret (pe_lst (pa_cons pe_int (pa_cons pe_int (pa_cons pe_int (pa_cons (pe_lcx (own := [("_law_cell", 1)]) (g := (gName 1)) rfl sc_l_bag.nd (pi_list (pe_slice sl_list (pv 0) po_none (po_some pe_int))) (blkOk_by (own := [("_law_cell", 1)]) (N := N_l_bag) (sc := (defScope s_law_bag)) (by decide +kernel)) (fun _ _ _ _ _ => (pg_name (i := 1) sc_l_bag.nd rfl (Or.inl rfl))) (fun _ _ _ _ _ => pts_nil) (fun _ _ _ _ _ => (pe_callB call_abs (by rfl) B.abs_ (by decide +kernel) (pa_cons (pv 1) pa_nil)))) pa_nil))))))), ?_⟩
      rw [st_l_bag]
      refine ⟨_, rfl, 63, rfl, l, _, rfl, hl, fun p hp => ?_⟩
      rw [show (63 : Int) = ((63 : Nat) : Int) from rfl, cut_to, ← List.map_take]
      refine ⟨p, rfl, ⟨_, SqL.of upd_same⟩, ?_⟩
      refine lcL (SqL.of upd_same) (fun _ => true) (fun q y _ => ∃ n : Int, 0 ≤ n ∧ y = .int n) (fun _ _ _ _ _ h => h) (by simp; omega) (by decide) (fun q x H' hx sm => elt_yes fun Q hQ => ?_) (fun D H1 ys hD sm1 e1 pr => ?_)
      · obtain ⟨n, hn, rfl⟩ := at_map hx
        refine ⟨_, rfl, n, rfl, hQ _ _ (Same.refl _) ⟨_, ?_, rfl⟩⟩
        by_cases h0 : n < 0
        · rw [if_pos h0]
          omega
        · rw [if_neg h0]
          omega
      · rw [filter_true] at pr
        have hys : ∃ ms : List Int, ys = ms.map V.int ∧ ∀ n ∈ ms, 0 ≤ n := by
          exact paired_ch (F := V.int) (P := fun n => 0 ≤ n) pr
        have ly := paired_len pr
        obtain ⟨ms, rfl, hm⟩ := hys
        rw [List.length_range, List.length_map, List.length_map, List.length_take] at ly
        refine ⟨sz4, fun a ha => k a D ms _ (((same_new hp).trans sm1).trans (same_new ha)) ?_ upd_same (fun e => by rw [e, ha] at e1; cases e1) (same_new ha _ _ e1) (by omega) hm⟩
        cases e : H a with
        | none => rfl
        | some o =>
          have z := sm1 _ _ (same_new hp _ _ e)
          rw [ha] at z
          cases z
  refine fnOk_close F1 (fun vs H Q E h => ?_) fun vs H Q E h => ?_
  · obtain ⟨l, ns, rfl, _⟩ := h
    rfl
  · obtain ⟨l, ns, rfl, hl, k⟩ := h
    refine ⟨l, ns, rfl, hl, fun a C ms H2 sm hn ha hne hC hms h0 => ⟨a, C, 0, 1234567891, 0, by decide, by decide, by decide, ha, k _ _ (same_mut sm hn) ⟨a, C, ms, rfl, upd_same, by rw [upd_ne hne]; exact hC, hms, h0⟩⟩⟩
end
end K11

set_option Elab.async false
set_option linter.all false
set_option maxRecDepth 100000
set_option maxHeartbeats 4000000
namespace K11
open PySem PySem.Spec PyProof.Rows L2
abbrev s_law_names : Stmt := top 37
abbrev N_l_names : List Str := ["_law_bag_here", "_law_many", "_law_menu"]
theorem sc_l_names : FnScope N_l_names ["_law_bag_here", "_law_many"] (defScope s_law_names) := ⟨rfl, rfl, rfl, by decide +kernel, rfl, by decide +kernel, by decide +kernel⟩
theorem st_l_names (x0 x1 : V) : L2.start N_l_names [x0, x1] = [some x0, some x1, none] := rfl
abbrev s_law_recipe : Stmt := top 38
abbrev N_l_recipe : List Str := ["_law_bag_here", "_law_size", "_law_hands", "_law_most", "_law_last", "_law_menu", "_law_takes", "_law_puts", "_law_place"]
theorem sc_l_recipe : FnScope N_l_recipe ["_law_bag_here", "_law_size", "_law_hands", "_law_most"] (defScope s_law_recipe) := ⟨rfl, rfl, rfl, by decide +kernel, rfl, by decide +kernel, by decide +kernel⟩
theorem st_l_recipe (x0 x1 x2 x3 : V) : L2.start N_l_recipe [x0, x1, x2, x3] = [some x0, some x1, some x2, some x3, none, none, none, none, none] := rfl
abbrev s_law_out : Stmt := top 39
abbrev N_l_out : List Str := ["_law_bag_here", "_law_size", "_law_place", "_law_hands", "_law_takes"]
theorem sc_l_out : FnScope N_l_out ["_law_bag_here", "_law_size", "_law_place", "_law_hands"] (defScope s_law_out) := ⟨rfl, rfl, rfl, by decide +kernel, rfl, by decide +kernel, by decide +kernel⟩
theorem st_l_out (x0 x1 x2 x3 : V) : L2.start N_l_out [x0, x1, x2, x3] = [some x0, some x1, some x2, some x3, none] := rfl
abbrev s_law_works : Stmt := top 40
abbrev N_l_works : List Str := ["_law_bag_here", "_law_kinds", "_law_hands", "_law_recipes", "_law_names_here", "_law_size", "_law_many", "_law_crew", "_law_found", "_law_most", "_law_turn", "_law_place"]
theorem sc_l_works : FnScope N_l_works ["_law_bag_here", "_law_kinds", "_law_hands", "_law_recipes"] (defScope s_law_works) := ⟨rfl, rfl, rfl, by decide +kernel, rfl, by decide +kernel, by decide +kernel⟩
theorem st_l_works (x0 x1 x2 x3 : V) : L2.start N_l_works [x0, x1, x2, x3] = [some x0, some x1, some x2, some x3, none, none, none, none, none, none, none, none] := rfl
theorem perm_map_inv {α β : Type} {f : α → β} {ys zs : List β} (h : ys.Perm zs) : ∀ {l : List α}, zs = l.map f → ∃ ns : List α, ys = ns.map f ∧ ns.Perm l := by
  induction h with
  | nil =>
    intro l e
    cases l with
    | nil => exact ⟨[], rfl, .refl _⟩
    | cons a b => cases e
  | cons x h ih =>
    intro l e
    cases l with
    | nil => cases e
    | cons a b =>
      rw [List.map_cons] at e
      cases e
      obtain ⟨ns, rfl, p⟩ := ih rfl
      exact ⟨a :: ns, rfl, p.cons a⟩
  | swap x y l' =>
    intro l e
    match l, e with
    | a :: b :: c, e =>
      rw [List.map_cons, List.map_cons] at e
      cases e
      exact ⟨b :: a :: c, rfl, .swap _ _ _⟩
  | trans h1 h2 ih1 ih2 =>
    intro l e
    obtain ⟨ns, e2, p2⟩ := ih2 e
    obtain ⟨ms, e1, p1⟩ := ih1 e2
    exact ⟨ms, e1, p1.trans p2⟩
theorem paired_perm {α β : Type} {F : α → β → Prop} {ys xs : List α} (h : ys.Perm xs) : ∀ {rs : List β}, Paired F xs rs → ∃ ss, Paired F ys ss ∧ ss.Perm rs := by
  induction h with
  | nil =>
    intro rs p
    cases p
    exact ⟨[], .nil, .refl _⟩
  | cons x h ih =>
    intro rs p
    cases p with
    | cons a b =>
      obtain ⟨ss, q, r⟩ := ih b
      exact ⟨_ :: ss, .cons a q, r.cons _⟩
  | swap x y l =>
    intro rs p
    cases p with
    | cons a b =>
      cases b with
      | cons c d => exact ⟨_ :: _ :: _, .cons c (.cons a d), .swap _ _ _⟩
  | trans h1 h2 ih1 ih2 =>
    intro rs p
    obtain ⟨ss, q, r⟩ := ih2 p
    obtain ⟨ts, q2, r2⟩ := ih1 q
    exact ⟨ts, q2, r2.trans r⟩
theorem paired_take {α β : Type} {F : α → β → Prop} : ∀ {xs : List α} {rs : List β} (n : Nat), Paired F xs rs → Paired F (xs.take n) (rs.take n)
  | _, _, 0, _ => by
    rw [List.take_zero, List.take_zero]
    exact .nil
  | _, _, n + 1, .nil => .nil
  | _, _, n + 1, .cons h t => .cons h (paired_take n t)
theorem paired_mem {α β : Type} {F : α → β → Prop} : ∀ {xs : List α} {rs : List β} {x : α}, Paired F xs rs → x ∈ xs → ∃ r, r ∈ rs ∧ F x r
  | _, _, x, .cons h t, m => by
    rcases List.mem_cons.mp m with rfl | m
    · exact ⟨_, List.mem_cons_self .., h⟩
    · obtain ⟨r, h1, h2⟩ := paired_mem t m
      exact ⟨r, List.mem_cons_of_mem _ h1, h2⟩
def menu : List Str := ["a", "b", "c", "d", "ab", "to", "by", "with", "kinds", "hands", "recipe", "run", "places", "arrow", "gym", "jvl", "zzzzzz", "x", "fq"]
theorem menu_nd : menu.Nodup := by decide +kernel
theorem menu_ok : ∀ x ∈ menu, PyData.strOk x = true := by decide +kernel
theorem none_back {H H1 : Hp} {p : Addr} (e : Same H H1) (h : H1 p = none) : H p = none := by
  cases q : H p with
  | none => rfl
  | some o =>
    have := e _ _ q
    rw [h] at this
    cases this
theorem bd_set {l : List Int} {b : Int} {i : Nat} {c : Int} (h : ∀ x ∈ l, 0 ≤ x ∧ x ≤ b) (c0 : 0 ≤ c) (c1 : c ≤ b) : ∀ x ∈ l.set i c, 0 ≤ x ∧ x ≤ b := fun x hx => by
  rcases List.mem_or_eq_of_mem_set hx with q | q
  · exact h x q
  · rw [q]
    exact ⟨c0, c1⟩
def YI : Nat → Hp → V → Hp → Prop := fun i H x H' => H' = H ∧ x = .int (i : Nat)
theorem walk_r0 {n : Nat} : Walk (Itr 0 n) n (fun _ => True) YI := ⟨fun _ _ hi _ => hi, fun _ _ => Nat.le_refl _, fun i H x H' _ _ y => ⟨y.1, by rw [y.2, Int.zero_add]⟩⟩
def spNames : Sp := fun vs H Q _ => ∃ b, vs = [b, .int 8] ∧ BagAt H b ∧ Ret H Q fun v H' => ∃ p, ∃ ns : List Str, v = .ref p ∧ H' p = some (.lst (ns.map V.str)) ∧ ns.length = 8 ∧ ns.Nodup ∧ ∀ x ∈ ns, PyData.strOk x = true
def spRecipe : Sp := fun vs H Q _ => ∃ b h, ∃ n : Nat, ∃ hs : List Str, ∃ most : Int, vs = [b, .int n, h, .int most] ∧ BagAt H b ∧ 1 ≤ n ∧ n ≤ 8 ∧ TupF H h hs ∧ hs.length ≤ 8 ∧ (∀ x ∈ hs, PyData.strOk x = true) ∧ 1 ≤ most ∧ most ≤ 7 ∧
  Ret H Q fun v H' => ∃ r, RecAt H' v r ∧ RcOk n hs r
def spOut : Sp := fun vs H Q _ => ∃ b h, ∃ n : Nat, ∃ hs : List Str, ∃ pl : Nat, vs = [b, .int n, .int pl, h] ∧ BagAt H b ∧ pl < n ∧ n ≤ 8 ∧ TupF H h hs ∧ hs.length ≤ 8 ∧ (∀ x ∈ hs, PyData.strOk x = true) ∧
  Ret H Q fun v H' => ∃ r, RecAt H' v r ∧ RcOk n hs r
def spWorks : Sp := fun vs H Q _ => ∃ b, ∃ k h r : Int, vs = [b, .int k, .int h, .int r] ∧ BagAt H b ∧ 1 ≤ k ∧ k ≤ 4 ∧ 0 ≤ h ∧ h ≤ 3 ∧ 0 ≤ r ∧ r ≤ 7 ∧ Ret H Q fun v H' => ∃ W, WkAt H' v W ∧ WkOk W
theorem ixN_nat {n j : Nat} (h : j < n) : ixN n ((j : Nat) : Int) = some j := by
  unfold ixN
  rw [if_pos (Int.natCast_nonneg j), if_pos (by omega)]
  rfl
theorem ixN_int {n : Nat} {i : Int} (h0 : 0 ≤ i) (h : i < n) : ixN n i = some i.toNat := by
  unfold ixN
  rw [if_pos h0, if_pos h]
theorem line_big : 1000000 ≤ sizeLine := by decide
theorem hand_in {hs : List Str} {m : Nat} {v : V} (h : v ∈ (List.replicate m (hs.map V.str)).flatten ++ [V.non]) : ∃ o : Option Str, v = handV o ∧ ∀ s, o = some s → s ∈ hs := by
  rcases List.mem_append.mp h with q | q
  · obtain ⟨l, hl, hv⟩ := List.mem_flatten.mp q
    rw [List.eq_of_mem_replicate hl] at hv
    obtain ⟨s, hs', rfl⟩ := List.mem_map.mp hv
    exact ⟨some s, rfl, fun t e => by cases e; exact hs'⟩
  · rw [List.mem_singleton.mp q]
    exact ⟨none, rfl, fun t e => nomatch e⟩
theorem flat_len {α : Type} (m : Nat) (l : List α) : (List.replicate m l).flatten.length = m * l.length := by
  induction m with
  | zero => simp
  | succ n ih => rw [List.replicate_succ, List.flatten_cons, List.length_append, ih, Nat.succ_mul, Nat.add_comm]
theorem rep_one {α : Type} (m : Nat) (x : α) : (List.replicate m [x]).flatten = List.replicate m x := by
  induction m with
  | zero => rfl
  | succ n ih => rw [List.replicate_succ, List.flatten_cons, ih, List.replicate_succ]; rfl
theorem rep_map {α β : Type} (f : α → β) (m : Nat) (x : α) : List.replicate m (f x) = (List.replicate m x).map f := by rw [List.map_replicate]
section
variable {P : Program} {w : World} {K : PySem.W.Frag} {mg : Str → Option Value} {base : Heap} {f : Addr} {fd : FuncData}
theorem ok_lnames (F : FnP K "_law_names" s_law_names f fd) (B : Bt mg) (C_l_mixed : Cl P w K mg base CX0 2 "_law_mixed" ["_law_bag_here", "_law_things"] spMixed) : FnOk P w K mg base CX0 3 f fd ["_law_bag_here", "_law_many"] spNames := by
  refine F.ok sc_l_names (fun vs H Q E h => ?_) (fun cdv A outer s H vs Q E hr h => ?_)
  · obtain ⟨b, rfl, _⟩ := h
    rfl
  · obtain ⟨b, rfl, hb, k⟩ := h
    refine ⟨_, PSs.nox (pss_cons (ps_set (i := 2) sc_l_names.nd rfl (Or.inl rfl) (pe_lst (pa_cons pe_str (pa_cons pe_str (pa_cons pe_str (pa_cons pe_str (pa_cons pe_str (pa_cons pe_str (pa_cons pe_str (pa_cons pe_str (pa_cons pe_str (pa_cons pe_str (pa_cons pe_str (pa_cons pe_str (pa_cons pe_str pa_nil)))))))))))))))
      (pss_one (ps_ret (pe_slice sl_list (pe_c C_l_mixed hr (by decide) (by rfl) (pa_cons (pv 0) (pa_cons (pe_op op_cat (pv 2) (pe_lst (pa_cons pe_str (pa_cons pe_str (pa_cons pe_str (pa_cons pe_str (pa_cons pe_str (pa_cons pe_str pa_nil)))))))) pa_nil))) po_none (po_some (pv 1)))))), ?_⟩
    rw [st_l_names]
    have hs := line_big
    refine ⟨by show 13 ≤ sizeLine; omega, fun p hp => ?_⟩
    refine ⟨_, rfl, _, rfl, by show 6 ≤ sizeLine; omega, fun q hq => ?_⟩
    refine ⟨p, q, _, _, rfl, rfl, same_new hq _ _ upd_same, upd_same, by show 19 ≤ sizeLine; omega, fun r hr' => ?_⟩
    have s1 := ((same_new (o := .lst [V.str "a", V.str "b", V.str "c", V.str "d", V.str "ab", V.str "to", V.str "by", V.str "with", V.str "kinds", V.str "hands", V.str "recipe", V.str "run", V.str "places"]) hp).trans (same_new (o := .lst [V.str "arrow", V.str "gym", V.str "jvl", V.str "zzzzzz", V.str "x", V.str "fq"]) hq)).trans (same_new (o := .lst (menu.map V.str)) hr')
    refine ⟨b, r, menu.map V.str, rfl, hb.same s1, upd_same, by show 19 < 100000; omega, fun v H1 sm e => ?_⟩
    obtain ⟨a, ys, rfl, hn, ha, pm⟩ := e
    obtain ⟨ns, rfl, pn⟩ := perm_map_inv pm rfl
    refine ⟨_, rfl, 8, rfl, ?_⟩
    refine ⟨a, _, rfl, SqL.of ha, fun d hd => ?_⟩
    rw [show (8 : Int) = ((8 : Nat) : Int) from rfl, cut_to, ← List.map_take] at *
    refine k _ _ ((s1.trans sm).trans (same_new hd)) ⟨d, ns.take 8, rfl, upd_same, ?_, ?_, fun x hx => ?_⟩
    · rw [List.length_take, pn.length_eq]
      rfl
    · exact ((List.take_sublist 8 ns).nodup (pn.nodup_iff.mpr menu_nd))
    · exact menu_ok x (pn.mem_iff.mp (List.mem_of_mem_take hx))
theorem ok_lrecipe (F : FnP K "_law_recipe" s_law_recipe f fd) (B : Bt mg) (C_l_take : Cl P w K mg base CX0 1 "_law_take" ["_law_bag_here", "_law_many"] spTake) (C_l_one : Cl P w K mg base CX0 2 "_law_one" ["_law_bag_here", "_law_things"] spOne) :
    FnOk P w K mg base CX0 3 f fd ["_law_bag_here", "_law_size", "_law_hands", "_law_most"] spRecipe := by
  refine F.ok sc_l_recipe (fun vs H Q E h => ?_) (fun cdv A outer s H vs Q E hr h => ?_)
  · obtain ⟨b, h, n, hs, most, rfl, _⟩ := h
    rfl
  · obtain ⟨b, _, n, hs, most, rfl, hb, n1, n8, ⟨ph, oh, rfl, hh, hcl, hdn⟩, hl, hok, m1, m8, k⟩ := h
    refine ⟨_, PSs.nox (pss_cons (ps_set (i := 4) sc_l_recipe.nd rfl (Or.inl rfl) (pe_c C_l_take hr (by decide) (by rfl) (pa_cons (pv 0) (pa_cons (pv 1) pa_nil))))
      (pss_cons (ps_par3 (i := 5) (j := 6) (l := 7) rfl sc_l_recipe.nd rfl rfl rfl (by decide) (by decide) (by decide) rfl rfl rfl (pa_cons (pe_lst (pa_cons pe_int (pa_cons pe_int (pa_cons pe_int (pa_cons (pe_op op_add pe_int (pe_c C_l_take hr (by decide) (by rfl) (pa_cons (pv 0) (pa_cons (pv 3) pa_nil)))) pa_nil))))) (pa_cons (pe_op op_rep (pe_lst (pa_cons pe_int pa_nil)) (pv 1)) (pa_cons (pe_op op_rep (pe_lst (pa_cons pe_int pa_nil)) (pv 1)) pa_nil))) (by rfl))
      (pss_cons (ps_for PassesOwn.never rfl (pi_range1 (by rfl) B.range (pa_cons (pv 1) pa_nil)) (pg_name (i := 8) sc_l_recipe.nd rfl (Or.inl rfl))
        (pss_one (ps_if (pt_cmpR op_lt (pv 8) (pv 4) (nomark _)) (pss_one (ps_asg (pe_c C_l_one hr (by decide) (by rfl) (pa_cons (pv 0) (pa_cons (pv 5) pa_nil))) (pg_sub (pv 6) (pv 8) set_list))) (pss_one (ps_if (PW.pt (pw_and (pt_cmpR op_gt (pv 8) (pv 4) (nomark _)) (pw_and1 (pt_cmpR op_eq (pe_c C_l_take hr (by decide) (by rfl) (pa_cons (pv 0) (pa_cons pe_int pa_nil))) pe_int (nomark _))))) (pss_one (ps_asg (pe_c C_l_one hr (by decide) (by rfl) (pa_cons (pv 0) (pa_cons (pv 5) pa_nil))) (pg_sub (pv 7) (pv 8) set_list))) pss_nil)))))
      (pss_cons (ps_asg (pe_c C_l_one hr (by decide) (by rfl) (pa_cons (pv 0) (pa_cons (pe_lst (pa_cons pe_int (pa_cons pe_int (pa_cons pe_int (pa_cons pe_int (pa_cons (pe_op op_add pe_int (pe_c C_l_take hr (by decide) (by rfl) (pa_cons (pv 0) (pa_cons (pv 3) pa_nil)))) pa_nil)))))) pa_nil))) (pg_sub (pv 6) (pv 4) set_list))
      (pss_one (ps_ret (pe_tup (pa_cons (pe_callTy call_tuple_of (by rfl) B.tuple (by decide +kernel) (pa_cons (pv 6) pa_nil)) (pa_cons (pe_callTy call_tuple_of (by rfl) B.tuple (by decide +kernel) (pa_cons (pv 7) pa_nil)) (pa_cons (pe_c C_l_one hr (by decide) (by rfl) (pa_cons (pv 0) (pa_cons (pe_op op_cat (pe_op op_rep (pe_callTy call_list_of (by rfl) B.list (by decide +kernel) (pa_cons (pv 2) pa_nil)) pe_int) (pe_lst (pa_cons pe_non pa_nil))) pa_nil))) pa_nil)))))))))), ?_⟩
    rw [st_l_recipe]
    have big := line_big
    refine ⟨_, rfl, _, rfl, _, _, rfl, hb, by omega, by omega, fun v H1 sm1 e1 => ?_⟩
    obtain ⟨last, rfl, l0, l1⟩ := e1
    refine ⟨_, rfl, _, rfl, _, _, rfl, hb.same sm1, by omega, by omega, fun v H2 sm2 e2 => ?_⟩
    obtain ⟨m, rfl, mm0, mm1⟩ := e2
    refine ⟨1, m, rfl, rfl, sz4, fun p hp => ⟨sz1, fun q hq => ⟨_, rfl, q, n, _, rfl, rfl, upd_same, by omega, by omega, by simp; omega, fun t ht => ⟨sz1, fun q2 hq2 => ⟨_, rfl, q2, n, _, rfl, rfl, upd_same, by omega, by omega, by simp; omega, fun u hu => ⟨_, _, _, rfl, ?_⟩⟩⟩⟩⟩⟩
    have S := sm1.trans sm2
    have Sp := S.trans (same_new (o := .lst [V.int 0, V.int 1, V.int 0, V.int (1 + m)]) hp)
    have Sq := Sp.trans (same_new (o := .lst [V.int 0]) hq)
    have St := Sq.trans (same_new (o := .lst (List.replicate ((n : Nat) : Int).toNat [V.int 0]).flatten) ht)
    have Sq2 := St.trans (same_new (o := .lst [V.int 0]) hq2)
    have Su := Sq2.trans (same_new (o := .lst (List.replicate ((n : Nat) : Int).toNat [V.int 0]).flatten) hu)
    generalize eH : upd (upd (upd (upd (upd H2 p (.lst [V.int 0, V.int 1, V.int 0, V.int (1 + m)])) q (.lst [V.int 0])) t (.lst (List.replicate ((n : Nat) : Int).toNat [V.int 0]).flatten)) q2 (.lst [V.int 0])) u (.lst (List.replicate ((n : Nat) : Int).toNat [V.int 0]).flatten) = H3 at Su
    have fp : H3 p = some (.lst ([0, 1, 0, 1 + m].map V.int)) := by
      rw [← eH]
      exact same_new hu _ _ (same_new hq2 _ _ (same_new ht _ _ (same_new hq _ _ upd_same)))
    have ft : H3 t = some (.lst ((List.replicate n (0 : Int)).map V.int)) := by
      rw [← eH, same_new hu _ _ (same_new hq2 _ _ upd_same), rep_one, Int.toNat_natCast, rep_map V.int]
    have fu : H3 u = some (.lst ((List.replicate n (0 : Int)).map V.int)) := by
      rw [← eH, upd_same, rep_one, Int.toNat_natCast, rep_map V.int]
    have np : H p = none := none_back S hp
    have nt : H t = none := none_back Sq ht
    have nu : H u = none := none_back Sq2 hu
    have pt : p ≠ t := ne_of_none (same_new hq _ _ upd_same) ht
    have pu : p ≠ u := ne_of_none (same_new hq2 _ _ (same_new ht _ _ (same_new hq _ _ upd_same))) hu
    have tu : t ≠ u := ne_of_none (same_new hq2 _ _ upd_same) hu
    clear eH
    refine ⟨_, rfl, _, rfl, by omega, by omega, ?_⟩
    rw [Int.toNat_natCast]
    refine for_it (walk_r0 (n := n)) (fun i σ H' => ∃ o, ∃ ts us : List Int, σ = [some b, some (.int n), some (.ref ph), some (.int most), some (.int last), some (.ref p), some (.ref t), some (.ref u), o] ∧ Same H H' ∧
      H' p = some (.lst ([0, 1, 0, 1 + m].map V.int)) ∧ H' t = some (.lst (ts.map V.int)) ∧ H' u = some (.lst (us.map V.int)) ∧ ts.length = n ∧ us.length = n ∧ (∀ x ∈ ts, (0 : Int) ≤ x ∧ x ≤ 8) ∧ (∀ x ∈ us, (0 : Int) ≤ x ∧ x ≤ 8)) ?_ (fun _ _ _ _ _ => trivial) ?_ ?_
    · exact ⟨none, _, _, rfl, Su, fp, ft, fu, List.length_replicate, List.length_replicate, fun x hx => by rw [List.eq_of_mem_replicate hx]; decide, fun x hx => by rw [List.eq_of_mem_replicate hx]; decide⟩
    · rintro i x σ H4 H5 hi ⟨o, ts, us, rfl, sm, fp, ft, fu, lt, lu, bt, bu⟩ ⟨rfl, rfl⟩
      have one : ∀ (H5 : Hp) (Q5 : VK), Same H H5 → H5 p = some (.lst ([0, 1, 0, 1 + m].map V.int)) → (∀ c H6, 0 ≤ c → c ≤ 8 → Same H5 H6 → Q5 (.int c) H6) → spOne [b, .ref p] H5 Q5 E0 := fun H5 Q5 sm fp kk => by
        refine ⟨b, p, _, rfl, hb.same sm, fp, by simp, by simp, fun v H6 sm6 e6 => ?_⟩
        obtain ⟨c, hc, rfl⟩ := List.mem_map.mp e6
        simp only [List.mem_cons, List.not_mem_nil, or_false] at hc
        exact kk c H6 (by omega) (by omega) sm6
      refine ⟨_, rfl, _, rfl, (i : Nat), last, rfl, rfl, _, rfl, ?_⟩
      by_cases h1 : ((i : Nat) : Int) < last
      · rw [show decide (((i : Nat) : Int) < last) = true from decide_eq_true h1]
        refine ⟨_, rfl, _, rfl, one _ _ sm fp fun c H6 c0 c8 sm6 => ?_⟩
        refine ⟨_, rfl, _, rfl, t, _, (i : Nat), i, rfl, rfl, sm6 _ _ ft, ixN_nat (by rw [List.length_map]; omega), ?_⟩
        refine ⟨_, ts.set i c, us, rfl, same_mut (sm.trans sm6) nt, by rw [upd_ne pt]; exact sm6 _ _ fp, by rw [upd_same, List.map_set], by rw [upd_ne tu.symm]; exact sm6 _ _ fu, by rw [List.length_set]; exact lt, lu, bd_set bt c0 c8, bu⟩
      · rw [show decide (((i : Nat) : Int) < last) = false from decide_eq_false h1]
        refine ⟨_, rfl, _, rfl, (i : Nat), last, rfl, rfl, _, rfl, ?_⟩
        by_cases h2 : last < ((i : Nat) : Int)
        · rw [show decide (last < ((i : Nat) : Int)) = true from decide_eq_true h2]
          refine ⟨_, rfl, _, _, rfl, hb.same sm, by omega, by omega, fun v H6 sm6 e6 => ?_⟩
          obtain ⟨z, rfl, z0, z1⟩ := e6
          refine ⟨rfl, _, rfl, ?_⟩
          by_cases h3 : z = 0
          · rw [show decide (V.int z = V.int 0) = true from decide_eq_true (by rw [h3])]
            refine ⟨_, rfl, _, rfl, one H6 _ (sm.trans sm6) (sm6 _ _ fp) fun c H7 c0 c8 sm7 => ?_⟩
            have s7 := sm6.trans sm7
            refine ⟨_, rfl, _, rfl, u, _, (i : Nat), i, rfl, rfl, s7 _ _ fu, ixN_nat (by rw [List.length_map]; omega), ?_⟩
            refine ⟨_, ts, us.set i c, rfl, same_mut (sm.trans s7) nu, by rw [upd_ne pu]; exact s7 _ _ fp, by rw [upd_ne tu]; exact s7 _ _ ft, by rw [upd_same, List.map_set], lt, by rw [List.length_set]; exact lu, bt, bd_set bu c0 c8⟩
          · rw [show decide (V.int z = V.int 0) = false from decide_eq_false fun e => h3 (V.int.inj e)]
            exact ⟨_, ts, us, rfl, sm.trans sm6, sm6 _ _ fp, sm6 _ _ ft, sm6 _ _ fu, lt, lu, bt, bu⟩
        · rw [show decide (last < ((i : Nat) : Int)) = false from decide_eq_false h2]
          exact ⟨_, ts, us, rfl, sm, fp, ft, fu, lt, lu, bt, bu⟩
    · rintro σ H4 ⟨o, ts, us, rfl, sm, fp, ft, fu, lt, lu, bt, bu⟩
      refine ⟨_, rfl, _, rfl, _, rfl, _, _, rfl, hb.same sm, by omega, by omega, fun v H5 sm5 e5 => ?_⟩
      obtain ⟨m', rfl, m0', m1'⟩ := e5
      refine ⟨1, m', rfl, rfl, by show 5 ≤ sizeLine; omega, fun d hd => ?_⟩
      have s6 := (sm.trans sm5).trans (same_new (o := .lst [V.int 1, V.int 1, V.int 1, V.int 2, V.int (1 + m')]) hd)
      refine ⟨b, d, _, rfl, hb.same s6, upd_same, by simp, by simp, fun v H7 sm7 e7 => ?_⟩
      have hc : ∃ c : Int, v = .int c ∧ 0 ≤ c ∧ c ≤ 8 := by
        simp only [List.mem_cons, List.not_mem_nil, or_false] at e7
        rcases e7 with rfl | rfl | rfl | rfl | rfl
        · exact ⟨_, rfl, by omega, by omega⟩
        · exact ⟨_, rfl, by omega, by omega⟩
        · exact ⟨_, rfl, by omega, by omega⟩
        · exact ⟨_, rfl, by omega, by omega⟩
        · exact ⟨_, rfl, by omega, by omega⟩
      obtain ⟨c, rfl, c0, c8⟩ := hc
      have s45 := (sm5.trans (same_new (o := .lst [V.int 1, V.int 1, V.int 1, V.int 2, V.int (1 + m')]) hd)).trans sm7
      refine ⟨_, rfl, _, rfl, t, _, last, last.toNat, rfl, rfl, s45 _ _ ft, ixN_int l0 (by rw [List.length_map]; omega), ?_⟩
      rw [← List.map_set]
      have S8 : Same H (upd H7 t (.lst ((ts.set last.toNat c).map V.int))) := same_mut (sm.trans s45) nt
      have fu8 : upd H7 t (.lst ((ts.set last.toNat c).map V.int)) u = some (.lst (us.map V.int)) := by
        rw [upd_ne tu.symm]
        exact s45 _ _ fu
      refine ⟨_, rfl, t, _, rfl, .inl ⟨SqL.of upd_same, fun d1 hd1 => ?_⟩⟩
      refine ⟨_, rfl, u, _, rfl, .inl ⟨SqL.of (same_new hd1 _ _ fu8), fun d2 hd2 => ?_⟩⟩
      have S9 := (S8.trans (same_new (o := .tup ((ts.set last.toNat c).map V.int)) hd1)).trans (same_new (o := .tup (us.map V.int)) hd2)
      refine ⟨_, rfl, _, rfl, ph, _, rfl, .inr (.inl (.inr ⟨oh, S9 _ _ hh⟩)), fun l3 hl3 => ?_⟩
      have S10 := S9.trans (same_new (o := .lst (hs.map V.str)) hl3)
      refine ⟨l3, 2, _, rfl, rfl, upd_same, by decide, by decide, by rw [List.length_map]; show _ * 2 ≤ _; omega, fun l4 hl4 => ⟨sz1, fun l5 hl5 => ?_⟩⟩
      have S11 := (S10.trans (same_new (o := .lst (List.replicate (2 : Int).toNat (hs.map V.str)).flatten) hl4)).trans (same_new (o := .lst [V.non]) hl5)
      have fl : (List.replicate (2 : Int).toNat (hs.map V.str)).flatten.length ≤ 16 := by
        rw [flat_len, List.length_map]
        show 2 * _ ≤ 16
        omega
      refine ⟨l4, l5, _, _, rfl, rfl, same_new hl5 _ _ upd_same, upd_same, by simp only [List.length_singleton]; omega, fun l6 hl6 => ?_⟩
      have S12 := S11.trans (same_new (o := .lst ((List.replicate (2 : Int).toNat (hs.map V.str)).flatten ++ [V.non])) hl6)
      refine ⟨b, l6, _, rfl, hb.same S12, upd_same, by simp, by rw [List.length_append, List.length_singleton]; omega, fun v H13 sm13 e13 => ?_⟩
      obtain ⟨h, rfl, hin⟩ := hand_in e13
      refine ⟨sz3, fun a ha => k _ _ ((S12.trans sm13).trans (same_new ha)) ⟨⟨ts.set last.toNat c, us, h⟩, ?_, ?_⟩⟩
      · have T : Same _ (upd H13 a (.tup [V.ref d1, V.ref d2, handV h])) := ((((same_new hl3).trans (same_new hl4)).trans (same_new hl5)).trans (same_new hl6)).trans (sm13.trans (same_new ha))
        exact ⟨a, _, _, rfl, upd_same, ⟨d1, rfl, T _ _ (same_new hd2 _ _ upd_same)⟩, ⟨d2, rfl, T _ _ upd_same⟩⟩
      · exact ⟨by rw [List.length_set]; exact lt, lu, bd_set bt c0 c8, bu, fun s e => ⟨hin s e, hok s (hin s e)⟩⟩
theorem ok_lout (F : FnP K "_law_out" s_law_out f fd) (B : Bt mg) (C_l_one : Cl P w K mg base CX0 2 "_law_one" ["_law_bag_here", "_law_things"] spOne) :
    FnOk P w K mg base CX0 3 f fd ["_law_bag_here", "_law_size", "_law_place", "_law_hands"] spOut := by
  refine F.ok sc_l_out (fun vs H Q E h => ?_) (fun cdv A outer s H vs Q E hr h => ?_)
  · obtain ⟨b, h, n, hs, pl, rfl, _⟩ := h
    rfl
  · obtain ⟨b, _, n, hs, pl, rfl, hb, n1, n8, ⟨ph, oh, rfl, hh, hcl, hdn⟩, hl, hok, k⟩ := h
    refine ⟨_, PSs.nox (pss_cons (ps_set (i := 4) sc_l_out.nd rfl (Or.inl rfl) (pe_op op_rep (pe_lst (pa_cons pe_int pa_nil)) (pv 1)))
      (pss_cons (ps_asg pe_int (pg_sub (pv 4) (pv 2) set_list))
      (pss_one (ps_ret (pe_tup (pa_cons (pe_callTy call_tuple_of (by rfl) B.tuple (by decide +kernel) (pa_cons (pv 4) pa_nil)) (pa_cons (pe_op op_repA (pe_tup (pa_cons pe_int pa_nil)) (pv 1)) (pa_cons (pe_c C_l_one hr (by decide) (by rfl) (pa_cons (pv 0) (pa_cons (pe_op op_cat (pe_op op_rep (pe_callTy call_list_of (by rfl) B.list (by decide +kernel) (pa_cons (pv 3) pa_nil)) pe_int) (pe_lst (pa_cons pe_non pa_nil))) pa_nil))) pa_nil)))))))), ?_⟩
    rw [st_l_out]
    have big := line_big
    refine ⟨sz1, fun q hq => ⟨_, rfl, q, n, _, rfl, rfl, upd_same, by omega, by omega, by simp; omega, fun t ht => ?_⟩⟩
    have nt : H t = none := none_back (same_new hq) ht
    have St := (same_new (o := .lst [V.int 0]) hq).trans (same_new (o := .lst (List.replicate ((n : Nat) : Int).toNat [V.int 0]).flatten) ht)
    refine ⟨_, rfl, _, rfl, t, _, pl, pl, rfl, rfl, upd_same, ixN_nat (by rw [flat_len]; simpa using n1), ?_⟩
    rw [rep_one, Int.toNat_natCast, rep_map V.int, upd_upd, ← List.map_set]
    have S8 : Same H (upd (upd H q (.lst [V.int 0])) t (.lst (((List.replicate n (0 : Int)).set pl 1).map V.int))) := same_mut (same_new hq) nt
    refine ⟨_, rfl, t, _, rfl, .inl ⟨SqL.of upd_same, fun d1 hd1 => ?_⟩⟩
    have S9 := S8.trans (same_new (o := .tup (((List.replicate n (0 : Int)).set pl 1).map V.int)) hd1)
    refine ⟨sz1, fun d0 hd0 => ⟨_, rfl, d0, n, _, rfl, rfl, upd_same, by omega, fun v2 H2 sm2 e2 => ?_⟩⟩
    obtain ⟨d2, rfl, e2⟩ := e2
    have S10 := (S9.trans (same_new (o := .tup [V.int 0]) hd0)).trans sm2
    refine ⟨_, rfl, _, rfl, ph, _, rfl, .inr (.inl (.inr ⟨oh, S10 _ _ hh⟩)), fun l3 hl3 => ?_⟩
    have S11 := S10.trans (same_new (o := .lst (hs.map V.str)) hl3)
    refine ⟨l3, 3, _, rfl, rfl, upd_same, by decide, by decide, by rw [List.length_map]; show _ * 3 ≤ _; omega, fun l4 hl4 => ⟨sz1, fun l5 hl5 => ?_⟩⟩
    have S12 := (S11.trans (same_new (o := .lst (List.replicate (3 : Int).toNat (hs.map V.str)).flatten) hl4)).trans (same_new (o := .lst [V.non]) hl5)
    have fl : (List.replicate (3 : Int).toNat (hs.map V.str)).flatten.length ≤ 24 := by
      rw [flat_len, List.length_map]
      show 3 * _ ≤ 24
      omega
    refine ⟨l4, l5, _, _, rfl, rfl, same_new hl5 _ _ upd_same, upd_same, by simp only [List.length_singleton]; omega, fun l6 hl6 => ?_⟩
    have S13 := S12.trans (same_new (o := .lst ((List.replicate (3 : Int).toNat (hs.map V.str)).flatten ++ [V.non])) hl6)
    refine ⟨b, l6, _, rfl, hb.same S13, upd_same, by simp, by rw [List.length_append, List.length_singleton]; omega, fun v H13 sm13 e13 => ?_⟩
    obtain ⟨h, rfl, hin⟩ := hand_in e13
    refine ⟨sz3, fun a ha => k _ _ ((S13.trans sm13).trans (same_new ha)) ⟨⟨(List.replicate n (0 : Int)).set pl 1, List.replicate n 0, h⟩, ?_, ?_⟩⟩
    · have T : Same H2 (upd H13 a (.tup [V.ref d1, V.ref d2, handV h])) := ((((same_new hl3).trans (same_new hl4)).trans (same_new hl5)).trans (same_new hl6)).trans (sm13.trans (same_new ha))
      exact ⟨a, _, _, rfl, upd_same, ⟨d1, rfl, T _ _ (sm2 _ _ (same_new hd0 _ _ upd_same))⟩, ⟨d2, rfl, by rw [T _ _ e2, rep_map V.int]⟩⟩
    · exact ⟨by rw [List.length_set, List.length_replicate], List.length_replicate, bd_set (fun x hx => by rw [List.eq_of_mem_replicate hx]; decide) (by decide) (by decide), fun x hx => by rw [List.eq_of_mem_replicate hx]; decide, fun s e => ⟨hin s e, hok s (hin s e)⟩⟩
/-- a list of recipes that is being made -/
def RcsAt (n : Nat) (hs : List Str) (m : Nat) (H : Hp) (p : Addr) : Prop := ∃ xs rs, H p = some (.lst xs) ∧ Paired (RecAt H) xs rs ∧ (∀ r ∈ rs, RcOk n hs r) ∧ rs.length ≤ m
theorem RcsAt.same {n : Nat} {hs : List Str} {m : Nat} {H H' : Hp} {p : Addr} (h : RcsAt n hs m H p) (e : Same H H') : RcsAt n hs m H' p := by
  obtain ⟨xs, rs, h1, h2, h3, h4⟩ := h
  exact ⟨xs, rs, e _ _ h1, Paired.mapP h2 fun _ _ q => q.tp (tp_same e), h3, h4⟩
theorem RcsAt.app {n : Nat} {hs : List Str} {m : Nat} {H : Hp} {p : Addr} {v : V} {xs : List V} {rs : List Rc} {r : Rc} (h1 : H p = some (.lst xs)) (h2 : Paired (RecAt H) xs rs) (h3 : ∀ r ∈ rs, RcOk n hs r) (h4 : rs.length ≤ m) (hv : RecAt H v r) (hr : RcOk n hs r) :
    RcsAt n hs (m + 1) (upd H p (.lst (xs ++ [v]))) p :=
  ⟨_, rs ++ [r], upd_same, Paired.snoc (Paired.mapP h2 fun _ _ q => q.tp (tp_lst h1)) (hv.tp (tp_lst h1)), fun x hx => by
    rcases List.mem_append.mp hx with q | q
    · exact h3 x q
    · rw [List.mem_singleton.mp q]
      exact hr, by rw [List.length_append, List.length_singleton]; omega⟩
theorem RcsAt.mono {n : Nat} {hs : List Str} {m m' : Nat} {H : Hp} {p : Addr} (h : RcsAt n hs m H p) (e : m ≤ m') : RcsAt n hs m' H p := by
  obtain ⟨xs, rs, h1, h2, h3, h4⟩ := h
  exact ⟨xs, rs, h1, h2, h3, by omega⟩
theorem ok_lworks (F : FnP K "_law_works" s_law_works f fd) (B : Bt mg) (C_l_take : Cl P w K mg base CX0 1 "_law_take" ["_law_bag_here", "_law_many"] spTake) (C_l_one : Cl P w K mg base CX0 2 "_law_one" ["_law_bag_here", "_law_things"] spOne)
    (C_l_mixed : Cl P w K mg base CX0 2 "_law_mixed" ["_law_bag_here", "_law_things"] spMixed) (C_l_names : Cl P w K mg base CX0 3 "_law_names" ["_law_bag_here", "_law_many"] spNames)
    (C_l_recipe : Cl P w K mg base CX0 3 "_law_recipe" ["_law_bag_here", "_law_size", "_law_hands", "_law_most"] spRecipe) (C_l_out : Cl P w K mg base CX0 3 "_law_out" ["_law_bag_here", "_law_size", "_law_place", "_law_hands"] spOut) :
    FnOk P w K mg base CX0 4 f fd ["_law_bag_here", "_law_kinds", "_law_hands", "_law_recipes"] spWorks := by
  refine F.ok sc_l_works (fun vs H Q E h => ?_) (fun cdv A outer s H vs Q E hr h => ?_)
  · obtain ⟨b, k, h, r, rfl, _⟩ := h
    rfl
  · obtain ⟨b, kk, hh, rr, rfl, hb, k1, k4, h0, h3, r0, r8, k⟩ := h
    refine ⟨_, PSs.nox (pss_cons (ps_par3 (i := 4) (j := 5) (l := 6) rfl sc_l_works.nd rfl rfl rfl (by decide) (by decide) (by decide) rfl rfl rfl (pa_cons (pe_c C_l_names hr (by decide) (by rfl) (pa_cons (pv 0) (pa_cons pe_int pa_nil))) (pa_cons (pe_op op_add pe_int (pe_c C_l_take hr (by decide) (by rfl) (pa_cons (pv 0) (pa_cons (pv 1) pa_nil)))) (pa_cons (pe_c C_l_take hr (by decide) (by rfl) (pa_cons (pv 0) (pa_cons (pe_op op_add (pv 2) pe_int) pa_nil))) pa_nil))) (by rfl))
      (pss_cons (ps_par (i := 7) (j := 8) rfl sc_l_works.nd rfl rfl (by decide) rfl rfl (pa_cons (pe_callTy call_tuple_frz (by rfl) B.tuple (by decide +kernel) (pa_cons (pe_slice sl_list (pv 4) (po_some (pv 5)) (po_some (pe_op op_add (pv 5) (pv 6)))) pa_nil)) (pa_cons (pe_lst pa_nil) pa_nil)) (by rfl))
      (pss_cons (ps_set (i := 9) sc_l_works.nd rfl (Or.inl rfl) (pe_c C_l_one hr (by decide) (by rfl) (pa_cons (pv 0) (pa_cons (pe_lst (pa_cons pe_int (pa_cons pe_int (pa_cons pe_int (pa_cons pe_int pa_nil))))) pa_nil))))
      (pss_cons (ps_for PassesOwn.never rfl (pi_range1 (by rfl) B.range (pa_cons (pe_c C_l_take hr (by decide) (by rfl) (pa_cons (pv 0) (pa_cons (pe_op op_add (pv 3) pe_int) pa_nil))) pa_nil)) (pg_name (i := 10) sc_l_works.nd rfl (Or.inl rfl))
        (pss_one (ps_expr (pe_bm PySem.F.plainAttrs_list PySem.F.slot_list_append PySem.F.type_list_append mt_append (pv 8) (pa_cons (pe_c C_l_recipe hr (by decide) (by rfl) (pa_cons (pv 0) (pa_cons (pv 5) (pa_cons (pv 7) (pa_cons (pv 9) pa_nil))))) pa_nil)))))
      (pss_cons (ps_for PassesOwn.never rfl (pi_range1 (by rfl) B.range (pa_cons (pv 5) pa_nil)) (pg_name (i := 11) sc_l_works.nd rfl (Or.inl rfl))
        (pss_one (ps_if (pt_cmpR op_gt (pe_c C_l_take hr (by decide) (by rfl) (pa_cons (pv 0) (pa_cons pe_int pa_nil))) pe_int (nomark _)) (pss_one (ps_expr (pe_bm PySem.F.plainAttrs_list PySem.F.slot_list_append PySem.F.type_list_append mt_append (pv 8) (pa_cons (pe_c C_l_out hr (by decide) (by rfl) (pa_cons (pv 0) (pa_cons (pv 5) (pa_cons (pv 11) (pa_cons (pv 7) pa_nil))))) pa_nil)))) pss_nil)))
      (pss_cons (ps_if (PW.pt (pw_and (pt_cmpR (op_neD hr.units) (pv 8) (pe_lst pa_nil) (nomark _)) (pw_and1 (pt_cmpR op_eq (pe_c C_l_take hr (by decide) (by rfl) (pa_cons (pv 0) (pa_cons pe_int pa_nil))) pe_int (nomark _))))) (pss_one (ps_expr (pe_bm PySem.F.plainAttrs_list PySem.F.slot_list_append PySem.F.type_list_append mt_append (pv 8) (pa_cons (pe_c C_l_one hr (by decide) (by rfl) (pa_cons (pv 0) (pa_cons (pv 8) pa_nil))) pa_nil)))) pss_nil)
      (pss_one (ps_ret (pe_tup (pa_cons (pe_callTy call_tuple_of (by rfl) B.tuple (by decide +kernel) (pa_cons (pe_slice sl_list (pv 4) po_none (po_some (pv 5))) pa_nil)) (pa_cons (pv 7) (pa_cons (pe_callTy call_tuple_of (by rfl) B.tuple (by decide +kernel) (pa_cons (pe_slice sl_list (pe_c C_l_mixed hr (by decide) (by rfl) (pa_cons (pv 0) (pa_cons (pv 8) pa_nil))) po_none (po_some (pv 3))) pa_nil)) pa_nil)))))))))))), ?_⟩
    rw [st_l_works]
    have big := line_big
    refine ⟨_, rfl, b, rfl, hb, fun v H1 sm1 e1 => ?_⟩
    obtain ⟨pn, ns, rfl, hn, ln, nd, sok⟩ := e1
    refine ⟨_, rfl, _, rfl, _, _, rfl, hb.same sm1, by omega, by omega, fun v H2 sm2 e2 => ?_⟩
    obtain ⟨z, rfl, z0, z1⟩ := e2
    obtain ⟨n', rfl⟩ : ∃ n' : Nat, z = n' := ⟨z.toNat, by omega⟩
    refine ⟨1, _, rfl, rfl, _, rfl, _, rfl, hh, 1, rfl, rfl, _, _, rfl, hb.same (sm1.trans sm2), by omega, by omega, fun v H3 sm3 e3 => ?_⟩
    obtain ⟨m, rfl, m0, m1⟩ := e3
    obtain ⟨mn, rfl⟩ : ∃ mn : Nat, m = mn := ⟨m.toNat, by omega⟩
    have S3 := (sm1.trans sm2).trans sm3
    have S13 := sm2.trans sm3
    refine ⟨_, _, _, rfl, ?_⟩
    dsimp only
    rw [show (1 : Int) + (n' : Int) = ((1 + n' : Nat) : Int) by omega]
    generalize en : 1 + n' = n
    have n1 : 1 ≤ n := by omega
    have n4 : n ≤ 4 := by omega
    refine ⟨_, rfl, _, rfl, n, rfl, _, rfl, _, rfl, n, mn, rfl, rfl, _, rfl, ?_⟩
    refine ⟨pn, _, rfl, SqL.of (S13 _ _ hn), fun t1 ht1 => ?_⟩
    rw [show ((n : Nat) : Int) + ((mn : Nat) : Int) = ((n + mn : Nat) : Int) by omega, cut_mid _ _ _ (by omega) (by rw [List.length_map, ln]; omega), ← List.map_drop, ← List.map_take]
    rw [show n + mn - n = mn by omega]
    generalize eh : (ns.drop n).take mn = hs
    have hsub : hs.Sublist ns := by rw [← eh]; exact (List.take_sublist _ _).trans (List.drop_sublist _ _)
    have hsl : hs.length ≤ 8 := by rw [← ln]; exact hsub.length_le
    have hsok : ∀ x ∈ hs, PyData.strOk x = true := fun x hx => sok x (hsub.mem hx)
    refine ⟨t1, _, rfl, SqL.of upd_same, fun t2 ot ht2 hc hd => ?_⟩
    refine ⟨Nat.zero_le _, fun p hp => ⟨_, _, rfl, ?_⟩⟩
    have S4 := (S3.trans (same_new (o := .lst (hs.map V.str)) ht1)).trans (same_new (o := .frz ot (.tup (hs.map V.str))) ht2)
    have S5 := S4.trans (same_new (o := .lst []) hp)
    have np : H p = none := none_back S4 hp
    have T25 : Same H3 (upd (upd (upd H3 t1 (.lst (hs.map V.str))) t2 (.frz ot (.tup (hs.map V.str)))) p (.lst [])) := ((same_new ht1).trans (same_new ht2)).trans (same_new hp)
    have hfz : TupF (upd (upd (upd H3 t1 (.lst (hs.map V.str))) t2 (.frz ot (.tup (hs.map V.str)))) p (.lst [])) (.ref t2) hs := ⟨t2, ot, rfl, same_new hp _ _ upd_same, hc, hd⟩
    have hpn := T25 _ _ (S13 _ _ hn)
    have hpl : RcsAt n hs 0 (upd (upd (upd H3 t1 (.lst (hs.map V.str))) t2 (.frz ot (.tup (hs.map V.str)))) p (.lst [])) p := ⟨[], [], upd_same, .nil, by simp, Nat.le_refl _⟩
    generalize upd (upd (upd H3 t1 (.lst (hs.map V.str))) t2 (.frz ot (.tup (hs.map V.str)))) p (.lst []) = H5 at S5 hfz hpn hpl
    have pnp : pn ≠ p := ne_of_none ((((same_new ht1).trans (same_new ht2)) _ _ (S13 _ _ hn))) hp
    clear T25
    refine ⟨_, rfl, sz4, fun g hg => ?_⟩
    have Sg := S5.trans (same_new (o := .lst [V.int 1, V.int 2, V.int 2, V.int 4]) hg)
    refine ⟨b, g, _, rfl, hb.same Sg, upd_same, by simp, by simp, fun v H6 sm6 e6 => ?_⟩
    have hm : ∃ most : Int, v = .int most ∧ 1 ≤ most ∧ most ≤ 4 := by
      simp only [List.mem_cons, List.not_mem_nil, or_false] at e6
      rcases e6 with rfl | rfl | rfl | rfl
      · exact ⟨_, rfl, by omega, by omega⟩
      · exact ⟨_, rfl, by omega, by omega⟩
      · exact ⟨_, rfl, by omega, by omega⟩
      · exact ⟨_, rfl, by omega, by omega⟩
    obtain ⟨most, rfl, mo1, mo4⟩ := hm
    have T56 := (same_new (o := .lst [V.int 1, V.int 2, V.int 2, V.int 4]) hg).trans sm6
    refine ⟨_, rfl, _, rfl, rr, 1, rfl, rfl, _, _, rfl, hb.same (S5.trans T56), by omega, by omega, fun v H7 sm7 e7 => ?_⟩
    obtain ⟨tn, rfl, tn0, tn1⟩ := e7
    obtain ⟨nn, rfl⟩ : ∃ nn : Nat, tn = nn := ⟨tn.toNat, by omega⟩
    have T57 := T56.trans sm7
    have S7 := S5.trans T57
    refine ⟨_, rfl, by omega, by omega, ?_⟩
    rw [Int.toNat_natCast]
    refine for_it (walk_r0 (n := nn)) (fun i σ H' => ∃ o o2, σ = [some b, some (.int kk), some (.int hh), some (.int rr), some (.ref pn), some (.int n), some (.int mn), some (.ref t2), some (.ref p), some (.int most), o, o2] ∧ Same H H' ∧
      TupF H' (.ref t2) hs ∧ H' pn = some (.lst (ns.map V.str)) ∧ RcsAt n hs i H' p) ?_ (fun _ _ _ _ _ => trivial) ?_ ?_
    · exact ⟨none, none, rfl, S7, hfz.tp (tp_same T57), T57 _ _ hpn, hpl.same T57⟩
    · rintro i x σ H8 H9 hi ⟨o, o2, rfl, sm, fz, fn, rc⟩ ⟨rfl, rfl⟩
      obtain ⟨xs, rs, q1, q2, q3, q4⟩ := rc
      refine ⟨_, rfl, .inl ⟨rfl, _, SqL.of q1⟩, _, rfl, _, rfl, _, rfl, _, rfl, b, _, n, hs, most, rfl, hb.same sm, n1, by omega, fz, hsl, hsok, mo1, by omega, fun v H10 sm10 e10 => ?_⟩
      obtain ⟨r, e1, e2⟩ := e10
      have lx := paired_len q2
      refine ⟨p, xs, v, rfl, rfl, sm10 _ _ q1, by omega, ?_⟩
      refine ⟨_, o2, rfl, same_mut (sm.trans sm10) np, (fz.tp (tp_same sm10)).tp (tp_lst (sm10 _ _ q1)), by rw [upd_ne pnp]; exact sm10 _ _ fn, ?_⟩
      exact RcsAt.app (sm10 _ _ q1) (Paired.mapP q2 fun _ _ q => q.tp (tp_same sm10)) q3 q4 e1 e2
    · rintro σ H8 ⟨o, o2, rfl, sm, fz, fn, rc⟩
      refine ⟨_, rfl, _, rfl, by omega, by omega, ?_⟩
      rw [Int.toNat_natCast]
      refine for_it (walk_r0 (n := n)) (fun i σ H' => ∃ o o2, σ = [some b, some (.int kk), some (.int hh), some (.int rr), some (.ref pn), some (.int n), some (.int mn), some (.ref t2), some (.ref p), some (.int most), o, o2] ∧ Same H H' ∧
        TupF H' (.ref t2) hs ∧ H' pn = some (.lst (ns.map V.str)) ∧ RcsAt n hs (nn + i) H' p) ?_ (fun _ _ _ _ _ => trivial) ?_ ?_
      · exact ⟨_, _, rfl, sm, fz, fn, rc⟩
      · rintro i x σ H8 H9 hi ⟨o, o2, rfl, sm, fz, fn, rc⟩ ⟨rfl, rfl⟩
        refine ⟨_, rfl, _, _, rfl, hb.same sm, by omega, by omega, fun v H10 sm10 e10 => ?_⟩
        obtain ⟨z, rfl, z0, z4⟩ := e10
        refine ⟨z, 0, rfl, rfl, _, rfl, ?_⟩
        by_cases h1 : 0 < z
        · rw [show decide ((0 : Int) < z) = true from decide_eq_true h1]
          obtain ⟨xs, rs, q1, q2, q3, q4⟩ := rc.same sm10
          refine ⟨_, rfl, .inl ⟨rfl, _, SqL.of q1⟩, _, rfl, _, rfl, _, rfl, _, rfl, b, _, n, hs, i, rfl, hb.same (sm.trans sm10), hi, by omega, fz.tp (tp_same sm10), hsl, hsok, fun v H11 sm11 e11 => ?_⟩
          obtain ⟨r, e1, e2⟩ := e11
          have lx := paired_len q2
          refine ⟨p, xs, v, rfl, rfl, sm11 _ _ q1, by omega, ?_⟩
          refine ⟨_, _, rfl, same_mut ((sm.trans sm10).trans sm11) np, (fz.tp (tp_same (sm10.trans sm11))).tp (tp_lst (sm11 _ _ q1)), by rw [upd_ne pnp]; exact sm11 _ _ (sm10 _ _ fn), ?_⟩
          exact RcsAt.app (sm11 _ _ q1) (Paired.mapP q2 fun _ _ q => q.tp (tp_same sm11)) q3 q4 e1 e2
        · rw [show decide ((0 : Int) < z) = false from decide_eq_false h1]
          exact ⟨_, _, rfl, sm.trans sm10, fz.tp (tp_same sm10), sm10 _ _ fn, (rc.same sm10).mono (by omega)⟩
      · rintro σ H8 ⟨o, o2, rfl, sm, fz, fn, rc⟩
        dsimp only
        refine seq_cut (t := tIfS _ _ _) (fun σ H' => ∃ o o2, σ = [some b, some (.int kk), some (.int hh), some (.int rr), some (.ref pn), some (.int n), some (.int mn), some (.ref t2), some (.ref p), some (.int most), o, o2] ∧ Same H H' ∧
          TupF H' (.ref t2) hs ∧ H' pn = some (.lst (ns.map V.str)) ∧ RcsAt n hs (nn + n + 1) H' p) ?_ ?_
        · rintro σ H9 ⟨o, o2, rfl, sm, fz, fn, xs, rs, q1, q2, q3, q4⟩
          have lx := paired_len q2
          refine ⟨_, rfl, _, rfl, n, rfl, pn, _, rfl, SqL.of fn, fun d1 hd1 => ?_⟩
          rw [cut_to, ← List.map_take]
          have A1 := same_new (o := .lst ((ns.take n).map V.str)) hd1
          refine ⟨d1, _, rfl, .inl ⟨SqL.of upd_same, fun d2 hd2 => ?_⟩⟩
          have A2 := A1.trans (same_new (o := .tup ((ns.take n).map V.str)) hd2)
          refine ⟨_, rfl, _, rfl, _, rfl, b, p, xs, rfl, hb.same (sm.trans A2), A2 _ _ q1, by omega, fun v H10 sm10 e10 => ?_⟩
          obtain ⟨d3, ys, rfl, hn3, e3, pm⟩ := e10
          have A3 := A2.trans sm10
          obtain ⟨ss, p1, p2⟩ := paired_perm pm q2
          obtain ⟨rn, rfl⟩ : ∃ rn : Nat, rr = rn := ⟨rr.toNat, by omega⟩
          refine ⟨_, rfl, rn, rfl, d3, _, rfl, SqL.of e3, fun d4 hd4 => ?_⟩
          rw [cut_to]
          have A4 := A3.trans (same_new (o := .lst (ys.take rn)) hd4)
          refine ⟨d4, _, rfl, .inl ⟨SqL.of upd_same, fun d5 hd5 => ?_⟩⟩
          have A5 := A4.trans (same_new (o := .tup (ys.take rn)) hd5)
          refine ⟨sz3, fun a ha => ?_⟩
          have A6 := A5.trans (same_new (o := .tup [V.ref d2, V.ref t2, V.ref d5]) ha)
          have B2 := ((sm10.trans (same_new (o := .lst (ys.take rn)) hd4)).trans (same_new (o := .tup (ys.take rn)) hd5)).trans (same_new (o := .tup [V.ref d2, V.ref t2, V.ref d5]) ha)
          refine k _ _ (sm.trans A6) ⟨⟨ns.take n, hs, ss.take rn⟩, ⟨a, _, _, _, rfl, upd_same, ⟨d2, rfl, B2 _ _ upd_same⟩, fz.tp (tp_same A6), d5, _, rfl, same_new ha _ _ upd_same, paired_take rn (Paired.mapP p1 fun _ _ q => q.tp (tp_same A6))⟩, ?_⟩
          have lk : (ns.take n).length = n := by rw [List.length_take, ln]; omega
          refine ⟨by show 1 ≤ (ns.take n).length; omega, by show (ns.take n).length ≤ 8; omega, hsl, hsub.nodup nd, ?_, fun r hr => ?_⟩
          · show (ss.take rn).length ≤ 16
            rw [List.length_take]
            omega
          · show RcOk (ns.take n).length hs r
            rw [lk]
            exact q3 r (p2.mem_iff.mp (List.mem_of_mem_take hr))
        · intro tail
          obtain ⟨xs, rs, q1, q2, q3, q4⟩ := rc
          have lx := paired_len q2
          refine ⟨_, rfl, Nat.zero_le _, fun e he => ?_⟩
          have A1 := same_new (o := .lst []) he
          refine rNe_nilL (n := 2) (A1 _ _ q1) (dpAll_paired (F := RecAt (upd H8 e (.lst []))) (fun _ _ q => dp_R q) (Paired.mapP q2 fun _ _ q => q.tp (tp_same A1))) (fun d hd => ?_) (by decide) upd_same ⟨_, rfl, ?_⟩
          · obtain ⟨r, hr, rfl⟩ := List.mem_map.mp hd
            exact lt_R fun s hs' => ((q3 r hr).2.2.2.2 s hs').2
          · cases xs with
            | nil => exact tail _ _ ⟨_, _, rfl, sm.trans A1, fz.tp (tp_same A1), A1 _ _ fn, (RcsAt.same ⟨[], rs, q1, q2, q3, q4⟩ A1).mono (by omega)⟩
            | cons x0 xs0 =>
              refine ⟨_, rfl, _, _, rfl, hb.same (sm.trans A1), by omega, by omega, fun v H10 sm10 e10 => ?_⟩
              obtain ⟨z, rfl, z0, z6⟩ := e10
              refine ⟨rfl, _, rfl, ?_⟩
              have A2 := A1.trans sm10
              by_cases h1 : z = 0
              · rw [show decide (V.int z = V.int 0) = true from decide_eq_true (by rw [h1])]
                refine ⟨_, rfl, .inl ⟨rfl, _, SqL.of (A2 _ _ q1)⟩, _, rfl, _, rfl, b, p, _, rfl, hb.same (sm.trans A2), A2 _ _ q1, by simp, by omega, fun v H11 sm11 e11 => ?_⟩
                have A3 := A2.trans sm11
                obtain ⟨r, hr, er⟩ := paired_mem q2 e11
                refine ⟨p, _, v, rfl, rfl, A3 _ _ q1, by omega, tail _ _ ⟨_, _, rfl, same_mut (sm.trans A3) np, (fz.tp (tp_same A3)).tp (tp_lst (A3 _ _ q1)), by rw [upd_ne pnp]; exact A3 _ _ fn, ?_⟩⟩
                exact RcsAt.app (A3 _ _ q1) (Paired.mapP q2 fun _ _ q => q.tp (tp_same A3)) q3 q4 (er.tp (tp_same A3)) (q3 r hr)
              · rw [show decide (V.int z = V.int 0) = false from decide_eq_false fun e => h1 (V.int.inj e)]
                exact tail _ _ ⟨_, _, rfl, sm.trans A2, fz.tp (tp_same A2), A2 _ _ fn, (RcsAt.same ⟨_, rs, q1, q2, q3, q4⟩ A2).mono (by omega)⟩
end
end K11

set_option Elab.async false
set_option linter.all false
set_option maxRecDepth 100000
set_option maxHeartbeats 4000000
namespace K11
open PySem PySem.Spec PyProof.Rows L2
abbrev s_law_can : Stmt := top 44
abbrev N_l_can : List Str := ["_law_works_here", "_law_heaps", "_law_crew", "_law_index"]
theorem sc_l_can : FnScope N_l_can ["_law_works_here", "_law_heaps", "_law_crew"] (defScope s_law_can) := ⟨rfl, rfl, rfl, by decide +kernel, rfl, by decide +kernel, by decide +kernel⟩
theorem st_l_can (x0 x1 x2 : V) : L2.start N_l_can [x0, x1, x2] = [some x0, some x1, some x2, none] := rfl
abbrev s_law_some_deeds : Stmt := top 45
abbrev N_l_some_deeds : List Str := ["_law_bag_here", "_law_works_here", "_law_heaps", "_law_crew", "_law_most", "_law_found", "_law_turn", "_law_some"]
theorem sc_l_some_deeds : FnScope N_l_some_deeds ["_law_bag_here", "_law_works_here", "_law_heaps", "_law_crew", "_law_most"] (defScope s_law_some_deeds) := ⟨rfl, rfl, rfl, by decide +kernel, rfl, by decide +kernel, by decide +kernel⟩
theorem st_l_some_deeds (x0 x1 x2 x3 x4 : V) : L2.start N_l_some_deeds [x0, x1, x2, x3, x4] = [some x0, some x1, some x2, some x3, some x4, none, none, none] := rfl
abbrev s_law_wants : Stmt := top 46
abbrev N_l_wants : List Str := ["_law_works_here", "_law_counts", "_law_lot", "_law_crew", "_law_many", "_law_takes", "_law_puts", "_law_hand", "_law_place"]
theorem sc_l_wants : FnScope N_l_wants ["_law_works_here", "_law_counts"] (defScope s_law_wants) := ⟨rfl, rfl, rfl, by decide +kernel, rfl, by decide +kernel, by decide +kernel⟩
theorem st_l_wants (x0 x1 : V) : L2.start N_l_wants [x0, x1] = [some x0, some x1, none, none, none, none, none, none, none] := rfl
abbrev s_law_part : Stmt := top 48
abbrev N_l_part : List Str := ["_law_bag_here", "_law_lot", "_law_number"]
theorem sc_l_part : FnScope N_l_part ["_law_bag_here", "_law_lot"] (defScope s_law_part) := ⟨rfl, rfl, rfl, by decide +kernel, rfl, by decide +kernel, by decide +kernel⟩
theorem st_l_part (x0 x1 : V) : L2.start N_l_part [x0, x1] = [some x0, some x1, none] := rfl
def spLCan : Sp := fun vs H Q _ => ∃ w x y W, ∃ s : Sta, vs = [w, x, y] ∧ WkAt H w W ∧ TupI H x s.1 ∧ TupI H y s.2 ∧ WkOk W ∧ StOk W s ∧ Ret H Q fun v H' => ∃ p, ∃ ns : List Int, v = .ref p ∧ H' p = some (.lst (ns.map V.int)) ∧ ns.length ≤ 16 ∧ ∀ i ∈ ns, ∃ t, deed W s i = some t
def spSome : Sp := fun vs H Q _ => ∃ b w x y W, ∃ s : Sta, ∃ most : Int, vs = [b, w, x, y, .int most] ∧ BagAt H b ∧ WkAt H w W ∧ TupI H x s.1 ∧ TupI H y s.2 ∧ WkOk W ∧ StOk W s ∧ 0 ≤ most ∧ most ≤ 100 ∧ Ret H Q fun v H' => ∃ ds t, TupI H' v ds ∧ runD W s ds = some t ∧ ds.length ≤ 100
def spWants : Sp := fun vs H Q _ => ∃ w W l, ∃ cs : List Int, vs = [w, .ref l] ∧ WkAt H w W ∧ WkOk W ∧ H l = some (.lst (cs.map V.int)) ∧ cs.length ≤ 100 ∧ (∀ c ∈ cs, 0 ≤ c) ∧
  Ret H Q fun v H' => ∃ s : Sta, StAt H' v s ∧ s.1.length = W.kinds.length ∧ s.2.length = W.hands.length ∧ ∀ x ∈ s.2, 0 ≤ x
def spPart : Sp := fun vs H Q _ => ∃ b l, ∃ ns : List Int, vs = [b, l] ∧ BagAt H b ∧ TupI H l ns ∧ ns.length ≤ 100 ∧ (∀ n ∈ ns, 0 ≤ n ∧ n ≤ 1000) ∧ Ret H Q fun v H' => ∃ ms : List Int, TupI H' v ms ∧ ms.length = ns.length ∧ ∀ (k : Nat) (m n : Int), ms[k]? = some m → ns[k]? = some n → 0 ≤ m ∧ m ≤ n
theorem getD_deed {W : Wk} {s : Sta} {i : Nat} (h : i < W.recs.length) (e : (deed W s i).isSome = true) : ∃ t, deed W s i = some t := Option.isSome_iff_exists.mp e
section
variable {P : Program} {w : World} {K : PySem.W.Frag} {mg : Str → Option Value} {base : Heap} {f : Addr} {fd : FuncData}
theorem ok_lcan (F : FnP K "_law_can" s_law_can f fd) (B : Bt mg) (C_l_done : Cl P w K mg base CX0 2 "_law_done" ["_law_works_here", "_law_heaps", "_law_crew", "_law_index"] spDeed) : FnOk P w K mg base CX0 3 f fd ["_law_works_here", "_law_heaps", "_law_crew"] spLCan := by
  refine F.ok sc_l_can (fun vs H Q E h => ?_) (fun cdv A outer s H vs Q E hr h => ?_)
  · obtain ⟨w, x, y, W, s, rfl, _⟩ := h
    rfl
  · obtain ⟨w, x, y, W, st, rfl, hw, hx, hy, wk, so, k⟩ := h
    have hw0 := hw
    obtain ⟨aw, xk, xh, _, rfl, ha, hk, hh, ⟨pr, rs, rfl, hr', pp⟩⟩ := hw0
    refine ⟨_, PSs.nox (pss_one (ps_ret (pe_lcx (own := [("_law_index", 3)]) (g := (gName 3)) rfl sc_l_can.nd (pi_range1 (by rfl) B.range (pa_cons (pe_callB call_len_seq (by rfl) B.len (by decide +kernel) (pa_cons (pe_ix ix_tup (pv 0) pe_int (fun _ _ => rfl)) pa_nil)) pa_nil)) (blkOk_by (own := [("_law_index", 3)]) (N := N_l_can) (sc := (defScope s_law_can)) (by decide +kernel)) (fun _ _ _ _ _ => (pg_name (i := 3) sc_l_can.nd rfl (Or.inl rfl))) (fun _ _ _ _ _ => (pts_one (pt_cmpR op_notN (pe_c C_l_done hr (by decide) (by rfl) (pa_cons (pv 0) (pa_cons (pv 1) (pa_cons (pv 2) (pa_cons (pv 3) pa_nil))))) pe_non (nomark _)))) (fun _ _ _ _ _ => (pv 3))))), ?_⟩
    rw [st_l_can]
    have lr := paired_len pp
    have l16 := wk.2.2.2.2.1
    refine ⟨_, rfl, aw, _, 2, _, rfl, rfl, SqT.of ha, rfl, pr, _, rfl, .inr (SqT.of hr'), _, rfl, by omega, by omega, ?_⟩
    rw [Int.toNat_natCast]
    refine lcR (fun i => (deed W st i).isSome) (fun i y _ => y = .int (i : Nat)) (fun _ _ _ _ _ h => h) (by omega) (by decide) (fun i H' hi sm => ?_) (fun D H' ys hD sm eD pr => ?_)
    · intro Kc N hK hN
      rw [Int.zero_add]
      refine ⟨_, rfl, _, rfl, _, rfl, _, rfl, _, _, _, W, st, i, rfl, hw.tp (tp_same sm), hx.tp (tp_same sm), hy.tp (tp_same sm), wk, so, by omega, by omega, fun v H1 sm1 e1 => ?_⟩
      cases ed : deed W st i with
      | none =>
        rw [ed] at e1 hN
        have e1' : v = .non := e1
        subst e1'
        exact ⟨rfl, _, rfl, hN rfl _ sm1⟩
      | some t =>
        rw [ed] at e1 hK
        obtain ⟨a, x', y', rfl, _⟩ := e1
        exact ⟨rfl, _, rfl, _, rfl, hK rfl _ _ sm1 rfl⟩
    · have ey := paired_eq (v := fun i => V.int (i : Nat)) pr
      refine k _ _ sm ⟨D, ((List.range rs.length).filter fun i : Nat => (deed W st (i : Int)).isSome).map (fun i : Nat => (i : Int)), rfl, by rw [eD, ey, List.map_map]; rfl, ?_, fun i hi => ?_⟩
      · rw [List.length_map]
        have := List.length_filter_le (fun i : Nat => (deed W st i).isSome) (List.range rs.length)
        rw [List.length_range] at this
        omega
      · obtain ⟨j, hj, rfl⟩ := List.mem_map.mp hi
        exact Option.isSome_iff_exists.mp (List.mem_filter.mp hj).2
theorem ok_lsome (F : FnP K "_law_some_deeds" s_law_some_deeds f fd) (B : Bt mg) (C_l_done : Cl P w K mg base CX0 2 "_law_done" ["_law_works_here", "_law_heaps", "_law_crew", "_law_index"] spDeed)
    (C_l_can : Cl P w K mg base CX0 3 "_law_can" ["_law_works_here", "_law_heaps", "_law_crew"] spLCan) (C_l_take : Cl P w K mg base CX0 1 "_law_take" ["_law_bag_here", "_law_many"] spTake) (C_l_one : Cl P w K mg base CX0 2 "_law_one" ["_law_bag_here", "_law_things"] spOne) :
    FnOk P w K mg base CX0 4 f fd ["_law_bag_here", "_law_works_here", "_law_heaps", "_law_crew", "_law_most"] spSome := by
  refine F.ok sc_l_some_deeds (fun vs H Q E h => ?_) (fun cdv A outer s H vs Q E hr h => ?_)
  · obtain ⟨b, w, x, y, W, s, most, rfl, _⟩ := h
    rfl
  · obtain ⟨b, w, x, y, W, st, most, rfl, hb, hw, hx, hy, wk, so, m0, m1, k⟩ := h
    refine ⟨_, PSs.nox (pss_cons (ps_set (i := 5) sc_l_some_deeds.nd rfl (Or.inl rfl) (pe_lst pa_nil))
      (pss_cons (ps_for PassesOwn.never rfl (pi_range1 (by rfl) B.range (pa_cons (pe_c C_l_take hr (by decide) (by rfl) (pa_cons (pv 0) (pa_cons (pe_op op_add (pv 4) pe_int) pa_nil))) pa_nil)) (pg_name (i := 6) sc_l_some_deeds.nd rfl (Or.inl rfl))
        (pss_cons (ps_set (i := 7) sc_l_some_deeds.nd rfl (Or.inl rfl) (pe_c C_l_can hr (by decide) (by rfl) (pa_cons (pv 1) (pa_cons (pv 2) (pa_cons (pv 3) pa_nil)))))
      (pss_one (ps_if (pt_cmpR (op_neD hr.units) (pv 7) (pe_lst pa_nil) (nomark _)) (pss_cons (ps_expr (pe_bm PySem.F.plainAttrs_list PySem.F.slot_list_append PySem.F.type_list_append mt_append (pv 5) (pa_cons (pe_c C_l_one hr (by decide) (by rfl) (pa_cons (pv 0) (pa_cons (pv 7) pa_nil))) pa_nil)))
      (pss_one (ps_asg (pe_c C_l_done hr (by decide) (by rfl) (pa_cons (pv 1) (pa_cons (pv 2) (pa_cons (pv 3) (pa_cons (pe_ix ix_list (pv 5) (pe_un un_neg pe_int) (fun _ _ => rfl)) pa_nil))))) (pg_tup rfl (pgs_cons (pg_name (i := 2) sc_l_some_deeds.nd rfl (Or.inl rfl)) (pgs_cons (pg_name (i := 3) sc_l_some_deeds.nd rfl (Or.inl rfl)) pgs_nil)))))) pss_nil))))
      (pss_one (ps_ret (pe_callTy call_tuple_of (by rfl) B.tuple (by decide +kernel) (pa_cons (pv 5) pa_nil)))))), ?_⟩
    rw [st_l_some_deeds]
    have big := line_big
    refine ⟨Nat.zero_le _, fun p hp => ?_⟩
    have A1 := same_new (o := .lst []) hp
    refine ⟨_, rfl, _, rfl, most, 1, rfl, rfl, _, _, rfl, hb.same A1, by omega, by omega, fun v H1 sm1 e1 => ?_⟩
    obtain ⟨tn, rfl, t0, t1⟩ := e1
    obtain ⟨n, rfl⟩ : ∃ n : Nat, tn = n := ⟨tn.toNat, by omega⟩
    refine ⟨_, rfl, by omega, by omega, ?_⟩
    rw [Int.toNat_natCast]
    refine for_it (walk_r0 (n := n)) (fun i σ H' => ∃ hx cx o6 o7 u, ∃ ds : List Int, σ = [some b, some w, some hx, some cx, some (.int most), some (.ref p), o6, o7] ∧ Same H H' ∧ H' p = some (.lst (ds.map V.int)) ∧ ds.length ≤ i ∧ runD W st ds = some u ∧ TupI H' hx u.1 ∧ TupI H' cx u.2) ?_ (fun _ _ _ _ _ => trivial) ?_ ?_
    · exact ⟨x, y, none, none, st, [], rfl, A1.trans sm1, sm1 _ _ upd_same, Nat.le_refl _, rfl, hx.tp (tp_same (A1.trans sm1)), hy.tp (tp_same (A1.trans sm1))⟩
    · rintro i z σ H2 H3 hi ⟨hx, cx, o6, o7, u, ds, rfl, sm, ep, ld, hu, e3, e4⟩ ⟨rfl, rfl⟩
      have su := so.run wk hu
      refine ⟨_, rfl, _, rfl, _, rfl, _, _, _, W, u, rfl, hw.tp (tp_same sm), e3, e4, wk, su, fun v H4 sm4 e => ?_⟩
      obtain ⟨l, ns, rfl, hl, ln, hns⟩ := e
      refine ⟨_, rfl, Nat.zero_le _, fun q hq => ?_⟩
      have A2 := same_new (o := .lst []) hq
      refine rNe_nilL (n := 0) (A2 _ _ hl) (dpAll_ints _) (lt_ints _) (by decide) upd_same ⟨_, rfl, ?_⟩
      have S5 := sm4.trans A2
      cases ns with
      | nil =>
        exact ⟨hx, cx, _, _, u, ds, rfl, sm.trans S5, S5 _ _ ep, by omega, hu, e3.tp (tp_same S5), e4.tp (tp_same S5)⟩
      | cons n0 ns0 =>
        refine ⟨_, rfl, .inl ⟨rfl, _, SqL.of (S5 _ _ ep)⟩, _, rfl, _, rfl, b, l, _, rfl, hb.same (sm.trans S5), A2 _ _ hl, by simp, by rw [List.length_map]; omega, fun v H6 sm6 e6 => ?_⟩
        obtain ⟨d, hd, rfl⟩ := List.mem_map.mp e6
        obtain ⟨t, ht⟩ := hns d hd
        obtain ⟨r, d0, hrec, _⟩ := deed_rec ht
        have hd1 := (List.getElem?_eq_some_iff.mp hrec).1
        have S6 := S5.trans sm6
        refine ⟨p, _, .int d, rfl, rfl, S6 _ _ ep, by rw [List.length_map]; omega, ?_⟩
        have np := hp
        have S7 : Same H (upd H6 p (.lst (ds.map V.int ++ [V.int d]))) := same_mut (sm.trans S6) hp
        have T7 : Tp _ (upd H6 p (.lst (ds.map V.int ++ [V.int d]))) := tp_lst (S6 _ _ ep)
        refine ⟨_, rfl, _, rfl, _, rfl, _, rfl, 1, rfl, p, _, -1, _, rfl, rfl, SqL.of upd_same, atI_last _ _, _, _, _, W, u, d, rfl, hw.tp (tp_same S7), (e3.tp (tp_same S6)).tp T7, (e4.tp (tp_same S6)).tp T7, wk, su, d0, by omega, fun v H8 sm8 e8 => ?_⟩
        rw [ht] at e8
        obtain ⟨a, x', y', rfl, ha, e81, e82⟩ := e8
        refine ⟨a, _, rfl, SqT.of ha, rfl, _, _, rfl, _, _, rfl, rfl, ?_⟩
        refine ⟨x', y', _, _, t, ds ++ [d], rfl, S7.trans sm8, ?_, by rw [List.length_append, List.length_singleton]; omega, by rw [runD_snoc, hu]; exact ht, e81, e82⟩
        rw [sm8 _ _ upd_same, List.map_append]
        rfl
    · rintro σ H2 ⟨hx, cx, o6, o7, u, ds, rfl, sm, ep, ld, hu, e3, e4⟩
      exact ⟨_, rfl, p, _, rfl, .inl ⟨SqL.of ep, fun l hl => k _ _ (sm.trans (same_new hl)) ⟨ds, u, tupI_new rfl, hu, by omega⟩⟩⟩
theorem ok_lpart (F : FnP K "_law_part" s_law_part f fd) (B : Bt mg) (C_l_take : Cl P w K mg base CX0 1 "_law_take" ["_law_bag_here", "_law_many"] spTake) : FnOk P w K mg base CX0 2 f fd ["_law_bag_here", "_law_lot"] spPart := by
  refine F.ok sc_l_part (fun vs H Q E h => ?_) (fun cdv A outer s H vs Q E hr h => ?_)
  · obtain ⟨b, l, ns, rfl, _⟩ := h
    rfl
  · obtain ⟨b, _, ns, rfl, hb, ⟨l, rfl, hl⟩, ln, hn, k⟩ := h
    refine ⟨_, PSs.nox (pss_one (ps_ret (pe_callTy call_tuple_of (by rfl) B.tuple (by decide +kernel) (pa_cons (pe_lcx (own := [("_law_number", 2)]) (g := (gName 2)) rfl sc_l_part.nd (pi_tup (pv 1)) (blkOk_by (own := [("_law_number", 2)]) (N := N_l_part) (sc := (defScope s_law_part)) (by decide +kernel)) (fun _ _ _ _ _ => (pg_name (i := 2) sc_l_part.nd rfl (Or.inl rfl))) (fun _ _ _ _ _ => pts_nil) (fun _ _ _ _ _ => (pe_c C_l_take hr (by decide) (by rfl) (pa_cons (pv 0) (pa_cons (pe_op op_add (pv 2) pe_int) pa_nil))))) pa_nil)))), ?_⟩
    rw [st_l_part]
    refine ⟨_, rfl, l, rfl, ⟨_, SqT.of hl⟩, ?_⟩
    refine lcT (SqT.of hl) (fun _ => true) (fun i y _ => ∃ m : Int, y = .int m ∧ ∀ n : Int, ns[i]? = some n → 0 ≤ m ∧ m ≤ n) (fun _ _ _ _ _ h => h) (by rw [List.length_map]; omega) (by decide) (fun i x H' hx sm => elt_yes fun Q hQ => ?_) (fun D H' ys hD sm eD pr => ?_)
    · obtain ⟨n, hn', rfl⟩ := at_map hx
      have := hn n (List.mem_of_getElem? hn')
      refine ⟨_, rfl, _, rfl, n, 1, rfl, rfl, _, _, rfl, hb.same sm, by omega, by omega, fun v H1 sm1 e1 => ?_⟩
      obtain ⟨m, rfl, m0, m1⟩ := e1
      exact hQ _ _ sm1 ⟨m, rfl, fun n2 h2 => by rw [hn'] at h2; cases h2; omega⟩
    · rw [filter_true, List.length_map] at pr
      have hms : ∃ ms : List Int, ys = ms.map V.int := by
        obtain ⟨ms, h, _⟩ := paired_ch (F := V.int) (P := fun _ => True) (Paired.mapP pr fun i y q => by obtain ⟨m, e, _⟩ := q; exact ⟨m, trivial, e⟩)
        exact ⟨ms, h⟩
      obtain ⟨ms, rfl⟩ := hms
      have lp := paired_len pr
      rw [List.length_range, List.length_map] at lp
      refine ⟨D, _, rfl, .inl ⟨SqL.of eD, fun l2 hl2 => k _ _ (sm.trans (same_new hl2)) ⟨ms, tupI_new rfl, lp.symm, fun j m n hm hn2 => ?_⟩⟩⟩
      have hj := (List.getElem?_eq_some_iff.mp hn2).1
      obtain ⟨y, hy, m', e, q⟩ := paired_getL pr (i := j) (x := j) (by rw [List.getElem?_range hj])
      rw [map_at hm] at hy
      cases hy
      cases e
      exact q n hn2
theorem ok_lwants (F : FnP K "_law_wants" s_law_wants f fd) (B : Bt mg) : FnOk P w K mg base CX0 1 f fd ["_law_works_here", "_law_counts"] spWants := by
  refine F.ok sc_l_wants (fun vs H Q E h => ?_) (fun cdv A outer s H vs Q E hr h => ?_)
  · obtain ⟨w, W, l, cs, rfl, _⟩ := h
    rfl
  · obtain ⟨_, W, l, cs, rfl, ⟨aw, xk, xh, _, rfl, hw, ⟨pk, rfl, hk⟩, ⟨ph, oh, rfl, hh, hcl, hdn⟩, ⟨pr, rs, rfl, hr', pp⟩⟩, wk, hl, lc, c0, k⟩ := h
    refine ⟨_, PSs.nox (pss_cons (ps_par (i := 2) (j := 3) rfl sc_l_wants.nd rfl rfl (by decide) rfl rfl (pa_cons (pe_op op_rep (pe_lst (pa_cons pe_int pa_nil)) (pe_callB call_len_seq (by rfl) B.len (by decide +kernel) (pa_cons (pe_ix ix_tup (pv 0) pe_int (fun _ _ => rfl)) pa_nil))) (pa_cons (pe_op op_rep (pe_lst (pa_cons pe_int pa_nil)) (pe_callB call_len_seq (by rfl) B.len (by decide +kernel) (pa_cons (pe_ix ix_tup (pv 0) pe_int (fun _ _ => rfl)) pa_nil))) pa_nil)) (by rfl))
      (pss_cons (ps_for PassesOwn.never rfl (pi_z2 (by rfl) B.zip (pa_cons (pv 1) (pa_cons (pe_ix ix_tup (pv 0) pe_int (fun _ _ => rfl)) pa_nil))) (pg_tup rfl (pgs_cons (pg_name (i := 4) sc_l_wants.nd rfl (Or.inl rfl)) (pgs_cons (pg_tup rfl (pgs_cons (pg_name (i := 5) sc_l_wants.nd rfl (Or.inl rfl)) (pgs_cons (pg_name (i := 6) sc_l_wants.nd rfl (Or.inl rfl)) (pgs_cons (pg_name (i := 7) sc_l_wants.nd rfl (Or.inl rfl)) pgs_nil)))) pgs_nil)))
        (pss_cons (ps_for PassesOwn.never rfl (pi_range1 (by rfl) B.range (pa_cons (pe_callB call_len_seq (by rfl) B.len (by decide +kernel) (pa_cons (pv 2) pa_nil)) pa_nil)) (pg_name (i := 8) sc_l_wants.nd rfl (Or.inl rfl))
        (pss_one (ps_augS (pv 2) (pv 8) pget_list (pe_op op_mul (pv 4) (pe_op op_sub (pe_ix ix_tup (pv 5) (pv 8) (fun _ _ => rfl)) (pe_ix ix_tup (pv 6) (pv 8) (fun _ _ => rfl)))) ip_add set_list)))
      (pss_one (ps_if (pt_cmpR op_notN (pv 7) pe_non (nomark _)) (pss_one (ps_augS (pv 3) (pe_bmF PySem.F.plainAttrs_tuple PySem.F.slot_tuple_index PySem.F.type_tuple_index mt_tup_index (pe_ix ix_tup (pv 0) pe_int (fun _ _ => rfl)) (pa_cons (pv 7) pa_nil)) pget_list (pv 4) ip_add set_list)) pss_nil))))
      (pss_one (ps_ret (pe_tup (pa_cons (pe_callTy call_tuple_of (by rfl) B.tuple (by decide +kernel) (pa_cons (pv 2) pa_nil)) (pa_cons (pe_callTy call_tuple_of (by rfl) B.tuple (by decide +kernel) (pa_cons (pv 3) pa_nil)) pa_nil))))))), ?_⟩
    rw [st_l_wants]
    have big := line_big
    have k8 := wk.2.1
    have h8 := wk.2.2.1
    have r16 := wk.2.2.2.2.1
    have lr := paired_len pp
    refine ⟨sz1, fun d0 hd0 => ?_⟩
    have A1 := same_new (o := .lst [V.int 0]) hd0
    refine ⟨_, rfl, aw, _, 0, _, rfl, rfl, SqT.of (A1 _ _ hw), rfl, pk, _, rfl, .inr (SqT.of (A1 _ _ hk)), d0, _, _, rfl, rfl, upd_same, by omega, by rw [List.length_map]; omega, by rw [List.length_map, List.length_singleton]; omega, fun p hp => ?_⟩
    rw [rep_one, Int.toNat_natCast, List.length_map, rep_map V.int]
    have A2 := A1.trans (same_new (o := .lst ((List.replicate W.kinds.length (0 : Int)).map V.int)) hp)
    refine ⟨sz1, fun d1 hd1 => ?_⟩
    have A3 := A2.trans (same_new (o := .lst [V.int 0]) hd1)
    refine ⟨_, rfl, aw, _, 1, _, rfl, rfl, SqT.of (A3 _ _ hw), rfl, ph, _, rfl, .inr (.inl (.inr ⟨oh, A3 _ _ hh⟩)), d1, _, _, rfl, rfl, upd_same, by omega, by rw [List.length_map]; omega, by rw [List.length_map, List.length_singleton]; omega, fun q hq => ?_⟩
    rw [rep_one, Int.toNat_natCast, List.length_map, rep_map V.int]
    have A4 := A3.trans (same_new (o := .lst ((List.replicate W.hands.length (0 : Int)).map V.int)) hq)
    have np : H p = none := none_back A1 hp
    have nq : H q = none := none_back A3 hq
    have pq : p ≠ q := ne_of_none (same_new hd1 _ _ upd_same) hq
    refine ⟨_, _, rfl, ?_⟩
    have ep := same_new (o := .lst ((List.replicate W.hands.length (0 : Int)).map V.int)) hq _ _ (same_new (o := .lst [V.int 0]) hd1 _ _ (upd_same (H := upd H d0 (.lst [V.int 0])) (a := p) (o := .lst ((List.replicate W.kinds.length (0 : Int)).map V.int))))
    have eq : upd (upd (upd (upd H d0 (.lst [V.int 0])) p (.lst ((List.replicate W.kinds.length (0 : Int)).map V.int))) d1 (.lst [V.int 0])) q (.lst ((List.replicate W.hands.length (0 : Int)).map V.int)) q = some (.lst ((List.replicate W.hands.length (0 : Int)).map V.int)) := upd_same
    generalize upd (upd (upd (upd H d0 (.lst [V.int 0])) p (.lst ((List.replicate W.kinds.length (0 : Int)).map V.int))) d1 (.lst [V.int 0])) q (.lst ((List.replicate W.hands.length (0 : Int)).map V.int)) = H5 at A4 ep eq
    refine ⟨_, rfl, _, rfl, aw, _, 2, _, rfl, rfl, SqT.of (A4 _ _ hw), rfl, true, false, l, pr, _, _, rfl, src_of_lst (A4 _ _ hl), src_of_tup (A4 _ _ hr'), ?_⟩
    refine for_it (walk_z (k1 := true) (k2 := false) (xs := cs.map V.int) (ys := rs) rfl) (fun i σ H' => ∃ o4 o5 o6 o7 o8, ∃ lots crs : List Int, σ = [some (.ref aw), some (.ref l), some (.ref p), some (.ref q), o4, o5, o6, o7, o8] ∧ Same H H' ∧
      H' p = some (.lst (lots.map V.int)) ∧ H' q = some (.lst (crs.map V.int)) ∧ lots.length = W.kinds.length ∧ crs.length = W.hands.length ∧ ∀ x ∈ crs, 0 ≤ x) ?_ ?_ ?_ ?_
    · exact ⟨_, _, _, _, _, _, _, rfl, A4, ep, eq, List.length_replicate, List.length_replicate, fun x hx => by rw [List.eq_of_mem_replicate hx]; decide⟩
    · rintro i σ H' hi ⟨_, _, _, _, _, _, _, _, sm, _⟩
      exact ⟨src_of_lst (sm _ _ hl), src_of_tup (sm _ _ hr')⟩
    · rintro i T σ H1 H2 hi ⟨o4, o5, o6, o7, o8, lots, crs, rfl, sm, ep, eq, ll, lcr, nn⟩ ⟨T', a, b, rfl, nT, rfl, ha, hb⟩
      obtain ⟨c, hc, rfl⟩ := at_map ha
      obtain ⟨r, hri, ar, xt, xp, rfl, hrr, ⟨pt, rfl, ht⟩, ⟨pu, rfl, hu⟩⟩ := paired_getL pp hb
      obtain ⟨lt, lp, bt, bp, hhs⟩ := wk.2.2.2.2.2 r (List.mem_of_getElem? hri)
      have hc0 := c0 c (List.mem_of_getElem? hc)
      have B1 := same_new (o := .tup [V.int c, V.ref ar]) nT
      have S2 := sm.trans B1
      refine ⟨T', _, rfl, SqT.of upd_same, rfl, _, _, rfl, _, _, rfl, ar, _, rfl, SqT.of (S2 _ _ hrr), rfl, _, _, rfl, _, _, rfl, _, _, rfl, rfl, rfl, ?_⟩
      refine ⟨_, rfl, p, _, rfl, .inl (SqL.of (B1 _ _ ep)), _, rfl, by omega, by rw [List.length_map]; omega, ?_⟩
      rw [Int.toNat_natCast, List.length_map]
      refine for_it (walk_r0 (n := lots.length)) (fun j σ H' => ∃ o8, ∃ lots : List Int, σ = [some (.ref aw), some (.ref l), some (.ref p), some (.ref q), some (.int c), some (.ref pt), some (.ref pu), some (handV r.h), o8] ∧ Same H H' ∧
        H' p = some (.lst (lots.map V.int)) ∧ H' q = some (.lst (crs.map V.int)) ∧ lots.length = W.kinds.length) ?_ (fun _ _ _ _ _ => trivial) ?_ ?_
      · exact ⟨_, lots, rfl, S2, B1 _ _ ep, B1 _ _ eq, ll⟩
      · rintro j x σ H3 H4 hj ⟨o8, lots', rfl, sm, ep, eq, ll'⟩ ⟨rfl, rfl⟩
        have g1 : lots'[j]? = some (lots'[j]'(by omega)) := List.getElem?_eq_getElem (by omega)
        have g2 : r.t[j]? = some (r.t[j]'(by omega)) := List.getElem?_eq_getElem (by omega)
        have g3 : r.p[j]? = some (r.p[j]'(by omega)) := List.getElem?_eq_getElem (by omega)
        have b2 := bt _ (List.mem_of_getElem? g2)
        have b3 := bp _ (List.mem_of_getElem? g3)
        refine ⟨_, rfl, _, rfl, p, _, j, _, rfl, rfl, SqL.of ep, map_at g1, ?_⟩
        refine ⟨_, rfl, _, rfl, _, rfl, pt, _, (j : Nat), _, rfl, rfl, SqT.of (sm _ _ ht), atI_nat (map_at g2), _, rfl, _, rfl, pu, _, (j : Nat), _, rfl, rfl, SqT.of (sm _ _ hu), atI_nat (map_at g3), _, _, rfl, rfl, c, _, rfl, rfl, .inr ⟨by omega, by omega⟩, ?_⟩
        refine ⟨_, _, rfl, rfl, p, _, (j : Nat), j, rfl, rfl, ep, ixN_nat (by rw [List.length_map]; omega), ?_⟩
        rw [← List.map_set]
        exact ⟨_, _, rfl, same_mut sm np, upd_same, by rw [upd_ne pq.symm]; exact eq, by rw [List.length_set]; exact ll'⟩
      · rintro σ H3 ⟨o8, lots', rfl, sm, ep, eq, ll'⟩
        refine ⟨_, rfl, rfl, _, rfl, ?_⟩
        cases eh : r.h with
        | none => exact ⟨_, _, _, _, _, lots', crs, rfl, sm, ep, eq, ll', lcr, nn⟩
        | some z =>
          have hz := (hhs z eh).1
          have hj := List.idxOf_lt_length_of_mem hz
          have hjz : W.hands[W.hands.idxOf z]? = some z := by rw [List.getElem?_eq_getElem hj, List.getElem_idxOf]
          have hno : ∀ m, m < W.hands.idxOf z → W.hands[m]? ≠ some z := fun m hm e => by
            have hm' : m < W.hands.length := by omega
            rw [List.getElem?_eq_getElem hm'] at e
            have := wk.2.2.2.1.idxOf_getElem m hm'
            rw [Option.some.inj e] at this
            omega
          generalize W.hands.idxOf z = j at hj hjz hno
          have g1 : crs[j]? = some (crs[j]'(by omega)) := List.getElem?_eq_getElem (by omega)
          have n1 := nn _ (List.mem_of_getElem? g1)
          refine ⟨_, rfl, _, rfl, aw, _, 1, _, rfl, rfl, SqT.of (sm _ _ hw), rfl, ⟨ph, oh, _, rfl, sm _ _ hh, hcl, hdn⟩, _, rfl, ph, W.hands, z, j, rfl, rfl, .inl (.inr ⟨oh, sm _ _ hh⟩), hjz, hno, q, _, j, _, rfl, rfl, SqL.of eq, map_at g1, ?_⟩
          refine ⟨_, rfl, _, _, rfl, rfl, q, _, (j : Nat), j, rfl, rfl, eq, ixN_nat (by rw [List.length_map]; omega), ?_⟩
          rw [← List.map_set]
          refine ⟨_, _, _, _, _, lots', crs.set j (crs[j]'(by omega) + c), rfl, same_mut sm nq, by rw [upd_ne pq]; exact ep, upd_same, ll', by rw [List.length_set]; exact lcr, fun x hx => ?_⟩
          rcases List.mem_or_eq_of_mem_set hx with e | e
          · exact nn x e
          · omega
    · rintro σ H1 ⟨o4, o5, o6, o7, o8, lots, crs, rfl, sm, ep, eq, ll, lcr, nn⟩
      refine ⟨_, rfl, p, _, rfl, .inl ⟨SqL.of ep, fun e1 h1 => ⟨_, rfl, q, _, rfl, .inl ⟨SqL.of (same_new h1 _ _ eq), fun e2 h2 => ⟨sz2, fun a ha => ?_⟩⟩⟩⟩⟩
      refine k _ _ (((sm.trans (same_new h1)).trans (same_new h2)).trans (same_new ha)) ⟨⟨lots, crs⟩, ⟨a, _, _, rfl, upd_same, ⟨e1, rfl, same_new ha _ _ (same_new h2 _ _ upd_same)⟩, ⟨e2, rfl, same_new ha _ _ upd_same⟩⟩, ll, lcr, nn⟩
end
end K11

set_option Elab.async false
set_option linter.all false
set_option maxRecDepth 100000
set_option maxHeartbeats 4000000
namespace K11
open PySem PySem.Spec PyProof.Rows L2
abbrev s_law_planted : Stmt := top 47
abbrev N_l_planted : List Str := ["_law_bag_here", "_law_works_here", "_law_most", "_law_turn", "_law_counts", "_law_again", "_law_lot", "_law_crew", "_law_bad", "_law_takers", "_law_recipe_here", "_law_place", "_law_k"]
theorem sc_l_planted : FnScope N_l_planted ["_law_bag_here", "_law_works_here", "_law_most"] (defScope s_law_planted) := ⟨rfl, rfl, rfl, by decide +kernel, rfl, by decide +kernel, by decide +kernel⟩
theorem st_l_planted (x0 x1 x2 : V) : L2.start N_l_planted [x0, x1, x2] = [some x0, some x1, some x2, none, none, none, none, none, none, none, none, none, none] := rfl
abbrev s_law_arrow : Stmt := top 49
abbrev N_l_arrow : List Str := ["_law_works_here", "_law_source", "_law_target", "_law_total", "_law_marks", "_law_lot", "_law_crew"]
theorem sc_l_arrow : FnScope N_l_arrow ["_law_works_here", "_law_source", "_law_target", "_law_total", "_law_marks"] (defScope s_law_arrow) := ⟨rfl, rfl, rfl, by decide +kernel, rfl, by decide +kernel, by decide +kernel⟩
theorem st_l_arrow (x0 x1 x2 x3 x4 : V) : L2.start N_l_arrow [x0, x1, x2, x3, x4] = [some x0, some x1, some x2, some x3, some x4, none, none] := rfl
theorem atI0 {α : Type} (x : α) (xs : List α) : atI (x :: xs) 0 = some x := atI_nat (j := 0) rfl
def PlAt (W : Wk) (H : Hp) (v : V) (lots crs : List Int) : Prop := ∃ a x y z, v = .ref a ∧ H a = some (.tup [x, y, z]) ∧ TupI H x lots ∧ TupI H y crs ∧ lots.length = W.kinds.length ∧ crs.length = W.hands.length ∧ Bd 4 lots ∧ Bd 4 crs
def spPlanted : Sp := fun vs H Q _ => ∃ b w W, ∃ most : Int, vs = [b, w, .int most] ∧ BagAt H b ∧ WkAt H w W ∧ WkOk W ∧ 0 ≤ most ∧ most ≤ 100 ∧ Ret H Q fun v H' => ∃ lots crs, PlAt W H' v lots crs
section
variable {P : Program} {w : World} {K : PySem.W.Frag} {mg : Str → Option Value} {base : Heap} {f : Addr} {fd : FuncData}
theorem ok_lplanted (F : FnP K "_law_planted" s_law_planted f fd) (B : Bt mg) (C_l_take : Cl P w K mg base CX0 1 "_law_take" ["_law_bag_here", "_law_many"] spTake) (C_l_one : Cl P w K mg base CX0 2 "_law_one" ["_law_bag_here", "_law_things"] spOne)
    (C_l_wants : Cl P w K mg base CX0 1 "_law_wants" ["_law_works_here", "_law_counts"] spWants) (C_l_nothing : Cl P w K mg base CX0 1 "_law_nothing" ["_law_works_here"] spNo) :
    FnOk P w K mg base CX0 3 f fd ["_law_bag_here", "_law_works_here", "_law_most"] spPlanted := by
  refine F.ok sc_l_planted (fun vs H Q E h => ?_) (fun cdv A outer s H vs Q E hr h => ?_)
  · obtain ⟨b, w, W, most, rfl, _⟩ := h
    rfl
  · obtain ⟨b, w, W, most, rfl, hb, hwk, wk, m0, m1, k⟩ := h
    have hw0 := hwk
    obtain ⟨aw, xk, xh, _, rfl, hw, ⟨pk, rfl, hk⟩, ⟨ph, oh, rfl, hh, hcl, hdn⟩, ⟨pr, rs, rfl, hr', pp⟩⟩ := hw0
    have big := line_big
    have k1 := wk.1
    have k8 := wk.2.1
    have h8 := wk.2.2.1
    have r16 := wk.2.2.2.2.1
    have lr := paired_len pp
    refine ⟨_, PSs.nox (pss_cons (ps_for PassesOwn.never rfl (pi_range1 (by rfl) B.range (pa_cons pe_int pa_nil)) (pg_name (i := 3) sc_l_planted.nd rfl (Or.inl rfl))
        (pss_cons (ps_set (i := 4) sc_l_planted.nd rfl (Or.inr rfl) (pe_lcx (own := [("_law_recipe_here", 10)]) (g := (gName 10)) rfl sc_l_planted.nd (pi_tup (pe_ix ix_tup (pv 1) pe_int (fun _ _ => rfl))) (blkOk_by (own := [("_law_recipe_here", 10)]) (N := N_l_planted) (sc := (defScope s_law_planted)) (by decide +kernel)) (fun _ _ _ _ _ => (pg_name (i := 10) sc_l_planted.nd rfl (Or.inl rfl))) (fun _ _ _ _ _ => pts_nil) (fun _ _ _ _ _ => (pe_c C_l_take hr (by decide) (by rfl) (pa_cons (pv 0) (pa_cons (pe_op op_add (pv 2) pe_int) pa_nil))))))
      (pss_cons (ps_for PassesOwn.never rfl (pi_range1 (by rfl) B.range (pa_cons pe_int pa_nil)) (pg_name (i := 5) sc_l_planted.nd rfl (Or.inl rfl))
        (pss_cons (ps_asg (pe_c C_l_wants hr (by decide) (by rfl) (pa_cons (pv 1) (pa_cons (pv 4) pa_nil))) (pg_tup rfl (pgs_cons (pg_name (i := 6) sc_l_planted.nd rfl (Or.inr rfl)) (pgs_cons (pg_name (i := 7) sc_l_planted.nd rfl (Or.inl rfl)) pgs_nil))))
      (pss_cons (ps_set (i := 8) sc_l_planted.nd rfl (Or.inr rfl) (pe_lcx (own := [("_law_place", 11)]) (g := (gName 11)) rfl sc_l_planted.nd (pi_range1 (by rfl) B.range (pa_cons (pe_callB call_len_seq (by rfl) B.len (by decide +kernel) (pa_cons (pv 6) pa_nil)) pa_nil)) (blkOk_by (own := [("_law_place", 11)]) (N := N_l_planted) (sc := (defScope s_law_planted)) (by decide +kernel)) (fun _ _ _ _ _ => (pg_name (i := 11) sc_l_planted.nd rfl (Or.inl rfl))) (fun _ _ _ _ _ => (pts_one (pt_cmpR op_lt (pe_ix (r := rIxT K) ix_tup (pv 6) (pv 11) (fun _ _ => rfl)) pe_int (nomark _)))) (fun _ _ _ _ _ => (pv 11))))
      (pss_cons (ps_setLcx (i := 9) (own := [("_law_k", 12)]) (g := (gName 12)) rfl sc_l_planted.nd rfl rfl (sw_true rfl rfl rfl (by decide +kernel)) (pi_range1 (by rfl) B.range (pa_cons (pe_callB call_len_seq (by rfl) B.len (by decide +kernel) (pa_cons (pv 4) pa_nil)) pa_nil)) (blkOk_by (own := [("_law_k", 12)]) (N := N_l_planted) (sc := (defScope s_law_planted)) (by decide +kernel)) (fun _ _ _ _ _ => (pg_name (i := 12) sc_l_planted.nd rfl (Or.inl rfl))) (fun _ _ _ _ _ => (pts_one (PW.pt (pw_and (pt_cmpR (r := rNeD K) (op_neD hr.units) (pv 8) (pe_lst pa_nil) (nomark _)) (pw_and1 (pt_cmpR op_gt (pe_ix (r := rIxT K) ix_tup (pe_ix (r := rIxT K) ix_tup (pe_ix (r := rIxT K) ix_tup (pe_ix (r := rIxT K) ix_tup (pv 1) pe_int (fun _ _ => rfl)) (pv 12) (fun _ _ => rfl)) pe_int (fun _ _ => rfl)) (pe_ix (r := rIxL K) ix_list (pv 8) pe_int (fun _ _ => rfl)) (fun _ _ => rfl)) pe_int (nomark _))))))) (fun _ _ _ _ _ => (pv 12)))
      (pss_one (ps_if (pt_cmpR (op_neD hr.units) (pv 9) (pe_lst pa_nil) (nomark _)) (pss_one (ps_augS (pv 4) (pe_c C_l_one hr (by decide) (by rfl) (pa_cons (pv 0) (pa_cons (pv 9) pa_nil))) pget_list pe_int ip_add set_list)) (pss_one (ps_if (pt_cmpR (op_neD hr.units) (pv 8) (pe_lst pa_nil) (nomark _)) (pss_one (ps_set (i := 4) sc_l_planted.nd rfl (Or.inr rfl) (pe_lcx (own := [("_law_k", 12)]) (g := (gName 12)) rfl sc_l_planted.nd (pi_range1 (by rfl) B.range (pa_cons (pe_callB call_len_seq (by rfl) B.len (by decide +kernel) (pa_cons (pv 4) pa_nil)) pa_nil)) (blkOk_by (own := [("_law_k", 12)]) (N := N_l_planted) (sc := (defScope s_law_planted)) (by decide +kernel)) (fun _ _ _ _ _ => (pg_name (i := 12) sc_l_planted.nd rfl (Or.inl rfl))) (fun _ _ _ _ _ => pts_nil) (fun _ _ _ _ _ => (pe_ifExp (pt_cmpR op_gt (pe_ix (r := rIxT K) ix_tup (pe_ix (r := rIxT K) ix_tup (pe_ix (r := rIxT K) ix_tup (pe_ix (r := rIxT K) ix_tup (pv 1) pe_int (fun _ _ => rfl)) (pv 12) (fun _ _ => rfl)) pe_int (fun _ _ => rfl)) (pe_ix (r := rIxL K) ix_list (pv 8) pe_int (fun _ _ => rfl)) (fun _ _ => rfl)) pe_int (nomark _)) pe_int (pe_ix (r := rIxL K) ix_list (pv 4) (pv 12) (fun _ _ => rfl))))))) pss_nil))))))))
      (pss_cons (ps_asg (pe_c C_l_wants hr (by decide) (by rfl) (pa_cons (pv 1) (pa_cons (pv 4) pa_nil))) (pg_tup rfl (pgs_cons (pg_name (i := 6) sc_l_planted.nd rfl (Or.inr rfl)) (pgs_cons (pg_name (i := 7) sc_l_planted.nd rfl (Or.inl rfl)) pgs_nil))))
      (pss_one (ps_if (PW.pt (pw_and (pt_cmpR op_ge (pe_callB (cr_minT rfl) (by rfl) B.min_ (by decide +kernel) (pa_cons (pv 6) pa_nil)) pe_int (nomark _)) (pw_and1 (pt_cmpR op_le (pe_callB (cr_maxT rfl) (by rfl) B.max_ (by decide +kernel) (pa_cons (pe_op op_catA (pv 6) (pv 7)) pa_nil)) pe_int (nomark _))))) (pss_one (ps_ret (pe_tup (pa_cons (pv 6) (pa_cons (pv 7) (pa_cons (pe_callTy call_tuple_of (by rfl) B.tuple (by decide +kernel) (pa_cons (pv 4) pa_nil)) pa_nil)))))) pss_nil))))))
      (pss_one (ps_ret (pe_tup (pa_cons (pe_c C_l_nothing hr (by decide) (by rfl) (pa_cons (pv 1) pa_nil)) (pa_cons (pe_op op_repA (pe_tup (pa_cons pe_int pa_nil)) (pe_callB call_len_seq (by rfl) B.len (by decide +kernel) (pa_cons (pe_ix ix_tup (pv 1) pe_int (fun _ _ => rfl)) pa_nil))) (pa_cons (pe_op op_repA (pe_tup (pa_cons pe_int pa_nil)) (pe_callB call_len_seq (by rfl) B.len (by decide +kernel) (pa_cons (pe_ix ix_tup (pv 1) pe_int (fun _ _ => rfl)) pa_nil))) pa_nil))))))), ?_⟩
    rw [st_l_planted]
    refine ⟨_, rfl, by decide, by decide, ?_⟩
    refine for_it (walk_r0 (n := 6)) (fun i σ H' => ∃ o3 o4 o5 o6 o7 o8 o9 o10 o11 o12, σ = [some b, some (.ref aw), some (.int most), o3, o4, o5, o6, o7, o8, o9, o10, o11, o12] ∧ Same H H') ?_ (fun _ _ _ _ _ => trivial) ?_ ?_
    · exact ⟨_, _, _, _, _, _, _, _, _, _, rfl, Same.refl _⟩
    · rintro i x σ H1 H2 hi ⟨o3, o4, o5, o6, o7, o8, o9, o10, o11, o12, rfl, sm⟩ ⟨rfl, rfl⟩
      refine ⟨_, rfl, aw, _, 2, _, rfl, rfl, SqT.of (sm _ _ hw), rfl, pr, rfl, ⟨_, SqT.of (sm _ _ hr')⟩, ?_⟩
      refine lcT (SqT.of (sm _ _ hr')) (fun _ => true) (fun i y _ => ∃ n : Int, 0 ≤ n ∧ y = .int n) (fun _ _ _ _ _ h => h) (by omega) (by decide) (fun q x H' hx sm2 => elt_yes fun Q hQ => ?_) (fun D H3 ys hD sm3 e3 pr3 => ?_)
      · exact ⟨_, rfl, _, rfl, most, 1, rfl, rfl, _, _, rfl, hb.same (sm.trans sm2), by omega, by omega, fun v H5 sm5 ⟨m, em, m0', m1'⟩ => hQ _ _ sm5 ⟨m, m0', em⟩⟩
      · obtain ⟨cs, rfl, hcs⟩ := paired_ch (F := V.int) (P := fun n => 0 ≤ n) pr3
        have lcs := paired_len pr3
        rw [filter_true, List.length_range, List.length_map] at lcs
        have hDn : H D = none := none_back sm hD
        refine ⟨_, rfl, by decide, by decide, ?_⟩
        refine for_it (walk_r0 (n := 12)) (fun j σ H' => ∃ o5 o6 o7 o8 o9 o10 o11 o12 pc, ∃ cs : List Int, σ = [some b, some (.ref aw), some (.int most), some (.int (i : Nat)), some (.ref pc), o5, o6, o7, o8, o9, o10, o11, o12] ∧ Same H H' ∧ H pc = none ∧
          H' pc = some (.lst (cs.map V.int)) ∧ cs.length = W.recs.length ∧ ∀ c ∈ cs, 0 ≤ c) ?_ (fun _ _ _ _ _ => trivial) ?_ ?_
        · exact ⟨_, _, _, _, _, _, _, _, D, cs, rfl, sm.trans sm3, hDn, e3, by omega, hcs⟩
        · clear e3 pr3 hcs lcs hDn hD
          rintro j x σ H4 H5 hj ⟨o5, o6, o7, o8, o9, o10, o11, o12, pc, cs, rfl, sm, npc, hc, lc, hcs⟩ ⟨rfl, rfl⟩
          refine ⟨_, rfl, _, rfl, _, W, pc, cs, rfl, hwk.tp (tp_same sm), wk, hc, by omega, hcs, fun v H6 sm6 e6 => ?_⟩
          obtain ⟨s, ⟨a, _, y, rfl, ha, ⟨px, rfl, hx⟩, hy⟩, l1, l2, n2⟩ := e6
          refine ⟨a, _, rfl, SqT.of ha, rfl, _, _, rfl, _, _, rfl, rfl, ?_⟩
          refine ⟨_, rfl, px, _, rfl, .inr (SqT.of hx), _, rfl, by omega, by rw [List.length_map]; omega, ?_⟩
          rw [Int.toNat_natCast, List.length_map]
          refine lcR (fun i => decide (s.1.getD i 0 < 0)) (fun i y _ => y = .int (i : Nat)) (fun _ _ _ _ _ h => h) (by omega) (by decide) (fun i H' hi sm => ?_) (fun D H7 ys hD sm7 e7 pr7 => ?_)
          · intro Kc N hK hN
            rw [Int.zero_add]
            have g1 : s.1[i]? = some (s.1.getD i 0) := by rw [List.getD_eq_getElem?_getD, List.getElem?_eq_getElem (by omega)]; rfl
            refine ⟨_, rfl, _, rfl, px, _, (i : Nat), _, rfl, rfl, SqT.of (sm _ _ hx), atI_nat (map_at g1), _, 0, rfl, rfl, _, rfl, ?_⟩
            generalize s.1.getD i 0 = c at hK hN
            by_cases h1 : c < 0
            · rw [decide_eq_true h1]
              exact ⟨_, rfl, hK (decide_eq_true h1) _ _ (Same.refl _) rfl⟩
            · rw [decide_eq_false h1]
              exact hN (decide_eq_false h1) _ (Same.refl _)
          · have ey := paired_eq (v := fun i => V.int (i : Nat)) pr7
            have hbad : ∃ bads : List Int, ys = bads.map V.int ∧ ∀ x ∈ bads, 0 ≤ x ∧ x < W.kinds.length := by
              refine ⟨((List.range s.1.length).filter fun i : Nat => decide (s.1.getD i 0 < 0)).map (fun i : Nat => (i : Int)), by rw [ey, List.map_map]; rfl, fun x hx => ?_⟩
              obtain ⟨n, hn, rfl⟩ := List.mem_map.mp hx
              have := List.mem_range.mp (List.mem_filter.mp hn).1
              omega
            obtain ⟨bads, rfl, hbads⟩ := hbad
            clear ey pr7
            have S7 := (sm.trans sm6).trans sm7
            have S67 := sm6.trans sm7
            refine ⟨_, rfl, pc, _, rfl, .inl (SqL.of (S67 _ _ hc)), _, rfl, by omega, by rw [List.length_map]; omega, ?_⟩
            rw [Int.toNat_natCast, List.length_map]
            refine lcR (fun i => match W.recs[i]? with | some r => !bads.isEmpty && decide (0 < r.t.getD (bads.headD 0).toNat 0) | none => false) (fun i y _ => y = .int (i : Nat)) (fun _ _ _ _ _ h => h) (by omega) (by decide) (fun i H' hi sm8 => ?_) (fun D2 H8 ys hD2 sm8 e8 pr8 => ?_)
            · intro Kc N hK hN
              rw [Int.zero_add]
              have hrec : W.recs[i]? = some (W.recs[i]'(by omega)) := List.getElem?_eq_getElem (by omega)
              generalize (W.recs[i]'(by omega)) = r at hrec
              rw [hrec] at hK hN
              obtain ⟨vr, hvr, ar, xt, xp, rfl, hrr, ⟨pt, rfl, ht⟩, ⟨pu, rfl, hu⟩⟩ := paired_get pp hrec
              obtain ⟨lt, lp, bt, bp, hhs⟩ := wk.2.2.2.2.2 r (List.mem_of_getElem? hrec)
              have S8 := S7.trans sm8
              refine ⟨_, rfl, Nat.zero_le _, fun e he => ?_⟩
              have A1 := same_new (o := .lst []) he
              refine rNe_nilL (n := 0) (A1 _ _ (sm8 _ _ e7)) (dpAll_ints _) (lt_ints _) (by decide) upd_same ⟨_, rfl, ?_⟩
              cases bads with
              | nil => exact hN rfl _ A1
              | cons b0 bs =>
                have hb0 := hbads b0 (List.mem_cons_self ..)
                have g1 : r.t[b0.toNat]? = some (r.t.getD b0.toNat 0) := by rw [List.getD_eq_getElem?_getD, List.getElem?_eq_getElem (by omega)]; rfl
                have S9 := S8.trans A1
                refine ⟨_, rfl, aw, _, 2, _, rfl, rfl, SqT.of (S9 _ _ hw), rfl, _, rfl, pr, _, (i : Nat), _, rfl, rfl, SqT.of (S9 _ _ hr'), atI_nat hvr, ar, _, 0, _, rfl, rfl, SqT.of (S9 _ _ hrr), rfl, _, rfl, D, _, 0, _, rfl, rfl, SqL.of (A1 _ _ (sm8 _ _ e7)), atI0 _ _, pt, _, b0, _, rfl, rfl, SqT.of (S9 _ _ ht), atI_get hb0.1 (map_at g1), _, 0, rfl, rfl, _, rfl, ?_⟩
                have hK' : decide (0 < r.t.getD b0.toNat 0) = true → ∀ y H4, Same H' H4 → y = V.int (i : Nat) → Kc y H4 := hK
                have hN' : decide (0 < r.t.getD b0.toNat 0) = false → ∀ H4, Same H' H4 → N H4 := hN
                generalize r.t.getD b0.toNat 0 = c at hK' hN'
                by_cases h1 : 0 < c
                · rw [decide_eq_true h1]
                  exact ⟨_, rfl, hK' (decide_eq_true h1) _ _ A1 rfl⟩
                · rw [decide_eq_false h1]
                  exact hN' (decide_eq_false h1) _ A1
            · have ey := paired_eq (v := fun i => V.int (i : Nat)) pr8
              have htk : ∃ tks : List Int, ys = tks.map V.int ∧ tks.length ≤ 16 ∧ ∀ x ∈ tks, 0 ≤ x ∧ x < W.recs.length := by
                refine ⟨((List.range cs.length).filter _).map (fun i : Nat => (i : Int)), by rw [ey, List.map_map]; rfl, ?_, fun x hx => ?_⟩
                · rw [List.length_map]
                  refine Nat.le_trans (List.length_filter_le _ _) ?_
                  rw [List.length_range]
                  omega
                · obtain ⟨n, hn, rfl⟩ := List.mem_map.mp hx
                  have := List.mem_range.mp (List.mem_filter.mp hn).1
                  omega
              obtain ⟨tks, rfl, ltk, htks⟩ := htk
              clear ey pr8
              have S8 := S7.trans sm8
              have S68 := S67.trans sm8
              refine ⟨_, rfl, Nat.zero_le _, fun e he => ?_⟩
              have A1 := same_new (o := .lst []) he
              refine rNe_nilL (n := 0) (A1 _ _ e8) (dpAll_ints _) (lt_ints _) (by decide) upd_same ⟨_, rfl, ?_⟩
              have S9 := S8.trans A1
              have S69 := S68.trans A1
              cases tks with
              | cons t0 ts =>
                refine ⟨_, rfl, _, rfl, _, rfl, b, D2, _, rfl, hb.same S9, A1 _ _ e8, by simp, by rw [List.length_map]; omega, fun v H10 sm10 e10 => ?_⟩
                obtain ⟨t, ht, rfl⟩ := List.mem_map.mp e10
                have ht2 := htks t ht
                obtain ⟨tn, rfl⟩ : ∃ tn : Nat, t = tn := ⟨t.toNat, by omega⟩
                have g1 : cs[tn]? = some (cs[tn]'(by omega)) := List.getElem?_eq_getElem (by omega)
                have S6A := S69.trans sm10
                refine ⟨pc, _, tn, _, rfl, rfl, SqL.of (S6A _ _ hc), map_at g1, _, 1, rfl, rfl, pc, _, (tn : Nat), tn, rfl, rfl, S6A _ _ hc, ixN_nat (by rw [List.length_map]; omega), ?_⟩
                rw [← List.map_set]
                refine ⟨_, _, _, _, _, _, _, _, pc, _, rfl, same_mut (S9.trans sm10) npc, npc, upd_same, by rw [List.length_set]; exact lc, fun x hx => ?_⟩
                rcases List.mem_or_eq_of_mem_set hx with e | e
                · exact hcs x e
                · have := hcs _ (List.mem_of_getElem? g1)
                  have e : x = cs[tn]'(by omega) + 1 := e
                  omega
              | nil =>
                refine ⟨_, rfl, Nat.zero_le _, fun e2 he2 => ?_⟩
                have A2 := same_new (o := .lst []) he2
                refine rNe_nilL (n := 0) (A2 _ _ (A1 _ _ (sm8 _ _ e7))) (dpAll_ints _) (lt_ints _) (by decide) upd_same ⟨_, rfl, ?_⟩
                have S10 := S9.trans A2
                have S6A := S69.trans A2
                cases bads with
                | nil => exact ⟨_, _, _, _, _, _, _, _, pc, cs, rfl, S10, npc, S6A _ _ hc, lc, hcs⟩
                | cons b0 bs =>
                  have hb0 := hbads b0 (List.mem_cons_self ..)
                  have e7' := A2 _ _ (A1 _ _ (sm8 _ _ e7))
                  refine ⟨_, rfl, pc, _, rfl, .inl (SqL.of (S6A _ _ hc)), _, rfl, by omega, by rw [List.length_map]; omega, ?_⟩
                  rw [Int.toNat_natCast, List.length_map]
                  refine lcR (fun _ => true) (fun i y _ => ∃ n : Int, 0 ≤ n ∧ y = .int n) (fun _ _ _ _ _ h => h) (by omega) (by decide) (fun i H' hi sm11 => elt_yes fun Q hQ => ?_) (fun D3 H12 ys hD3 sm12 e12 pr12 => ?_)
                  · rw [Int.zero_add]
                    have hrec : W.recs[i]? = some (W.recs[i]'(by omega)) := List.getElem?_eq_getElem (by omega)
                    generalize (W.recs[i]'(by omega)) = r at hrec
                    obtain ⟨vr, hvr, ar, xt, xp, rfl, hrr, ⟨pt, rfl, ht⟩, ⟨pu, rfl, hu⟩⟩ := paired_get pp hrec
                    obtain ⟨lt, lp, bt, bp, hhs⟩ := wk.2.2.2.2.2 r (List.mem_of_getElem? hrec)
                    have S11 := S10.trans sm11
                    have g1 : r.p[b0.toNat]? = some (r.p.getD b0.toNat 0) := by rw [List.getD_eq_getElem?_getD, List.getElem?_eq_getElem (by omega)]; rfl
                    refine ⟨_, rfl, aw, _, 2, _, rfl, rfl, SqT.of (S11 _ _ hw), rfl, _, rfl, pr, _, (i : Nat), _, rfl, rfl, SqT.of (S11 _ _ hr'), atI_nat hvr, ar, _, 1, _, rfl, rfl, SqT.of (S11 _ _ hrr), rfl, _, rfl, D, _, 0, _, rfl, rfl, SqL.of (sm11 _ _ e7'), atI0 _ _, pu, _, b0, _, rfl, rfl, SqT.of (S11 _ _ hu), atI_get hb0.1 (map_at g1), _, 0, rfl, rfl, _, rfl, ?_⟩
                    by_cases h1 : 0 < r.p.getD b0.toNat 0
                    · rw [decide_eq_true h1]
                      exact hQ _ _ (Same.refl _) ⟨0, Int.le_refl _, rfl⟩
                    · rw [decide_eq_false h1]
                      have g2 : cs[i]? = some (cs[i]'(by omega)) := List.getElem?_eq_getElem (by omega)
                      exact ⟨_, rfl, _, rfl, pc, _, (i : Nat), _, rfl, rfl, SqL.of (sm11 _ _ (S6A _ _ hc)), atI_nat (map_at g2), hQ _ _ (Same.refl _) ⟨_, hcs _ (List.mem_of_getElem? g2), rfl⟩⟩
                  · obtain ⟨cs2, rfl, hcs2⟩ := paired_ch (F := V.int) (P := fun n => 0 ≤ n) pr12
                    have lcs2 := paired_len pr12
                    rw [filter_true, List.length_range, List.length_map] at lcs2
                    exact ⟨_, _, _, _, _, _, _, _, D3, cs2, rfl, S10.trans sm12, none_back S10 hD3, e12, by omega, hcs2⟩
        · clear e3 pr3 hcs lcs hDn hD
          rintro σ H4 ⟨o5, o6, o7, o8, o9, o10, o11, o12, pc, cs, rfl, sm, npc, hc, lc, hcs⟩
          refine ⟨_, rfl, _, rfl, _, W, pc, cs, rfl, hwk.tp (tp_same sm), wk, hc, by omega, hcs, fun v H6 sm6 e6 => ?_⟩
          obtain ⟨s, ⟨a, _, _, rfl, ha, ⟨px, rfl, hx⟩, ⟨py, rfl, hy⟩⟩, l1, l2, n2⟩ := e6
          refine ⟨a, _, rfl, SqT.of ha, rfl, _, _, rfl, _, _, rfl, rfl, ?_⟩
          refine ⟨_, rfl, px, _, rfl, SqT.of hx, by omega, fun mn hmn hmin => ?_⟩
          refine ⟨mn, 0, rfl, rfl, _, rfl, ?_⟩
          by_cases h1 : 0 ≤ mn
          · rw [show decide ((0 : Int) ≤ mn) = true from decide_eq_true h1]
            refine ⟨_, rfl, _, rfl, cat_mk ⟨px, rfl, hx⟩ ⟨py, rfl, hy⟩ (by simp; omega) fun v H7 sm7 e7 => ?_⟩
            obtain ⟨p7, rfl, h7⟩ := e7
            rw [← List.map_append] at h7
            refine ⟨p7, _, rfl, SqT.of h7, by rw [List.length_append]; omega, fun mx hmx hmax => ?_⟩
            refine ⟨mx, 4, rfl, rfl, _, rfl, ?_⟩
            by_cases h2 : mx ≤ 4
            · rw [show decide (mx ≤ (4 : Int)) = true from decide_eq_true h2]
              refine ⟨_, rfl, _, rfl, _, rfl, pc, _, rfl, .inl ⟨SqL.of (sm7 _ _ (sm6 _ _ hc)), fun d hd => ⟨sz3, fun e he => ?_⟩⟩⟩
              have S := (sm7.trans (same_new (o := .tup (cs.map V.int)) hd)).trans (same_new (o := .tup [V.ref px, V.ref py, V.ref d]) he)
              refine k _ _ ((sm.trans sm6).trans S) ⟨s.1, s.2, e, _, _, _, rfl, upd_same, ⟨px, rfl, S _ _ hx⟩, ⟨py, rfl, S _ _ hy⟩, l1, l2, fun x hx => ⟨?_, ?_⟩, fun x hx => ⟨n2 x hx, ?_⟩⟩
              · exact Int.le_trans h1 (hmin x hx)
              · exact Int.le_trans (hmax x (List.mem_append_left _ hx)) h2
              · exact Int.le_trans (hmax x (List.mem_append_right _ hx)) h2
            · rw [show decide (mx ≤ (4 : Int)) = false from decide_eq_false h2]
              exact ⟨_, _, _, _, _, _, _, _, _, _, rfl, (sm.trans sm6).trans sm7⟩
          · rw [show decide ((0 : Int) ≤ mn) = false from decide_eq_false h1]
            exact ⟨_, _, _, _, _, _, _, _, _, _, rfl, sm.trans sm6⟩
    · rintro σ H1 ⟨o3, o4, o5, o6, o7, o8, o9, o10, o11, o12, rfl, sm⟩
      refine ⟨_, rfl, _, W, rfl, hwk.tp (tp_same sm), wk, fun v H2 sm2 e2 => ?_⟩
      refine ⟨sz1, fun d hd => ?_⟩
      have A1 := (sm.trans sm2).trans (same_new (o := .tup [V.int 0]) hd)
      refine ⟨_, rfl, aw, _, 1, _, rfl, rfl, SqT.of (A1 _ _ hw), rfl, ph, _, rfl, .inr (.inl (.inr ⟨oh, A1 _ _ hh⟩)), d, _, _, rfl, rfl, upd_same, by rw [List.length_map]; omega, fun v3 H3 sm3 e3 => ?_⟩
      refine ⟨sz1, fun d4 hd4 => ?_⟩
      have A2 := (A1.trans sm3).trans (same_new (o := .tup [V.int 0]) hd4)
      refine ⟨_, rfl, aw, _, 2, _, rfl, rfl, SqT.of (A2 _ _ hw), rfl, pr, _, rfl, .inr (SqT.of (A2 _ _ hr')), d4, _, _, rfl, rfl, upd_same, by omega, fun v5 H5 sm5 e5 => ?_⟩
      refine ⟨sz3, fun e he => ?_⟩
      obtain ⟨p3, rfl, e3⟩ := e3
      have T3 := ((same_new (o := .tup [V.int 0]) hd4).trans sm5).trans (same_new (o := .tup [v, V.ref p3, v5]) he)
      refine k _ _ ((A2.trans sm5).trans (same_new he)) ⟨List.replicate W.kinds.length 0, List.replicate W.hands.length 0, e, _, _, _, rfl, upd_same, ?_, ⟨p3, rfl, ?_⟩, List.length_replicate, List.length_replicate, fun x hx => by rw [List.eq_of_mem_replicate hx]; decide, fun x hx => by rw [List.eq_of_mem_replicate hx]; decide⟩
      · exact e2.tp (tp_same (((same_new (o := .tup [V.int 0]) hd).trans sm3).trans T3))
      · rw [T3 _ _ e3, List.length_map, rep_map V.int]
end
end K11

set_option Elab.async false
set_option linter.all false
set_option maxRecDepth 100000
set_option maxHeartbeats 4000000
namespace K11
open PySem PySem.Spec PyProof.Rows L2
def Und (a t : List Int) : Prop := a.length = t.length ∧ ∀ (k : Nat) (m n : Int), a[k]? = some m → t[k]? = some n → 0 ≤ m ∧ m ≤ n
def ArOk (W : Wk) (A : Ar) : Prop := A.am.length = W.kinds.length ∧ A.cr.length = W.hands.length ∧ Bd 9 A.am ∧ Bd 9 A.cr
def spArrow : Sp := fun vs H Q _ => ∃ w p W, ∃ s t : Int, ∃ l xs, ∃ ms : List Sta, ∃ lots crs, vs = [w, .int s, .int t, p, .ref l] ∧ WkAt H w W ∧ WkOk W ∧ PlAt W H p lots crs ∧ H l = some (.lst xs) ∧ Paired (StAt H) xs ms ∧ 0 ≤ s ∧ s < ms.length ∧ 0 ≤ t ∧ t < ms.length ∧
  (∀ m ∈ ms, Und m.1 lots ∧ Und m.2 crs) ∧ Ret H Q fun v H' => ∃ A, ArAt H' v A ∧ ArOk W A
theorem und_at {a b : List Int} (h : a.length = b.length) {k : Nat} {x : Int} (e : a[k]? = some x) : ∃ y, b[k]? = some y := by
  have := (List.getElem?_eq_some_iff.mp e).1
  exact ⟨b[k]'(by omega), List.getElem?_eq_getElem (by omega)⟩
theorem sub_le {a b t : List Int} {n : Nat} (ha : Und a t) (hb : Und b t) (ht : Bd n t) : ∀ x ∈ subL a b, -(n : Int) ≤ x ∧ x ≤ n := fun x hx => by
  obtain ⟨k, i, j, h1, h2, rfl⟩ := zw_mem hx
  obtain ⟨y, hy⟩ := und_at ha.1 h1
  have e1 := ha.2 k i y h1 hy
  have e2 := hb.2 k j y h2 hy
  have e3 := ht y (List.mem_of_getElem? hy)
  omega
theorem sub_add {a b t : List Int} {n : Nat} (ha : Und a t) (hb : Und b t) (ht : Bd n t) : Bd (n + n) (addL (subL a b) t) := fun x hx => by
  obtain ⟨k, i, j, h1, h2, rfl⟩ := zw_mem hx
  unfold subL at h1
  rw [List.getElem?_zipWith] at h1
  cases e1 : a[k]? with
  | none => rw [e1] at h1; simp at h1
  | some m =>
    cases e2 : b[k]? with
    | none => rw [e1, e2] at h1; simp at h1
    | some m2 =>
      rw [e1, e2] at h1
      cases h1
      have e3 := ha.2 k m j e1 h2
      have e4 := hb.2 k m2 j e2 h2
      have e5 := ht j (List.mem_of_getElem? h2)
      omega
theorem Bd.mono {m n : Nat} {l : List Int} (h : Bd m l) (e : m ≤ n) : Bd n l := fun x hx => ⟨(h x hx).1, by have := (h x hx).2; omega⟩
theorem PlAt.tp {W : Wk} {H H' : Hp} {v : V} {a b : List Int} (h : PlAt W H v a b) (e : Tp H H') : PlAt W H' v a b := by
  obtain ⟨p, x, y, z, rfl, h1, h2, h3, h4⟩ := h
  exact ⟨p, x, y, z, rfl, e.1 _ _ h1, h2.tp e, h3.tp e, h4⟩
theorem rNe_nilT {K : PySem.W.Frag} {H : Hp} {v : V} {e : Addr} {ns : List Int} {Q : VK} (ha : TupI H v ns) (he : H e = some (.tup [])) (hq : Q (.bl (!ns.isEmpty)) H) : rNeD K v (.ref e) H Q := by
  refine ⟨_, _, dp_I ha, .tup (SqT.of he) .nil, (lt_I _).shaped, by decide, ?_⟩
  unfold dI
  rw [eqv_nilT]
  have : (ns.map PyData.int).isEmpty = ns.isEmpty := by cases ns <;> rfl
  rw [this]
  exact hq
section
variable {P : Program} {w : World} {K : PySem.W.Frag} {mg : Str → Option Value} {base : Heap} {f : Addr} {fd : FuncData}
theorem ok_larrow (F : FnP K "_law_arrow" s_law_arrow f fd) (B : Bt mg) (C_l_sum : Cl P w K mg base CX0 1 "_law_sum" ["_law_one_here", "_law_other"] (sp2 addL))
    (C_l_less : Cl P w K mg base CX0 1 "_law_less" ["_law_one_here", "_law_other"] (sp2 subL)) :
    FnOk P w K mg base CX0 2 f fd ["_law_works_here", "_law_source", "_law_target", "_law_total", "_law_marks"] spArrow := by
  refine F.ok sc_l_arrow (fun vs H Q E h => ?_) (fun cdv A outer s H vs Q E hr h => ?_)
  · obtain ⟨w, p, W, s, t, l, xs, ms, lots, crs, rfl, _⟩ := h
    rfl
  · obtain ⟨wv, _, W, sr, tg, l, xs, ms, lots, crs, rfl, hwk, wk, ⟨pt, _, _, xz, rfl, hpt, ⟨pl, rfl, hpl⟩, ⟨pc, rfl, hpc⟩, ll, lc, bl, bc⟩, hl, pp, s0, s1, t0, t1, um, k⟩ := h
    refine ⟨_, PSs.nox (pss_cons (ps_par (i := 5) (j := 6) rfl sc_l_arrow.nd rfl rfl (by decide) rfl rfl (pa_cons (pe_c C_l_less hr (by decide) (by rfl) (pa_cons (pe_ix ix_tup (pe_ix ix_list (pv 4) (pv 2) (fun _ _ => rfl)) pe_int (fun _ _ => rfl)) (pa_cons (pe_ix ix_tup (pe_ix ix_list (pv 4) (pv 1) (fun _ _ => rfl)) pe_int (fun _ _ => rfl)) pa_nil))) (pa_cons (pe_c C_l_less hr (by decide) (by rfl) (pa_cons (pe_ix ix_tup (pe_ix ix_list (pv 4) (pv 2) (fun _ _ => rfl)) pe_int (fun _ _ => rfl)) (pa_cons (pe_ix ix_tup (pe_ix ix_list (pv 4) (pv 1) (fun _ _ => rfl)) pe_int (fun _ _ => rfl)) pa_nil))) pa_nil)) (by rfl))
      (pss_cons (ps_if (pt_cmpR op_lt (pe_callB (cr_minT rfl) (by rfl) B.min_ (by decide +kernel) (pa_cons (pv 5) pa_nil)) pe_int (nomark _)) (pss_one (ps_par (i := 5) (j := 6) rfl sc_l_arrow.nd rfl rfl (by decide) rfl rfl (pa_cons (pe_c C_l_sum hr (by decide) (by rfl) (pa_cons (pv 5) (pa_cons (pe_ix ix_tup (pv 3) pe_int (fun _ _ => rfl)) pa_nil))) (pa_cons (pe_c C_l_sum hr (by decide) (by rfl) (pa_cons (pv 6) (pa_cons (pe_ix ix_tup (pv 3) pe_int (fun _ _ => rfl)) pa_nil))) pa_nil)) (by rfl))) (pss_one (ps_if (PW.pt (pw_and (pt_cmpR (op_neD hr.units) (pv 6) (pe_tup pa_nil) (nomark _)) (pw_and1 (pt_cmpR op_lt (pe_callB (cr_minT rfl) (by rfl) B.min_ (by decide +kernel) (pa_cons (pv 6) pa_nil)) pe_int (nomark _))))) (pss_one (ps_set (i := 6) sc_l_arrow.nd rfl (Or.inl rfl) (pe_c C_l_sum hr (by decide) (by rfl) (pa_cons (pv 6) (pa_cons (pe_ix ix_tup (pv 3) pe_int (fun _ _ => rfl)) pa_nil))))) pss_nil)))
      (pss_one (ps_ret (pe_tup (pa_cons (pv 1) (pa_cons (pv 2) (pa_cons (pv 5) (pa_cons (pv 6) pa_nil))))))))), ?_⟩
    rw [st_l_arrow]
    have k1 := wk.1
    have k8 := wk.2.1
    have h8 := wk.2.2.1
    have gs : ms[sr.toNat]? = some (ms[sr.toNat]'(by omega)) := List.getElem?_eq_getElem (by omega)
    have gt : ms[tg.toNat]? = some (ms[tg.toNat]'(by omega)) := List.getElem?_eq_getElem (by omega)
    generalize (ms[sr.toNat]'(by omega)) = ss at gs
    generalize (ms[tg.toNat]'(by omega)) = st at gt
    obtain ⟨vs, hvs, as, _, _, rfl, has, ⟨p1, rfl, h1⟩, ⟨p2, rfl, h2⟩⟩ := paired_get pp gs
    obtain ⟨vt, hvt, at', _, _, rfl, hat, ⟨p3, rfl, h3⟩, ⟨p4, rfl, h4⟩⟩ := paired_get pp gt
    obtain ⟨us1, us2⟩ := um ss (List.mem_of_getElem? gs)
    obtain ⟨ut1, ut2⟩ := um st (List.mem_of_getElem? gt)
    have e1 := us1.1
    have e2 := us2.1
    have e3 := ut1.1
    have e4 := ut2.1
    refine ⟨_, rfl, _, rfl, l, _, tg, _, rfl, rfl, SqL.of hl, atI_get t0 hvt, at', _, 0, _, rfl, rfl, SqT.of hat, rfl, _, rfl, _, rfl, l, _, sr, _, rfl, rfl, SqL.of hl, atI_get s0 hvs, as, _, 0, _, rfl, rfl, SqT.of has, rfl, _, _, _, _, rfl, ⟨p3, rfl, h3⟩, ⟨p1, rfl, h1⟩, by omega, fun v H1 sm1 q1 => ?_⟩
    refine ⟨_, rfl, _, rfl, l, _, tg, _, rfl, rfl, SqL.of (sm1 _ _ hl), atI_get t0 hvt, at', _, 1, _, rfl, rfl, SqT.of (sm1 _ _ hat), rfl, _, rfl, _, rfl, l, _, sr, _, rfl, rfl, SqL.of (sm1 _ _ hl), atI_get s0 hvs, as, _, 1, _, rfl, rfl, SqT.of (sm1 _ _ has), rfl, _, _, _, _, rfl, ⟨p4, rfl, sm1 _ _ h4⟩, ⟨p2, rfl, sm1 _ _ h2⟩, by omega, fun v2 H2 sm2 q2 => ?_⟩
    have S2 := sm1.trans sm2
    obtain ⟨q, rfl, q1⟩ := q1
    have q1 := sm2 _ _ q1
    have lsub : (subL st.1 ss.1).length = W.kinds.length := by rw [subL_len (by omega)]; omega
    have csub : (subL st.2 ss.2).length = W.hands.length := by rw [subL_len (by omega)]; omega
    refine ⟨_, _, rfl, ?_⟩
    dsimp only
    refine seq_cut (t := tIfS _ _ _) (fun σ H' => ∃ x y lot cr, σ = [some wv, some (.int sr), some (.int tg), some (.ref pt), some (.ref l), some x, some y] ∧ Same H H' ∧ TupI H' x lot ∧ TupI H' y cr ∧ lot.length = W.kinds.length ∧ cr.length = W.hands.length ∧ Bd 9 lot ∧ Bd 9 cr) ?_ ?_
    · rintro σ H3 ⟨x, y, lot, cr, rfl, sm3, e1, e2, l1, l2, b1, b2⟩
      refine ⟨_, rfl, _, rfl, _, rfl, _, rfl, sz4, fun e he => k _ _ (sm3.trans (same_new he)) ⟨⟨sr, tg, lot, cr⟩, ⟨e, x, y, rfl, upd_same, e1.tp (tp_new he), e2.tp (tp_new he)⟩, l1, l2, b1, b2⟩⟩
    · intro tail
      refine ⟨_, rfl, q, _, rfl, SqT.of q1, by omega, fun mn hmn hmin => ⟨mn, 0, rfl, rfl, _, rfl, ?_⟩⟩
      by_cases c1 : mn < 0
      · rw [decide_eq_true c1]
        refine ⟨_, rfl, _, rfl, pt, _, 0, _, rfl, rfl, SqT.of (S2 _ _ hpt), rfl, _, _, _, _, rfl, ⟨q, rfl, q1⟩, ⟨pl, rfl, S2 _ _ hpl⟩, by omega, fun v3 H3 sm3 q3 => ?_⟩
        refine ⟨_, rfl, _, rfl, pt, _, 1, _, rfl, rfl, SqT.of (sm3 _ _ (S2 _ _ hpt)), rfl, _, _, _, _, rfl, q2.tp (tp_same sm3), ⟨pc, rfl, sm3 _ _ (S2 _ _ hpc)⟩, by omega, fun v4 H4 sm4 q4 => ?_⟩
        refine ⟨_, _, rfl, tail _ _ ⟨_, _, _, _, rfl, (S2.trans sm3).trans sm4, q3.tp (tp_same sm4), q4, by rw [addL_len (by omega)]; omega, by rw [addL_len (by omega)]; omega, (sub_add ut1 us1 bl).mono (by decide), (sub_add ut2 us2 bc).mono (by decide)⟩⟩
      · rw [decide_eq_false c1]
        have bl1 : Bd 9 (subL st.1 ss.1) := fun x hx => by
          have := hmin x hx
          have := (sub_le ut1 us1 bl x hx).2
          omega
        refine ⟨_, rfl, Nat.zero_le _, fun e he => ?_⟩
        have A1 := same_new (o := .tup []) he
        refine rNe_nilT (q2.tp (tp_same A1)) upd_same ⟨_, rfl, ?_⟩
        obtain ⟨q', rfl, q2⟩ := q2
        generalize ecr : subL st.2 ss.2 = cr at q2 csub
        cases cr with
        | nil => exact tail _ _ ⟨_, _, _, _, rfl, S2.trans A1, ⟨q, rfl, A1 _ _ q1⟩, ⟨q', rfl, A1 _ _ q2⟩, lsub, csub, bl1, fun x hx => nomatch hx⟩
        | cons c0 cs =>
          refine ⟨_, rfl, q', _, rfl, SqT.of (A1 _ _ q2), by simp, fun mn2 hmn2 hmin2 => ⟨mn2, 0, rfl, rfl, _, rfl, ?_⟩⟩
          by_cases c2 : mn2 < 0
          · rw [decide_eq_true c2]
            refine ⟨_, rfl, _, rfl, pt, _, 1, _, rfl, rfl, SqT.of (A1 _ _ (S2 _ _ hpt)), rfl, _, _, _, _, rfl, ⟨q', rfl, A1 _ _ q2⟩, ⟨pc, rfl, A1 _ _ (S2 _ _ hpc)⟩, by omega, fun v4 H4 sm4 q4 => ?_⟩
            refine tail _ _ ⟨_, _, _, _, rfl, (S2.trans A1).trans sm4, ⟨q, rfl, sm4 _ _ (A1 _ _ q1)⟩, q4, lsub, by rw [addL_len (by omega)]; omega, bl1, ?_⟩
            rw [← ecr]
            exact (sub_add ut2 us2 bc).mono (by decide)
          · rw [decide_eq_false c2]
            refine tail _ _ ⟨_, _, _, _, rfl, S2.trans A1, ⟨q, rfl, A1 _ _ q1⟩, ⟨q', rfl, A1 _ _ q2⟩, lsub, csub, bl1, fun x hx => ?_⟩
            have := hmin2 x hx
            rw [← ecr] at hx
            have := (sub_le ut2 us2 bc x hx).2
            omega
end
end K11

set_option Elab.async false
set_option linter.all false
set_option maxRecDepth 100000
set_option maxHeartbeats 400000
/-! list(zip(a, b)) of two lists. -/
namespace K11
open PySem PySem.Spec PyProof.Rows L2
abbrev PairAt (h : Heap) (T : Addr) (a b : Value) : Prop := h.get? T = some { cls := .type "tuple", data := .seq #[a, b] }
structure ZSt (N : Nat) (z TI TO i1 i2 l1 l2 : Addr) (xs ys : Array Value) (i : Nat) (h : Heap) (Ts : List Addr) : Prop where
  len : Ts.length = i
  at' : ∀ (j : Nat) T, Ts[j]? = some T → N ≤ T ∧ ∃ x y, xs[j]? = some x ∧ ys[j]? = some y ∧ PairAt h T x y
  nd : Ts.Nodup
  ti : PairAt h TI (.ref i1) (.ref i2)
  it1 : h.IsListIter i1 l1 i
  it2 : h.IsListIter i2 l2 i
  ls1 : h.IsList l1 xs
  ls2 : h.IsList l2 ys
  sz : N ≤ h.objs.size
  zz : (IsZip h z TI TO .none ∧ ∃ a b, PairAt h TO a b) ∨ ∃ T f oT, IsZipHeld h z TI TO T f ∧ h.get? T = some oT ∧ N ≤ T
theorem ZSt.keep {N : Nat} {z TI TO i1 i2 l1 l2 : Addr} {xs ys : Array Value} {i : Nat} {h h' : Heap} {Ts : List Addr} {S : Addr} (st : ZSt N z TI TO i1 i2 l1 l2 xs ys i h Ts) (hS : S < N) (n : S ∉ [z, TI, TO, i1, i2, l1, l2]) (hz : h'.objs.size = h.objs.size) (k : ∀ b o, b ≠ S → h.get? b = some o → h'.get? b = some o) :
    ZSt N z TI TO i1 i2 l1 l2 xs ys i h' Ts := by
  simp only [List.mem_cons, List.not_mem_nil, or_false, not_or] at n
  obtain ⟨n1, n2, n3, n4, n5, n6, n7⟩ := n
  have big : ∀ T : Addr, N ≤ T → T ≠ S := fun T hT e => by
    subst e
    exact Nat.lt_irrefl _ (Nat.lt_of_lt_of_le hS hT)
  refine ⟨st.len, fun j T hj => ?_, st.nd, k _ _ (Ne.symm n2) st.ti, st.it1.at fun o e => k _ o (Ne.symm n4) e, st.it2.at fun o e => k _ o (Ne.symm n5) e, st.ls1.at fun o e => k _ o (Ne.symm n6) e, st.ls2.at fun o e => k _ o (Ne.symm n7) e, by rw [hz]; exact st.sz, ?_⟩
  · obtain ⟨h1, x, y, hx, hy, hp⟩ := st.at' j T hj
    exact ⟨h1, x, y, hx, hy, k _ _ (big T h1) hp⟩
  · rcases st.zz with ⟨q, a, b, q2⟩ | ⟨T, f, oT, q, q2, q3⟩
    · exact .inl ⟨k _ _ (Ne.symm n1) q, a, b, k _ _ (Ne.symm n3) q2⟩
    · exact .inr ⟨T, f, oT, k _ _ (Ne.symm n1) q, k _ _ (big T q3) q2, q3⟩
section
variable {prog : Program} {w : World} {A : Around} {N : Nat} {S z TI TO i1 i2 l1 l2 : Addr} {xs ys : Array Value} {R : Result → Shared → Prop}
theorem zl_loop (hh : A.in1.handled = none) (D : ZipApart z TI TO i1 i2 l1 l2) (hS : S < N) (nS : S ∉ [z, TI, TO, i1, i2, l1, l2]) (res : Value) (hlt : ∀ b ∈ [z, TI, TO, i1, i2, l1, l2], b < N) (hz : min xs.size ys.size ≤ 1000) :
    ∀ (k i : Nat) (s : Shared) (Ts : List Addr) (c : Nat), min xs.size ys.size - i = k → i ≤ min xs.size ys.size → ZSt N z TI TO i1 i2 l1 l2 xs ys i s.heap Ts →
      s.heap.get? S = some { cls := .type "list", dict := none, data := .seq (Ts.map Value.ref).toArray c, slots := #[] } →
      (∀ h' (Ts' : List Addr) (c' : Nat), Ts'.length = min xs.size ys.size → Ts'.Nodup →
        (∀ (j : Nat) T, Ts'[j]? = some T → N ≤ T ∧ ∃ x y, xs[j]? = some x ∧ ys[j]? = some y ∧ PairAt h' T x y) → h'.get? S = some { cls := .type "list", dict := none, data := .seq (Ts'.map Value.ref).toArray c', slots := #[] } →
        (∀ b o, b ≠ S → b ≠ z → b ≠ TO → b ≠ i1 → b ≠ i2 → s.heap.get? b = some o → h'.get? b = some o) → R (.ok (.ret res)) { s with heap := h' }) →
      codeAny (model prog w) A (.builtin "list.extend.loop" ⟨[.ref S, .ref z, res], []⟩) R s := by
  have big := hlt
  simp only [List.mem_cons, List.not_mem_nil, or_false, not_or] at nS
  obtain ⟨n1, n2, n3, n4, n5, n6, n7⟩ := nS
  have nS' : S ∉ [z, TI, TO, i1, i2, l1, l2] := by simp [n1, n2, n3, n4, n5, n6, n7]
  have lz : z < N := hlt z (by simp)
  have lTI : TI < N := hlt TI (by simp)
  have lTO : TO < N := hlt TO (by simp)
  have li1 : i1 < N := hlt i1 (by simp)
  have li2 : i2 < N := hlt i2 (by simp)
  have ll1 : l1 < N := hlt l1 (by simp)
  have ll2 : l2 < N := hlt l2 (by simp)
  have far : ∀ (T b : Addr), N ≤ T → b < N → T ≠ b := fun T b h1 h2 e => by
    subst e
    exact Nat.lt_irrefl _ (Nat.lt_of_lt_of_le h2 h1)
  intro k
  induction k with
  | zero =>
    intro i s Ts c hk hi st hl hR
    have hin : i = min xs.size ys.size := by omega
    refine codeAny_builtin F.entry_extend_loop ?_
    rw [Around.under_plainId F.plain_extend_loop _]
    show wpAny _ A.in1 (pyNext (.ref z) >>= _) _ _ s
    have hend : xs[i]? = none ∨ ys[i]? = none := by
      rcases Nat.le_total xs.size ys.size with h | h
      · exact .inl (Array.getElem?_eq_none (by omega))
      · exact .inr (Array.getElem?_eq_none (by omega))
    have fin : ∀ h', (∀ c o, c ≠ z → c ≠ TO → c ≠ i1 → c ≠ i2 → s.heap.get? c = some o → h'.get? c = some o) → R (.ok (.ret res)) { s with heap := h' } := fun h' hk => by
      have at2 : ∀ (j : Nat) T, Ts[j]? = some T → N ≤ T ∧ ∃ x y, xs[j]? = some x ∧ ys[j]? = some y ∧ PairAt h' T x y := fun j T hj => by
        obtain ⟨h1, x, y, hx, hy, hp⟩ := st.at' j T hj
        exact ⟨h1, x, y, hx, hy, hk _ _ (far T z h1 lz) (far T TO h1 lTO) (far T i1 h1 li1) (far T i2 h1 li2) hp⟩
      exact hR h' Ts c (by rw [st.len, hin]) st.nd at2 (hk _ _ n1 n3 n4 n5 hl) fun b o _ q1 q2 q3 q4 e => hk b o q1 q2 q3 q4 e
    rcases st.zz with ⟨q, a, b, q2⟩ | ⟨T, f, oT, q, q2, q3⟩
    · exact wpAny_bind (wpAny_pyNext_zip_end hh D q st.ti q2 st.it1 st.it2 st.ls1 st.ls2 hend fun h' hk => wpAny_pure (fin h' hk))
    · exact wpAny_bind (wpAny_pyNext_zip_end_held hh D q q2 st.ti st.it1 st.it2 st.ls1 st.ls2 hend fun h' hk => wpAny_pure (fin h' fun c o c1 _ c3 c4 e => hk c o c1 c3 c4 e))
  | succ k ih =>
    intro i s Ts c hk hi st hl hR
    have hlt : i < min xs.size ys.size := by omega
    have hix : i < xs.size := by omega
    have hiy : i < ys.size := by omega
    have ex := Array.getElem?_eq_getElem hix
    have ey := Array.getElem?_eq_getElem hiy
    refine codeAny_builtin F.entry_extend_loop ?_
    rw [Around.under_plainId F.plain_extend_loop _]
    show wpAny _ A.in1 (pyNext (.ref z) >>= _) _ _ s
    have fin : ∀ h', ((IsZip h' z TI TO .none ∧ ∃ a b, PairAt h' TO a b) ∨ ∃ T f oT, IsZipHeld h' z TI TO T f ∧ h'.get? T = some oT ∧ N ≤ T) → h'.IsListIter i1 l1 (i + 1) → h'.IsListIter i2 l2 (i + 1) → PairAt h' s.heap.objs.size xs[i] ys[i] → h'.objs.size = s.heap.objs.size + 1 →
        (∀ c o, c ≠ z → c ≠ TO → c ≠ i1 → c ≠ i2 → s.heap.get? c = some o → h'.get? c = some o) →
        wpAny (model prog w) A.in1 (updateSeq S (·.push (.ref s.heap.objs.size)) >>= fun _ => again (.builtin "list.extend.loop" ⟨[.ref S, .ref z, res], []⟩)) (fun fin s' => match fin with | .done f => R (.ok f) s' | .again c' => c'.quiet = true ∧ codeAny (model prog w) A c' R s') (fun e s' => R (.error e) s') { s with heap := h' } := fun h' z' a1 a2 a3 a4 hk => by
      have hl' := hk _ _ n1 n3 n4 n5 hl
      have st1 : ZSt N z TI TO i1 i2 l1 l2 xs ys (i + 1) h' (Ts ++ [s.heap.objs.size]) := by
        refine ⟨by rw [List.length_append, st.len]; rfl, fun j T hj => ?_, ?_, hk _ _ D.TIz D.TITO D.TIi1 D.TIi2 st.ti, a1, a2, st.ls1.at fun o e => hk _ o D.l1z D.l1TO D.l1i1 D.l1i2 e, st.ls2.at fun o e => hk _ o D.l2z D.l2TO D.l2i1 D.l2i2 e, by have := st.sz; omega, z'⟩
        · by_cases hj2 : j < Ts.length
          · rw [List.getElem?_append_left hj2] at hj
            obtain ⟨h1, x, y, hx, hy, hp⟩ := st.at' j T hj
            exact ⟨h1, x, y, hx, hy, hk _ _ (far T z h1 lz) (far T TO h1 lTO) (far T i1 h1 li1) (far T i2 h1 li2) hp⟩
          · rw [List.getElem?_append_right (by omega)] at hj
            have hj3 : j = i := by
              have := (List.getElem?_eq_some_iff.mp hj).1
              have := st.len
              simp at *
              omega
            subst hj3
            rw [st.len, Nat.sub_self] at hj
            have : s.heap.objs.size = T := Option.some.inj hj
            subst this
            exact ⟨st.sz, _, _, ex, ey, a3⟩
        · refine List.nodup_append.mpr ⟨st.nd, by simp, fun a ha b hb e => ?_⟩
          rw [List.mem_singleton] at hb
          obtain ⟨j, hj⟩ := List.mem_iff_getElem?.mp ha
          obtain ⟨_, x, y, _, _, hp⟩ := st.at' j a hj
          have := Heap.lt_size hp
          rw [e, hb] at this
          exact Nat.lt_irrefl _ this
      have up : ∃ c2, (h'.update S (Obj.mapSeq (·.push (Value.ref s.heap.objs.size)))).get? S = some { cls := .type "list", dict := none, data := .seq ((Ts ++ [s.heap.objs.size]).map Value.ref).toArray c2, slots := #[] } := by
        rw [List.map_append, List.map_cons, List.map_nil, ← List.push_toArray]
        exact ⟨_, Heap.get?_update_self (Obj.mapSeq (·.push (Value.ref s.heap.objs.size))) hl' rfl⟩
      obtain ⟨c2, up⟩ := up
      have ln := st.len
      have hs : 1001 ≤ sizeLine := by decide
      refine wpAny_bind ?_
      refine wpAny_updateSeq hl' rfl (wpAny_pure ⟨plainId_quiet F.plain_extend_loop _, ih (i + 1) _ (Ts ++ [s.heap.objs.size]) c2 (by omega) hlt (st1.keep (S := S) hS nS' (Heap.size_update ..) fun b o hb e => (Heap.get?_update_other _ _ (Ne.symm hb)).trans e) up fun h2 Ts' c' q1 q2 q3 q4 q5 => ?_⟩)
        (by rw [List.size_toArray, List.length_map]; omega) (by rw [Array.size_push, List.size_toArray, List.length_map]; omega)
      exact hR h2 Ts' c' q1 q2 q3 q4 fun b o p1 p2 p3 p4 p5 e => q5 b o p1 p2 p3 p4 p5 ((Heap.get?_update_other _ _ (Ne.symm p1)).trans (hk b o p2 p3 p4 p5 e))
    rcases st.zz with ⟨q, a, b, q2⟩ | ⟨T, f, oT, q, q2, q3⟩
    · exact wpAny_bind (wpAny_pyNext_zip_item D q st.ti q2 st.it1 st.it2 st.ls1 st.ls2 ex ey fun h' a1 a2 a3 a4 a5 a6 hk => fin h' (.inr ⟨_, false, _, a1, a5, st.sz⟩) a3 a4 a5 a6 hk)
    · exact wpAny_bind (wpAny_pyNext_zip_item_held D q q2 st.ti st.it1 st.it2 st.ls1 st.ls2 ex ey fun h' a1 a3 a4 a5 a6 hk => fin h' (.inr ⟨T, true, oT, a1, hk _ _ (far T z q3 lz) (far T i1 q3 li1) (far T i2 q3 li2) q2, q3⟩) a3 a4 a5 a6 fun c o c1 _ c3 c4 e => hk c o c1 c3 c4 e)
theorem lt5 {a n : Nat} (h : a < n) : a < n + 5 := by omega
theorem ne_plus {c n k : Nat} (h : c < n) : c ≠ n + k := by omega
theorem sz2' : 2 ≤ sizeLine := by decide
theorem zip_len : typeLookup (.type "zip") "__len__" = pure none := by rw [typeLookup_type, builtinLookup_eq_fast]; kernel_rfl
theorem zip_hint : typeLookup (.type "zip") "__length_hint__" = pure none := by rw [typeLookup_type, builtinLookup_eq_fast]; kernel_rfl
end
theorem call_list_zip {prog : Program} {w : World} {A : Around} {E : Value → Shared → Prop} {s : Shared} {z TI TO i1 i2 l1 l2 : Addr} {xs ys : Array Value} {Q : Value → Shared → Prop} (hh : A.handled = none) (D : ZipApart z TI TO i1 i2 l1 l2) (hz : min xs.size ys.size ≤ 1000)
    (hlt : ∀ b ∈ [z, TI, TO, i1, i2, l1, l2], b < s.heap.objs.size) (h0 : IsZip s.heap z TI TO .none) (hTI : PairAt s.heap TI (.ref i1) (.ref i2)) (hTO : ∃ a b, PairAt s.heap TO a b) (h1 : s.heap.IsListIter i1 l1 0) (h2 : s.heap.IsListIter i2 l2 0) (hl1 : s.heap.IsList l1 xs) (hl2 : s.heap.IsList l2 ys)
    (hQ : ∀ h' (Ts : List Addr) (c : Nat), Ts.length = min xs.size ys.size → Ts.Nodup → (∀ (j : Nat) T, Ts[j]? = some T → s.heap.objs.size < T ∧ ∃ x y, xs[j]? = some x ∧ ys[j]? = some y ∧ PairAt h' T x y) →
      h'.get? s.heap.objs.size = some { cls := .type "list", dict := none, data := .seq (Ts.map Value.ref).toArray c, slots := #[] } →
      (∀ b o, b ≠ z → b ≠ TO → b ≠ i1 → b ≠ i2 → s.heap.get? b = some o → h'.get? b = some o) → Q (.ref s.heap.objs.size) { s with heap := h' }) :
    wpAny (model prog w) A (call (.type "list") [.ref z]) Q E s := by
  have ne : ∀ b ∈ [z, TI, TO, i1, i2, l1, l2], b ≠ s.heap.objs.size := fun b hb e => by
    have := hlt b hb
    rw [e] at this
    exact Nat.lt_irrefl _ this
  have hSz : s.heap.objs.size ≠ z := (ne z (by simp)).symm
  refine callType_codes (Q₁ := fun obj s₁ => obj = .ref s.heap.objs.size ∧ s₁ = { s with heap := s.heap.push { cls := .type "list", data := .seq #[] } }) F.called_list (F.typeCall_list_1 _) F.entry_list_init
    (code_list_new _ ⟨rfl, rfl⟩) fun obj s₁ h₁ => ?_
  obtain ⟨rfl, rfl⟩ := h₁
  have hS : (s.heap.push { cls := .type "list", data := .seq #[] }).get? s.heap.objs.size = some { cls := .type "list", data := .seq #[] } := Heap.get?_push_size _ rfl
  refine ⟨⟨_, hS, rfl⟩, F.args_list_init_2 _ _, ?_⟩
  show wpAny _ A.in1.in1 (do let old ← Builtin.List.listItems (.ref s.heap.objs.size); Builtin.List.listUpdate (.ref s.heap.objs.size) (fun _ => #[]); letGo old.toList.reverse; Builtin.List.listExtendWith (.ref s.heap.objs.size) (.ref z) .none) _ _ _
  refine wpAny_bind ?_
  unfold Builtin.List.listItems
  refine wpAny_bind (wpAny_seqItems hS rfl (wpAny_pure ?_))
  show wpAny _ A.in1.in1 (updateSeq s.heap.objs.size (fun _ => #[]) >>= fun _ => letGo (#[] : Array Value).toList.reverse >>= fun _ => Builtin.List.listExtendWith (.ref s.heap.objs.size) (.ref z) .none) _ _ _
  refine wpAny_bind (wpAny_updateSeq hS rfl ?_)
  have hS2 := Heap.get?_update_self (Obj.mapSeq (fun _ => (#[] : Array Value))) hS rfl
  refine wpAny_bind (wpAny_letGo ?_)
  unfold Builtin.List.listExtendWith
  have up : ∀ (h : Heap) (f : Obj → Obj), (∀ b o, s.heap.get? b = some o → h.get? b = some o) → ∀ b o, s.heap.get? b = some o → (h.update s.heap.objs.size f).get? b = some o := fun h f q b o e =>
    (Heap.get?_update_other _ _ (Ne.symm (Nat.ne_of_lt (Heap.lt_size e)))).trans (q b o e)
  have k1 : ∀ b o, s.heap.get? b = some o → (s.heap.push { cls := .type "list", data := .seq #[] }).get? b = some o := fun b o e => Heap.get?_push_of_some _ e
  have k2 := up _ (Obj.mapSeq (fun _ => (#[] : Array Value))) k1
  refine wpAny_bind (wpAny_typeOf (T := "zip") ⟨_, k2 _ _ h0, rfl⟩ ?_)
  have h1' : Builtin.List.listSameRef (.ref s.heap.objs.size) (.ref z) = false := by simp [Builtin.List.listSameRef, hSz]
  have h2' : (Value.type "zip" == Value.type "list") = false := by decide
  have h3 : (Value.type "zip" == Value.type "tuple") = false := by decide
  simp only [h1', h2', h3, Bool.or_false, Bool.false_eq_true, if_false]
  refine wpAny_bind (wpAny_pyIter_zip (k2 _ _ h0) ?_)
  refine wpAny_bind (wpAny_holding ?_)
  unfold Builtin.List.listLengthHint
  refine wpAny_bind (wpAny_specialOf (T := "zip") ⟨_, k2 _ _ h0, rfl⟩ zip_len ?_)
  show wpAny _ A.in1.in1 (specialOf (Value.ref z) (Str.ofString "__length_hint__") >>= _) _ _ _
  refine wpAny_bind (wpAny_specialOf (T := "zip") ⟨_, k2 _ _ h0, rfl⟩ zip_hint ?_)
  refine wpAny_pure ?_
  show wpAny _ A.in1.in1 (rule "list.extend.makes-room" >>= fun _ => Builtin.List.listTouch (.ref s.heap.objs.size) >>= fun _ =>
    again (.builtin "list.extend.loop" ⟨[.ref s.heap.objs.size, .ref z, .none], []⟩)) _ _ _
  refine wpAny_bind (wpAny_rule ?_)
  refine wpAny_bind ?_
  show wpAny _ A.in1.in1 (updateSeq s.heap.objs.size (·.push .none) >>= fun _ => updateSeq s.heap.objs.size (·.pop)) _ _ _
  refine wpAny_bind (wpAny_updateSeq hS2 rfl ?_)
  have hS3 := Heap.get?_update_self (Obj.mapSeq (·.push Value.none)) hS2 rfl
  have k3 := up _ (Obj.mapSeq (·.push Value.none)) k2
  refine wpAny_updateSeq (hz := by seq_fits) hS3 rfl ?_
  have hS4 := Heap.get?_update_self (Obj.mapSeq (·.pop)) hS3 rfl
  have k4 := up _ (Obj.mapSeq (·.pop)) k3
  have sz : (((((s.heap.push { cls := .type "list", data := .seq #[] }).update s.heap.objs.size (Obj.mapSeq (fun _ => (#[] : Array Value)))).update s.heap.objs.size (Obj.mapSeq (·.push Value.none))).update s.heap.objs.size (Obj.mapSeq (·.pop)))).objs.size = s.heap.objs.size + 1 := by
    rw [Heap.size_update, Heap.size_update, Heap.size_update, Heap.size_push]
  obtain ⟨a, b, hTO⟩ := hTO
  have hS5 : ∃ c, ((((s.heap.push { cls := .type "list", data := .seq #[] }).update s.heap.objs.size (Obj.mapSeq (fun _ => (#[] : Array Value)))).update s.heap.objs.size (Obj.mapSeq (·.push Value.none))).update s.heap.objs.size (Obj.mapSeq (·.pop))).get? s.heap.objs.size = some { cls := .type "list", dict := none, data := .seq #[] c, slots := #[] } := ⟨_, hS4⟩
  generalize ((((s.heap.push { cls := .type "list", data := .seq #[] }).update s.heap.objs.size (Obj.mapSeq (fun _ => (#[] : Array Value)))).update s.heap.objs.size (Obj.mapSeq (·.push Value.none))).update s.heap.objs.size (Obj.mapSeq (·.pop))) = h4 at sz k4 hS5
  clear hS4 hS3 hS2 hS k3 k2 k1 up
  obtain ⟨c4, hS5⟩ := hS5
  refine wpAny_pure ⟨plainId_quiet F.plain_extend_loop _, ?_⟩
  refine zl_loop (A := A.in1) (N := s.heap.objs.size + 1) (S := s.heap.objs.size) (s := { s with heap := h4 }) (Ts := []) hh D (Nat.lt_succ_self _) (fun hm => ne _ hm rfl) .none (fun b hb => Nat.lt_succ_of_lt (hlt b hb)) hz _ 0 c4 rfl (Nat.zero_le _)
    ⟨rfl, fun j T hj => by simp at hj, List.nodup_nil, k4 _ _ hTI, h1.at fun o e => k4 _ o e, h2.at fun o e => k4 _ o e, hl1.at fun o e => k4 _ o e, hl2.at fun o e => k4 _ o e, Nat.le_of_eq sz.symm, .inl ⟨k4 _ _ h0, a, b, k4 _ _ hTO⟩⟩ hS5 fun h' Ts c q1 q2 q3 q4 q5 => ?_
  exact ⟨rfl, hQ h' Ts c q1 q2 (fun j T hj => ⟨(q3 j T hj).1, (q3 j T hj).2⟩) q4 fun b o b1 b2 b3 b4 e => q5 b o (Nat.ne_of_lt (Heap.lt_size e)) b1 b2 b3 b4 (k4 _ _ e)⟩
/-- the rule -/
def tListZip (K : PySem.W.Frag) (ta : TA) : TE := fun σ H Q => ta σ H fun vs H1 => ∃ (a b : Addr) (xs ys : List V), vs = [V.ref a, V.ref b] ∧ SqL K H1 a xs ∧ SqL K H1 b ys ∧ min xs.length ys.length ≤ 1000 ∧
  ∀ D H2 (Ts : List Addr), H1 D = none → Same H1 H2 → H2 D = some (.lst (Ts.map V.ref)) → Ts.length = min xs.length ys.length → (∀ (j : Nat) T, Ts[j]? = some T → ∃ x y, xs[j]? = some x ∧ ys[j]? = some y ∧ H2 T = some (.tup [x, y])) → Q (.ref D) H2
/-- many tuples that stand, tracked at once -/
theorem lay_all {P : Program} {w : World} {fs : List Addr} {H0 : Hp} {h h' : Heap} {xs ys : List V} : ∀ (Ts : List Addr) (i : Nat) (H : Hp), Un fs [] H0 H h h' → HOk P w H h' → (∀ T ∈ Ts, H T = none) → Ts.Nodup → (∀ T ∈ Ts, h.objs.size ≤ T) →
    (∀ (j : Nat) T, Ts[j]? = some T → ∃ x y u v, xs[i + j]? = some x ∧ ys[i + j]? = some y ∧ RelV x u ∧ RelV y v ∧ PairAt h' T u v) →
    ∃ H2, Un fs [] H0 H2 h h' ∧ HOk P w H2 h' ∧ Same H H2 ∧ (∀ b, b ∉ Ts → H2 b = H b) ∧ ∀ (j : Nat) T, Ts[j]? = some T → ∃ x y, xs[i + j]? = some x ∧ ys[i + j]? = some y ∧ H2 T = some (.tup [x, y])
  | [], i, H, un, ok, _, _, _, _ => ⟨H, un, ok, Same.refl _, fun _ _ => rfl, fun j T hj => by simp at hj⟩
  | T :: Ts, i, H, un, ok, hn, nd, hs, hp => by
    obtain ⟨x, y, u, v, hx, hy, ru, rv, hT⟩ := hp 0 T rfl
    have nT := hn T (List.mem_cons_self ..)
    have nd' := List.nodup_cons.mp nd
    have ok1 : HOk P w (upd H T (.tup [x, y])) h' := ok.laidN (fun _ _ q => q) nT ⟨sz2', [u, v], .cons ru (.cons rv .nil), ⟨_, hT, rfl, _, rfl⟩⟩
    have un1 : Un fs [] H0 (upd H T (.tup [x, y])) h h' := by
      refine ⟨un.keep, un.slot, fun b o q n hx => ?_, un.there, fun b xs q => ?_, fun b o x q => ?_, fun b ps q => ?_⟩
      · rw [upd_ne (Nat.ne_of_lt (Nat.lt_of_lt_of_le (Heap.lt_size q) (hs T (List.mem_cons_self ..))))]
        exact un.free b o q n hx
      · have e := un.tups b xs q
        rw [upd_ne (ne_of_none e nT)]
        exact e
      · have e := un.frzs b o x q
        rw [upd_ne (ne_of_none e nT)]
        exact e
      · obtain ⟨m, e⟩ := un.tbls b ps q
        exact ⟨m, by rw [upd_ne (ne_of_none e nT)]; exact e⟩
    obtain ⟨H2, a1, a2, a3, a4, a5⟩ := lay_all (xs := xs) (ys := ys) Ts (i + 1) _ un1 ok1 (fun S hS => by
      rw [upd_ne (fun e => nd'.1 (by rw [← e]; exact hS))]
      exact hn S (List.mem_cons_of_mem _ hS)) nd'.2 (fun S hS => hs S (List.mem_cons_of_mem _ hS)) (fun j S hj => by
        have := hp (j + 1) S (by simpa using hj)
        rwa [show i + (j + 1) = i + 1 + j by omega] at this)
    refine ⟨H2, a1, a2, (same_new nT).trans a3, fun b hb => ?_, fun j S hj => ?_⟩
    · rw [a4 b (fun h => hb (List.mem_cons_of_mem _ h)), upd_ne (fun e => hb (by rw [e]; exact List.mem_cons_self ..))]
    · cases j with
      | zero =>
        have e : T = S := Option.some.inj hj
        subst e
        exact ⟨x, y, hx, hy, a3 _ _ upd_same⟩
      | succ j =>
        have := a5 j S (by simpa using hj)
        rwa [show i + 1 + j = i + (j + 1) by omega] at this
theorem pe_listZip {X : Cx} {e e2 : Expr} {ta : TA} {p p2 pos pos2 : Pos} (hc : X.calm = true) (hg : Gl X "list") (hm : X.mg "list" = none) (hg2 : Gl X "zip") (hm2 : X.mg "zip" = none) (ha : PA X [e, e2] ta)
    (na : starEach [Expr.Call (.Name "zip" p2) [e, e2] [] pos2] X.env = (false, eval (Expr.Call (.Name "zip" p2) [e, e2] [] pos2) X.env) :: starEach [] X.env := by rfl)
    (hs : starEach [e, e2] X.env = (false, eval e X.env) :: starEach [e2] X.env := by rfl) (hpl : (backTo pos2 (starEach [e2] X.env)).any (·.1) = false := by rfl) :
    PE X (.Call (.Name "list" p) [.Call (.Name "zip" p2) [e, e2] [] pos2] [] pos) (tListZip X.K ta) := by
  refine ⟨fun pins s σ H Q I h => ?_⟩
  refine Call_ (ld_blt I hg hm boot_list (PyProof.Rows.callWith_type1 (args_cons ?_ na) na))
  refine Call_ (ld_blt I hg2 hm2 PyProof.Rows.boot_zip (PyProof.Rows.callWith_type1 (thn (ha.run pos2 pins s σ H _ I h) fun us s1 ⟨vs, H1, I1, r1, q1⟩ => ?_) hs hpl))
  obtain ⟨a, b, xs, ys, ex, hqx, hqy, hz, q⟩ := q1
  subst ex
  cases r1 with
  | cons r rr =>
    cases rr with
    | cons r' rr =>
      cases rr
      cases r
      cases r'
      obtain ⟨its, rv, p1, _⟩ := I1.list hqx
      obtain ⟨its2, rv2, p2', _⟩ := I1.list hqy
      have la : a < s1.heap.objs.size := let ⟨_, e, _⟩ := p1.isList; Heap.lt_size e
      have lb : b < s1.heap.objs.size := let ⟨_, e, _⟩ := p2'.isList; Heap.lt_size e
      have l1 := rv.length
      have l2 := rv2.length
      refine call_zip_2 p1.isList p2'.isList fun h' hz' hTI hTO h1 h2 hsz hk => args_nil ?_
      refine call_list_zip (s := { s1 with heap := h' }) (I1.ok.hd hc) (PySem.W.ktu_apart s1.heap.objs.size a b la lb) (by rw [List.size_toArray, List.size_toArray]; omega) ?_ hz' hTI ⟨_, _, hTO⟩ h1 h2 (p1.isList.at fun o e => hk _ o e) (p2'.isList.at fun o e => hk _ o e) fun h2 Ts c t1 t2 t3 t4 t5 => ?_
      · intro c hc
        show c < h'.objs.size
        rw [hsz]
        simp only [List.mem_cons, List.not_mem_nil, or_false] at hc
        rcases hc with e | e | e | e | e | e | e <;> rw [e] <;> first | exact lt5 la | exact lt5 lb | exact Nat.add_lt_add_left (by decide) _ | exact Nat.lt_add_of_pos_right (by decide)
      · have hsz' : h'.objs.size = s1.heap.objs.size + 5 := hsz
        have hk2 : ∀ b o, s1.heap.get? b = some o → h2.get? b = some o := fun c o e => by
          have lc := Heap.lt_size e
          exact t5 c o (ne_plus lc) (ne_plus lc) (ne_plus (k := 0) lc) (ne_plus lc) (hk c o e)
        rw [List.size_toArray, List.size_toArray] at t1
        obtain ⟨H2, a1, a2, a3, a4, a5⟩ := lay_all (xs := xs) (ys := ys) (P := X.prog) (w := X.w) (fs := X.fs) (H0 := H1) (h := s1.heap) (h' := h2) Ts 0 H1 (Un.kept hk2) (I1.hok.kept hk2) (fun T hT => by
          obtain ⟨j, hj⟩ := List.mem_iff_getElem?.mp hT
          exact I1.hok.fresh (by have : h'.objs.size < T := (t3 j T hj).1
                                 omega)) t2 (fun T hT => by
          obtain ⟨j, hj⟩ := List.mem_iff_getElem?.mp hT
          have : h'.objs.size < T := (t3 j T hj).1
          omega) (fun j T hj => by
          obtain ⟨_, u, v, hu, hv, hp⟩ := t3 j T hj
          have hu' : its[j]? = some u := by simpa using hu
          have hv' : its2[j]? = some v := by simpa using hv
          have j1 := (List.getElem?_eq_some_iff.mp hu').1
          have j2 := (List.getElem?_eq_some_iff.mp hv').1
          have gx : xs[j]? = some (xs[j]'(by omega)) := List.getElem?_eq_getElem (by omega)
          have gy : ys[j]? = some (ys[j]'(by omega)) := List.getElem?_eq_getElem (by omega)
          refine ⟨_, _, u, v, by rw [Nat.zero_add]; exact gx, by rw [Nat.zero_add]; exact gy, ?_, ?_, hp⟩
          · obtain ⟨u2, e1, e2⟩ := rv.get gx
            rw [hu'] at e1
            cases e1
            exact e2
          · obtain ⟨u2, e1, e2⟩ := rv2.get gy
            rw [hv'] at e1
            cases e1
            exact e2)
        have nD : h'.objs.size ∉ Ts := fun hT => by
          obtain ⟨j, hj⟩ := List.mem_iff_getElem?.mp hT
          have : h'.objs.size < h'.objs.size := (t3 j _ hj).1
          exact Nat.lt_irrefl _ this
        have nH1 : H1 h'.objs.size = none := I1.hok.fresh (by omega)
        have nH2 : H2 h'.objs.size = none := by rw [a4 _ nD]; exact nH1
        have vT : Vals (Ts.map V.ref) (Ts.map Value.ref) := by
          clear t1 t2 t3 t4 a4 a5 nD
          induction Ts with
          | nil => exact .nil
          | cons T Ts ih => exact .cons rfl ih
        have hs1 : 1000 ≤ sizeLine := by decide
        have ok3 : HOk X.prog X.w (upd H2 h'.objs.size (.lst (Ts.map V.ref))) h2 := a2.laidN (fun _ _ q => q) nH2 ⟨by rw [List.length_map]; omega, _, c, vT, t4⟩
        have un3 : Un X.fs [] H1 (upd H2 h'.objs.size (.lst (Ts.map V.ref))) s1.heap h2 := by
          refine ⟨a1.keep, a1.slot, fun b o q n hx => ?_, a1.there, fun b xs q => ?_, fun b o x q => ?_, fun b ps q => ?_⟩
          · have lc := Heap.lt_size q
            rw [upd_ne (Nat.ne_of_lt (Nat.lt_of_lt_of_le lc (by omega)))]
            exact a1.free b o q n hx
          · have e := a1.tups b xs q
            rw [upd_ne (ne_of_none e nH2)]
            exact e
          · have e := a1.frzs b o x q
            rw [upd_ne (ne_of_none e nH2)]
            exact e
          · obtain ⟨m, e⟩ := a1.tbls b ps q
            exact ⟨m, by rw [upd_ne (ne_of_none e nH2)]; exact e⟩
        refine ⟨.ref h'.objs.size, _, I1.un (h' := h2) (t' := s1.toks) un3 ok3, rfl, q _ _ Ts nH1 (a3.trans (same_new nH2)) upd_same (by omega) fun j T hj => ?_⟩
        obtain ⟨x, y, gx, gy, gT⟩ := a5 j T hj
        rw [Nat.zero_add] at gx gy
        exact ⟨x, y, gx, gy, same_new nH2 _ _ gT⟩
end K11

set_option Elab.async false
set_option linter.all false
set_option maxRecDepth 100000
set_option maxHeartbeats 4000000
namespace K11
open PySem PySem.Spec PyProof.Rows L2
abbrev s_law_links : Stmt := top 50
abbrev N_l_links : List Str := ["_law_bag_here", "_law_places", "_law_more", "_law_order", "_law_found", "_law_turn"]
theorem sc_l_links : FnScope N_l_links ["_law_bag_here", "_law_places", "_law_more"] (defScope s_law_links) := ⟨rfl, rfl, rfl, by decide +kernel, rfl, by decide +kernel, by decide +kernel⟩
theorem st_l_links (x0 x1 x2 : V) : L2.start N_l_links [x0, x1, x2] = [some x0, some x1, some x2, none, none, none] := rfl
abbrev s_law_any_sender : Stmt := top 52
abbrev N_l_any_sender : List Str := ["_law_bag_here", "_law_works_here", "_law_places", "_law_more", "_law_many", "_law_arrows", "_law_links_here", "_law_source", "_law_target", "_law_lot", "_law_kind", "_law_hand"]
theorem sc_l_any_sender : FnScope N_l_any_sender ["_law_bag_here", "_law_works_here", "_law_places", "_law_more"] (defScope s_law_any_sender) := ⟨rfl, rfl, rfl, by decide +kernel, rfl, by decide +kernel, by decide +kernel⟩
theorem st_l_any_sender (x0 x1 x2 x3 : V) : L2.start N_l_any_sender [x0, x1, x2, x3] = [some x0, some x1, some x2, some x3, none, none, none, none, none, none, none, none] := rfl
abbrev s_law_held_sender : Stmt := top 51
abbrev N_l_held_sender : List Str := ["_law_bag_here", "_law_works_here", "_law_places", "_law_more", "_law_many", "_law_total", "_law_marks", "_law_place", "_law_arrows", "_law_source", "_law_target", "_law_arrow_here"]
theorem sc_l_held_sender : FnScope N_l_held_sender ["_law_bag_here", "_law_works_here", "_law_places", "_law_more"] (defScope s_law_held_sender) := ⟨rfl, rfl, rfl, by decide +kernel, rfl, by decide +kernel, by decide +kernel⟩
theorem st_l_held_sender (x0 x1 x2 x3 : V) : L2.start N_l_held_sender [x0, x1, x2, x3] = [some x0, some x1, some x2, some x3, none, none, none, none, none, none, none, none] := rfl
def PrAt (H : Hp) (v : V) (p : Int × Int) : Prop := ∃ a, v = .ref a ∧ H a = some (.tup [.int p.1, .int p.2])
theorem PrAt.tp {H H' : Hp} {v : V} {p : Int × Int} (h : PrAt H v p) (e : Tp H H') : PrAt H' v p := by
  obtain ⟨a, rfl, h⟩ := h
  exact ⟨a, rfl, e.1 _ _ h⟩
def InR (n : Int) (p : Int × Int) : Prop := 0 ≤ p.1 ∧ p.1 < n ∧ 0 ≤ p.2 ∧ p.2 < n
def spLinks : Sp := fun vs H Q _ => ∃ b, ∃ n m : Int, vs = [b, .int n, .int m] ∧ BagAt H b ∧ 1 ≤ n ∧ n ≤ 8 ∧ 0 ≤ m ∧ m ≤ 8 ∧ Ret H Q fun v H' => ∃ p ys prs, v = .ref p ∧ H p = none ∧ H' p = some (.lst ys) ∧ Paired (PrAt H') ys prs ∧ (∀ q ∈ prs, InR n q) ∧ ys.length ≤ 64
def SnOk (W : Wk) (S : Sn) : Prop := S.arrows.length ≤ 64 ∧ ∀ A ∈ S.arrows, ArOk W A
def spSender : Sp := fun vs H Q _ => ∃ b w W, ∃ n m : Int, vs = [b, w, .int n, .int m] ∧ BagAt H b ∧ WkAt H w W ∧ WkOk W ∧ 1 ≤ n ∧ n ≤ 7 ∧ 0 ≤ m ∧ m ≤ 8 ∧ Ret H Q fun v H' => ∃ S, SnAt H' v S ∧ SnOk W S
theorem atI_end {α : Type} {xs : List α} (h : xs ≠ []) : ∃ v, atI xs (-1) = some v ∧ v ∈ xs := by
  rcases List.eq_nil_or_concat xs with e | ⟨l, v, e⟩
  · exact absurd e h
  · subst e
    rw [List.concat_eq_append]
    exact ⟨v, atI_last l v, by simp⟩
/-- a list of arrows that is being made -/
def ArsAt (W : Wk) (m : Nat) (H : Hp) (p : Addr) : Prop := ∃ xs As, H p = some (.lst xs) ∧ Paired (ArAt H) xs As ∧ (∀ A ∈ As, ArOk W A) ∧ As.length ≤ m
theorem ArsAt.same {W : Wk} {m : Nat} {H H' : Hp} {p : Addr} (h : ArsAt W m H p) (e : Same H H') : ArsAt W m H' p := by
  obtain ⟨xs, rs, h1, h2, h3, h4⟩ := h
  exact ⟨xs, rs, e _ _ h1, Paired.mapP h2 fun _ _ q => q.tp (tp_same e), h3, h4⟩
theorem ArsAt.app {W : Wk} {m : Nat} {H : Hp} {p : Addr} {v : V} {xs : List V} {rs : List Ar} {r : Ar} (h1 : H p = some (.lst xs)) (h2 : Paired (ArAt H) xs rs) (h3 : ∀ r ∈ rs, ArOk W r) (h4 : rs.length ≤ m) (hv : ArAt H v r) (hr : ArOk W r) :
    ArsAt W (m + 1) (upd H p (.lst (xs ++ [v]))) p :=
  ⟨_, rs ++ [r], upd_same, Paired.snoc (Paired.mapP h2 fun _ _ q => q.tp (tp_lst h1)) (hv.tp (tp_lst h1)), fun x hx => by
    rcases List.mem_append.mp hx with q | q
    · exact h3 x q
    · rw [List.mem_singleton.mp q]
      exact hr, by rw [List.length_append, List.length_singleton]; omega⟩
theorem paired_mk {α : Type} {F : V → α → Prop} {P : α → Prop} : ∀ {xs : List V}, (∀ v ∈ xs, ∃ a, F v a ∧ P a) → ∃ l, Paired F xs l ∧ ∀ a ∈ l, P a
  | [], _ => ⟨[], .nil, by simp⟩
  | x :: xs, h => by
    obtain ⟨a, h1, h2⟩ := h x (List.mem_cons_self ..)
    obtain ⟨l, h3, h4⟩ := paired_mk (xs := xs) fun v hv => h v (List.mem_cons_of_mem _ hv)
    refine ⟨a :: l, .cons h1 h3, fun b hb => ?_⟩
    rcases List.mem_cons.mp hb with rfl | hb
    · exact h2
    · exact h4 b hb
section
variable {P : Program} {w : World} {K : PySem.W.Frag} {mg : Str → Option Value} {base : Heap} {f : Addr} {fd : FuncData}
theorem ok_llinks (F : FnP K "_law_links" s_law_links f fd) (B : Bt mg) (C_l_take : Cl P w K mg base CX0 1 "_law_take" ["_law_bag_here", "_law_many"] spTake) (C_l_one : Cl P w K mg base CX0 2 "_law_one" ["_law_bag_here", "_law_things"] spOne)
    (C_l_mixed : Cl P w K mg base CX0 2 "_law_mixed" ["_law_bag_here", "_law_things"] spMixed) : FnOk P w K mg base CX0 3 f fd ["_law_bag_here", "_law_places", "_law_more"] spLinks := by
  refine F.ok sc_l_links (fun vs H Q E h => ?_) (fun cdv A outer s H vs Q E hr h => ?_)
  · obtain ⟨b, n, m, rfl, _⟩ := h
    rfl
  · obtain ⟨b, n, m, rfl, hb, n1, n8, m0, m8, k⟩ := h
    refine ⟨_, PSs.nox (pss_cons (ps_set (i := 3) sc_l_links.nd rfl (Or.inl rfl) (pe_op op_cat (pe_lst (pa_cons pe_int pa_nil)) (pe_c C_l_mixed hr (by decide) (by rfl) (pa_cons (pv 0) (pa_cons (pe_listRg rfl (by rfl) B.list (prg_2 (by rfl) B.range pe_int (pv 1))) pa_nil)))))
      (pss_cons (ps_set (i := 4) sc_l_links.nd rfl (Or.inl rfl) (pe_op op_cat (pe_listZip rfl (by rfl) B.list (by rfl) B.zip (pa_cons (pv 3) (pa_cons (pe_slice sl_list (pv 3) (po_some pe_int) po_none) pa_nil))) (pe_lst (pa_cons (pe_tup (pa_cons (pe_ix ix_list (pv 3) (pe_un un_neg pe_int) (fun _ _ => rfl)) (pa_cons (pe_c C_l_one hr (by decide) (by rfl) (pa_cons (pv 0) (pa_cons (pv 3) pa_nil))) pa_nil))) pa_nil))))
      (pss_cons (ps_for PassesOwn.never rfl (pi_range1 (by rfl) B.range (pa_cons (pe_c C_l_take hr (by decide) (by rfl) (pa_cons (pv 0) (pa_cons (pe_op op_add (pv 2) pe_int) pa_nil))) pa_nil)) (pg_name (i := 5) sc_l_links.nd rfl (Or.inl rfl))
        (pss_one (ps_expr (pe_bm PySem.F.plainAttrs_list PySem.F.slot_list_append PySem.F.type_list_append mt_append (pv 4) (pa_cons (pe_tup (pa_cons (pe_c C_l_take hr (by decide) (by rfl) (pa_cons (pv 0) (pa_cons (pv 1) pa_nil))) (pa_cons (pe_c C_l_take hr (by decide) (by rfl) (pa_cons (pv 0) (pa_cons (pv 1) pa_nil))) pa_nil))) pa_nil)))))
      (pss_one (ps_ret (pe_c C_l_mixed hr (by decide) (by rfl) (pa_cons (pv 0) (pa_cons (pv 4) pa_nil)))))))), ?_⟩
    rw [st_l_links]
    have big := line_big
    refine ⟨sz1, fun d0 hd0 => ?_⟩
    have A0 := same_new (o := .lst [V.int 0]) hd0
    refine ⟨_, rfl, _, rfl, 1, n, rfl, rfl, .of_le (by omega) (by omega) (by omega) (by omega), fun d1 hd1 => ?_⟩
    have A1 := A0.trans (same_new (o := .lst (rgV 1 n)) hd1)
    have lrg : (rgV 1 n).length ≤ 8 := by rw [rgV_length]; omega
    refine ⟨b, d1, _, rfl, hb.same A1, upd_same, by omega, fun v H2 sm2 e2 => ?_⟩
    obtain ⟨d2, ys, rfl, _, h2, pm⟩ := e2
    have ly := pm.length_eq
    have A2 := A1.trans sm2
    refine ⟨d0, d2, _, _, rfl, rfl, sm2 _ _ (same_new hd1 _ _ upd_same), h2, by rw [List.length_singleton]; omega, fun d3 hd3 => ?_⟩
    have A3 := A2.trans (same_new (o := .lst ([V.int 0] ++ ys)) hd3)
    have hin : ∀ v ∈ [V.int 0] ++ ys, ∃ i : Int, v = .int i ∧ 0 ≤ i ∧ i < n := fun v hv => by
      rcases List.mem_append.mp hv with q | q
      · exact ⟨0, List.mem_singleton.mp q, Int.le_refl _, by omega⟩
      · have := pm.mem_iff.mp q
        unfold rgV at this
        obtain ⟨i, hi, rfl⟩ := List.mem_map.mp this
        have := List.mem_range.mp hi
        exact ⟨_, rfl, by omega, by omega⟩
    generalize eos : [V.int 0] ++ ys = os at hin A3
    have los : os.length ≤ 9 := by rw [← eos]; simp; omega
    have nos : os ≠ [] := by rw [← eos]; simp
    have hos : upd H2 d3 (.lst os) d3 = some (.lst os) := upd_same
    generalize upd H2 d3 (.lst os) = H3 at A3 hos
    refine ⟨_, rfl, _, rfl, 1, rfl, d3, _, rfl, SqL.of hos, fun d4 hd4 => ?_⟩
    have A4 := A3.trans (same_new (o := .lst (cutV os (some 1) none)) hd4)
    rw [show (1 : Int) = ((1 : Nat) : Int) from rfl, cut_from]
    refine ⟨d3, d4, _, _, rfl, SqL.of (same_new hd4 _ _ hos), SqL.of upd_same, by rw [List.length_drop]; omega, fun d5 H5 Ts h5 sm5 e5 l5 t5 => ?_⟩
    have B4 := same_new (o := .lst (os.drop 1)) hd4
    have A5 : Same H H5 := (A3.trans B4).trans sm5
    have hos5 := sm5 _ _ (B4 _ _ hos)
    obtain ⟨ve, hve, mve⟩ := atI_end nos
    obtain ⟨ie, rfl, ie0, ie1⟩ := hin ve mve
    refine ⟨_, rfl, 1, rfl, d3, _, -1, _, rfl, rfl, SqL.of hos5, hve, ?_⟩
    refine ⟨_, rfl, _, rfl, b, d3, _, rfl, hb.same A5, hos5, nos, by omega, fun v H6 sm6 e6 => ?_⟩
    obtain ⟨io, rfl, io0, io1⟩ := hin v e6
    refine ⟨sz2, fun d7 hd7 => ⟨sz1, fun d8 hd8 => ?_⟩⟩
    have A7 := (A5.trans sm6).trans (same_new (o := .tup [V.int ie, V.int io]) hd7)
    have B7 := sm6.trans (same_new (o := .tup [V.int ie, V.int io]) hd7)
    have A8 := A7.trans (same_new (o := .lst [V.ref d7]) hd8)
    have lz : Ts.length ≤ 9 := by rw [l5, List.length_drop]; omega
    refine ⟨d5, d8, _, _, rfl, rfl, same_new hd8 _ _ (B7 _ _ e5), upd_same, by simp; omega, fun p hp => ?_⟩
    have B8 := B7.trans (same_new (o := .lst [V.ref d7]) hd8)
    have A9 := A8.trans (same_new (o := .lst (Ts.map V.ref ++ [V.ref d7])) hp)
    have B9 := B8.trans (same_new (o := .lst (Ts.map V.ref ++ [V.ref d7])) hp)
    have np : H p = none := none_back A8 hp
    have hprs : ∃ prs, Paired (PrAt (upd (upd (upd H6 d7 (.tup [V.int ie, V.int io])) d8 (.lst [V.ref d7])) p (.lst (Ts.map V.ref ++ [V.ref d7])))) (Ts.map V.ref ++ [V.ref d7]) prs ∧ ∀ q ∈ prs, InR n q := by
      refine paired_mk fun v hv => ?_
      rcases List.mem_append.mp hv with q | q
      · obtain ⟨T, hT, rfl⟩ := List.mem_map.mp q
        obtain ⟨j, hj⟩ := List.mem_iff_getElem?.mp hT
        obtain ⟨x, y, hx, hy, hxy⟩ := t5 j T hj
        obtain ⟨i1, rfl, i10, i11⟩ := hin x (List.mem_of_getElem? hx)
        obtain ⟨i2, rfl, i20, i21⟩ := hin y (List.mem_of_mem_drop (List.mem_of_getElem? hy))
        exact ⟨(i1, i2), ⟨T, rfl, B9 _ _ hxy⟩, i10, i11, i20, i21⟩
      · rw [List.mem_singleton.mp q]
        exact ⟨(ie, io), ⟨d7, rfl, same_new hp _ _ (same_new hd8 _ _ upd_same)⟩, ie0, ie1, io0, io1⟩
    obtain ⟨prs, hpp, hpr⟩ := hprs
    have l10 : (Ts.map V.ref ++ [V.ref d7]).length ≤ 10 := by simp; omega
    have hpl : upd (upd (upd H6 d7 (.tup [V.int ie, V.int io])) d8 (.lst [V.ref d7])) p (.lst (Ts.map V.ref ++ [V.ref d7])) p = some (.lst (Ts.map V.ref ++ [V.ref d7])) := upd_same
    generalize upd (upd (upd H6 d7 (.tup [V.int ie, V.int io])) d8 (.lst [V.ref d7])) p (.lst (Ts.map V.ref ++ [V.ref d7])) = H9 at A9 hpp hpl
    generalize Ts.map V.ref ++ [V.ref d7] = ps at hpp l10 hpl
    refine ⟨_, rfl, _, rfl, m, 1, rfl, rfl, _, _, rfl, hb.same A9, by omega, by omega, fun v H10 sm10 e10 => ?_⟩
    obtain ⟨tn, rfl, tn0, tn1⟩ := e10
    obtain ⟨nn, rfl⟩ : ∃ nn : Nat, tn = nn := ⟨tn.toNat, by omega⟩
    refine ⟨_, rfl, by omega, by omega, ?_⟩
    rw [Int.toNat_natCast]
    refine for_it (walk_r0 (n := nn)) (fun i σ H' => ∃ o5 ps prs, σ = [some b, some (.int n), some (.int m), some (.ref d3), some (.ref p), o5] ∧ Same H H' ∧ H' p = some (.lst ps) ∧ Paired (PrAt H') ps prs ∧ (∀ q ∈ prs, InR n q) ∧ ps.length ≤ 10 + i) ?_ (fun _ _ _ _ _ => trivial) ?_ ?_
    · exact ⟨_, ps, prs, rfl, A9.trans sm10, sm10 _ _ hpl, Paired.mapP hpp fun _ _ q => q.tp (tp_same sm10), hpr, l10⟩
    · clear hpp hpr l10 hpl
      rintro i x σ H11 H12 hi ⟨o5, ps, prs, rfl, sm, hpl, hpp, hpr, l10⟩ ⟨rfl, rfl⟩
      refine ⟨_, rfl, .inl ⟨rfl, _, SqL.of hpl⟩, _, rfl, _, rfl, _, _, rfl, hb.same sm, by omega, by omega, fun v H13 sm13 e13 => ?_⟩
      obtain ⟨i1, rfl, i10, i11⟩ := e13
      refine ⟨_, rfl, _, rfl, _, _, rfl, hb.same (sm.trans sm13), by omega, by omega, fun v H14 sm14 e14 => ?_⟩
      obtain ⟨i2, rfl, i20, i21⟩ := e14
      refine ⟨sz2, fun t ht => ?_⟩
      have S := (sm13.trans sm14).trans (same_new (o := .tup [V.int i1, V.int i2]) ht)
      refine ⟨p, ps, .ref t, rfl, rfl, S _ _ hpl, by omega, ?_⟩
      have T := tp_lst (o := .lst (ps ++ [V.ref t])) (S _ _ hpl)
      refine ⟨_, ps ++ [V.ref t], prs ++ [(i1, i2)], rfl, same_mut (sm.trans S) np, upd_same, Paired.snoc (Paired.mapP hpp fun _ _ q => (q.tp (tp_same S)).tp T) ⟨t, rfl, T.1 _ _ upd_same⟩, fun q hq => ?_, by rw [List.length_append, List.length_singleton]; omega⟩
      rcases List.mem_append.mp hq with h | h
      · exact hpr q h
      · rw [List.mem_singleton.mp h]
        exact ⟨i10, i11, i20, i21⟩
    · clear hpp hpr l10 hpl
      rintro σ H11 ⟨o5, ps, prs, rfl, sm, hpl, hpp, hpr, l10⟩
      refine ⟨_, rfl, _, rfl, b, p, ps, rfl, hb.same sm, hpl, by omega, fun v H12 sm12 e12 => ?_⟩
      obtain ⟨q, zs, rfl, nq, hq, pm2⟩ := e12
      obtain ⟨ss, p1, p2⟩ := paired_perm pm2 hpp
      refine k _ _ (sm.trans sm12) ⟨q, zs, ss, rfl, none_back sm nq, hq, Paired.mapP p1 fun _ _ q => q.tp (tp_same sm12), fun x hx => hpr x (p2.mem_iff.mp hx), by rw [pm2.length_eq]; omega⟩
theorem ok_lany (F : FnP K "_law_any_sender" s_law_any_sender f fd) (B : Bt mg) (C_l_take : Cl P w K mg base CX0 1 "_law_take" ["_law_bag_here", "_law_many"] spTake) (C_l_one : Cl P w K mg base CX0 2 "_law_one" ["_law_bag_here", "_law_things"] spOne)
    (C_l_links : Cl P w K mg base CX0 3 "_law_links" ["_law_bag_here", "_law_places", "_law_more"] spLinks) : FnOk P w K mg base CX0 4 f fd ["_law_bag_here", "_law_works_here", "_law_places", "_law_more"] spSender := by
  refine F.ok sc_l_any_sender (fun vs H Q E h => ?_) (fun cdv A outer s H vs Q E hr h => ?_)
  · obtain ⟨b, w, W, n, m, rfl, _⟩ := h
    rfl
  · obtain ⟨b, _, W, n, m, rfl, hb, hwk, wk, n1, n7, m0, m8, k⟩ := h
    have hw0 := hwk
    obtain ⟨aw, xk, xh, _, rfl, hw, ⟨pk, rfl, hk⟩, ⟨ph, oh, rfl, hh, hcl, hdn⟩, ⟨pr, rs, rfl, hr', pp⟩⟩ := hw0
    have big := line_big
    have k1 := wk.1
    have k8 := wk.2.1
    have h8 := wk.2.2.1
    refine ⟨_, PSs.nox (pss_cons (ps_par (i := 4) (j := 5) rfl sc_l_any_sender.nd rfl rfl (by decide) rfl rfl (pa_cons (pe_op op_add pe_int (pe_c C_l_take hr (by decide) (by rfl) (pa_cons (pv 0) (pa_cons (pv 2) pa_nil)))) (pa_cons (pe_lst pa_nil) pa_nil)) (by rfl))
      (pss_cons (ps_set (i := 6) sc_l_any_sender.nd rfl (Or.inl rfl) (pe_c C_l_links hr (by decide) (by rfl) (pa_cons (pv 0) (pa_cons (pv 4) (pa_cons (pv 3) pa_nil)))))
      (pss_cons (ps_for PassesOwn.never rfl (pi_list (pe_slice sl_list (pv 6) po_none (po_some (pe_c C_l_one hr (by decide) (by rfl) (pa_cons (pv 0) (pa_cons (pe_lst (pa_cons (pe_callB call_len_seq (by rfl) B.len (by decide +kernel) (pa_cons (pv 6) pa_nil)) (pa_cons (pe_callB call_len_seq (by rfl) B.len (by decide +kernel) (pa_cons (pv 6) pa_nil)) (pa_cons (pe_c C_l_take hr (by decide) (by rfl) (pa_cons (pv 0) (pa_cons (pe_op op_add (pe_callB call_len_seq (by rfl) B.len (by decide +kernel) (pa_cons (pv 6) pa_nil)) pe_int) pa_nil))) pa_nil)))) pa_nil)))))) (pg_tup rfl (pgs_cons (pg_name (i := 7) sc_l_any_sender.nd rfl (Or.inl rfl)) (pgs_cons (pg_name (i := 8) sc_l_any_sender.nd rfl (Or.inl rfl)) pgs_nil)))
        (pss_cons (ps_set (i := 9) sc_l_any_sender.nd rfl (Or.inl rfl) (pe_callTy call_tuple_of (by rfl) B.tuple (by decide +kernel) (pa_cons (pe_lcx (own := [("_law_kind", 10)]) (g := (gName 10)) rfl sc_l_any_sender.nd (pi_tup (pe_ix ix_tup (pv 1) pe_int (fun _ _ => rfl))) (blkOk_by (own := [("_law_kind", 10)]) (N := N_l_any_sender) (sc := (defScope s_law_any_sender)) (by decide +kernel)) (fun _ _ _ _ _ => (pg_name (i := 10) sc_l_any_sender.nd rfl (Or.inl rfl))) (fun _ _ _ _ _ => pts_nil) (fun _ _ _ _ _ => (pe_c C_l_one hr (by decide) (by rfl) (pa_cons (pv 0) (pa_cons (pe_lst (pa_cons pe_int (pa_cons pe_int (pa_cons pe_int (pa_cons pe_int (pa_cons pe_int pa_nil)))))) pa_nil))))) pa_nil)))
      (pss_one (ps_expr (pe_bm PySem.F.plainAttrs_list PySem.F.slot_list_append PySem.F.type_list_append mt_append (pv 5) (pa_cons (pe_tup (pa_cons (pv 7) (pa_cons (pv 8) (pa_cons (pv 9) (pa_cons (pe_callTy call_tuple_of (by rfl) B.tuple (by decide +kernel) (pa_cons (pe_lcx (own := [("_law_hand", 11)]) (g := (gName 11)) rfl sc_l_any_sender.nd (pi_tup (pe_ix ix_tup (pv 1) pe_int (fun _ _ => rfl))) (blkOk_by (own := [("_law_hand", 11)]) (N := N_l_any_sender) (sc := (defScope s_law_any_sender)) (by decide +kernel)) (fun _ _ _ _ _ => (pg_name (i := 11) sc_l_any_sender.nd rfl (Or.inl rfl))) (fun _ _ _ _ _ => pts_nil) (fun _ _ _ _ _ => (pe_c C_l_one hr (by decide) (by rfl) (pa_cons (pv 0) (pa_cons (pe_lst (pa_cons pe_int (pa_cons pe_int (pa_cons pe_int (pa_cons pe_int pa_nil))))) pa_nil))))) pa_nil)) pa_nil))))) pa_nil))))))
      (pss_one (ps_ret (pe_tup (pa_cons (pv 4) (pa_cons (pe_callTy call_tuple_of (by rfl) B.tuple (by decide +kernel) (pa_cons (pv 5) pa_nil)) pa_nil)))))))), ?_⟩
    rw [st_l_any_sender]
    refine ⟨_, rfl, _, rfl, _, _, rfl, hb, by omega, by omega, fun v H1 sm1 e1 => ?_⟩
    obtain ⟨z, rfl, z0, z1⟩ := e1
    refine ⟨1, z, rfl, rfl, Nat.zero_le _, fun p hp => ⟨_, _, rfl, ?_⟩⟩
    have np : H p = none := none_back sm1 hp
    have A2 := sm1.trans (same_new (o := .lst []) hp)
    have ep : upd H1 p (.lst []) p = some (.lst []) := upd_same
    generalize upd H1 p (.lst []) = H2 at A2 ep
    refine ⟨_, rfl, _, rfl, _, rfl, b, _, m, rfl, hb.same A2, by omega, by omega, m0, m8, fun v H3 sm3 e3 => ?_⟩
    obtain ⟨q, ys, prs, rfl, _, hq, hpp, hpr, ly⟩ := e3
    have A3 := A2.trans sm3
    refine ⟨_, rfl, _, rfl, _, rfl, q, ys, rfl, .inl (SqL.of hq), _, rfl, q, ys, rfl, .inl (SqL.of hq), _, rfl, _, rfl, q, ys, rfl, .inl (SqL.of hq), _, 1, rfl, rfl, _, _, rfl, hb.same A3, by omega, by omega, fun v H4 sm4 e4 => ?_⟩
    obtain ⟨c, rfl, c0, c1⟩ := e4
    refine ⟨sz3, fun g hg => ?_⟩
    have A4 := (A3.trans sm4).trans (same_new (o := .lst [V.int (ys.length : Nat), V.int (ys.length : Nat), V.int c]) hg)
    have B4 := sm4.trans (same_new (o := .lst [V.int (ys.length : Nat), V.int (ys.length : Nat), V.int c]) hg)
    refine ⟨b, g, _, rfl, hb.same A4, upd_same, by simp, by simp, fun v H5 sm5 e5 => ?_⟩
    have hcut : ∃ d : Nat, v = .int d := by
      simp only [List.mem_cons, List.not_mem_nil, or_false] at e5
      rcases e5 with rfl | rfl | rfl
      · exact ⟨_, rfl⟩
      · exact ⟨_, rfl⟩
      · exact ⟨c.toNat, by rw [Int.toNat_of_nonneg c0]⟩
    obtain ⟨d, rfl⟩ := hcut
    have A5 := A4.trans sm5
    have B5 := B4.trans sm5
    refine ⟨_, rfl, q, _, rfl, SqL.of (B5 _ _ hq), fun l hl => ?_⟩
    rw [cut_to]
    refine ⟨l, rfl, ⟨_, SqL.of upd_same⟩, ?_⟩
    have A6 := A5.trans (same_new (o := .lst (ys.take d)) hl)
    have B6 := B5.trans (same_new (o := .lst (ys.take d)) hl)
    have hpp2 := paired_take d (Paired.mapP hpp fun _ _ q => q.tp (tp_same B6))
    have hpr2 : ∀ q ∈ prs.take d, InR (1 + z) q := fun q hq => hpr q (List.mem_of_mem_take hq)
    have ll : (ys.take d).length ≤ 64 := by rw [List.length_take]; omega
    have el : upd H5 l (.lst (ys.take d)) l = some (.lst (ys.take d)) := upd_same
    have ep6 := B6 _ _ (sm3 _ _ ep)
    have lp : l ≠ p := fun e => by rw [e, B5 _ _ (sm3 _ _ ep)] at hl; cases hl
    generalize upd H5 l (.lst (ys.take d)) = H6 at A6 hpp2 el ep6
    generalize ys.take d = zs at hpp2 ll el
    generalize prs.take d = prz at hpp2 hpr2
    refine for_it (walk_list (xs := zs)) (fun i σ H' => ∃ o7 o8 o9 o10 o11, σ = [some b, some (.ref aw), some (.int n), some (.int m), some (.int (1 + z)), some (.ref p), some (.ref q), o7, o8, o9, o10, o11] ∧ Same H H' ∧ H' l = some (.lst zs) ∧ Paired (PrAt H') zs prz ∧ ArsAt W i H' p) ?_ ?_ ?_ ?_
    · exact ⟨_, _, _, _, _, rfl, A6, el, hpp2, [], [], ep6, .nil, by simp, Nat.le_refl _⟩
    · rintro i σ H' hi ⟨_, _, _, _, _, _, _, hl, _⟩
      exact SqL.of hl
    · clear hpp2 el ep6
      rintro i x σ H7 H8 hi ⟨o7, o8, o9, o10, o11, rfl, sm, el, hpp2, ars⟩ ⟨rfl, hx⟩
      obtain ⟨⟨i1, i2⟩, hp12, t, rfl, ht⟩ := paired_getL hpp2 hx
      have rng := hpr2 _ (List.mem_of_getElem? hp12)
      refine ⟨t, _, rfl, SqT.of ht, rfl, _, _, rfl, _, _, rfl, rfl, ?_⟩
      refine ⟨_, rfl, aw, _, 0, _, rfl, rfl, SqT.of (sm _ _ hw), rfl, pk, rfl, ⟨_, SqT.of (sm _ _ hk)⟩, ?_⟩
      refine lcT (SqT.of (sm _ _ hk)) (fun _ => true) (fun i y _ => ∃ n : Int, (0 ≤ n ∧ n ≤ 9) ∧ y = .int n) (fun _ _ _ _ _ h => h) (by rw [List.length_map]; omega) (by decide) (fun q' x H' hx sm9 => elt_yes fun Q hQ => ?_) (fun D H9 ns hD sm9 e9 pr9 => ?_)
      · refine ⟨_, rfl, by show 5 ≤ sizeLine; omega, fun e he => ?_⟩
        have A1 := same_new (o := .lst [V.int 0, V.int 0, V.int 1, V.int 0, V.int 2]) he
        refine ⟨b, e, _, rfl, hb.same ((sm.trans sm9).trans A1), upd_same, by simp, by simp, fun v H10 sm10 e10 => hQ _ _ (A1.trans sm10) ?_⟩
        simp only [List.mem_cons, List.not_mem_nil, or_false] at e10
        rcases e10 with rfl | rfl | rfl | rfl | rfl <;> exact ⟨_, by decide, rfl⟩
      · obtain ⟨am, rfl, ham⟩ := paired_ch (F := V.int) (P := fun n => 0 ≤ n ∧ n ≤ 9) pr9
        have lam := paired_len pr9
        rw [filter_true, List.length_range, List.length_map, List.length_map] at lam
        refine ⟨D, _, rfl, .inl ⟨SqL.of e9, fun d1 hd1 => ?_⟩⟩
        have S1 := sm9.trans (same_new (o := .tup (am.map V.int)) hd1)
        obtain ⟨xs, As, q1, q2, q3, q4⟩ := ars.same S1
        have hd1' : upd H9 d1 (.tup (am.map V.int)) d1 = some (.tup (am.map V.int)) := upd_same
        have el' := S1 _ _ el
        have S2 := sm.trans S1
        have hpp3 : Paired (PrAt (upd H9 d1 (.tup (am.map V.int)))) zs prz := Paired.mapP hpp2 fun _ _ q => q.tp (tp_same S1)
        generalize upd H9 d1 (.tup (am.map V.int)) = H10 at S1 q1 q2 hd1' el' S2 hpp3
        refine ⟨_, rfl, .inl ⟨rfl, _, SqL.of q1⟩, _, rfl, _, rfl, _, rfl, ?_⟩
        refine ⟨_, rfl, aw, _, 1, _, rfl, rfl, SqT.of (S2 _ _ hw), rfl, ph, rfl, ⟨_, .inl (.inr ⟨oh, S2 _ _ hh⟩)⟩, ?_⟩
        refine lcT (.inl (.inr ⟨oh, S2 _ _ hh⟩)) (fun _ => true) (fun i y _ => ∃ n : Int, (0 ≤ n ∧ n ≤ 9) ∧ y = .int n) (fun _ _ _ _ _ h => h) (by rw [List.length_map]; omega) (by decide) (fun q' x H' hx sm11 => elt_yes fun Q hQ => ?_) (fun D2 H11 ns hD2 sm11 e11 pr11 => ?_)
        · refine ⟨_, rfl, sz4, fun e he => ?_⟩
          have A1 := same_new (o := .lst [V.int 0, V.int 1, V.int 0, V.int 2]) he
          refine ⟨b, e, _, rfl, hb.same ((S2.trans sm11).trans A1), upd_same, by simp, by simp, fun v H10 sm10 e10 => hQ _ _ (A1.trans sm10) ?_⟩
          simp only [List.mem_cons, List.not_mem_nil, or_false] at e10
          rcases e10 with rfl | rfl | rfl | rfl <;> exact ⟨_, by decide, rfl⟩
        · obtain ⟨cr, rfl, hcr⟩ := paired_ch (F := V.int) (P := fun n => 0 ≤ n ∧ n ≤ 9) pr11
          have lcr := paired_len pr11
          rw [filter_true, List.length_range, List.length_map, List.length_map] at lcr
          refine ⟨D2, _, rfl, .inl ⟨SqL.of e11, fun d2 hd2 => ⟨sz4, fun a ha => ?_⟩⟩⟩
          have S3 := (sm11.trans (same_new (o := .tup (cr.map V.int)) hd2)).trans (same_new (o := .tup [V.int i1, V.int i2, V.ref d1, V.ref d2]) ha)
          have lx := paired_len q2
          refine ⟨p, xs, _, rfl, rfl, S3 _ _ q1, by omega, ?_⟩
          have T := tp_lst (o := .lst (xs ++ [V.ref a])) (S3 _ _ q1)
          refine ⟨_, _, _, _, _, rfl, same_mut (S2.trans S3) np, by rw [upd_ne lp]; exact S3 _ _ el', Paired.mapP hpp3 fun _ _ q => (q.tp (tp_same S3)).tp T, ?_⟩
          refine ArsAt.app (S3 _ _ q1) (Paired.mapP q2 fun _ _ q => q.tp (tp_same S3)) q3 q4 (r := ⟨i1, i2, am, cr⟩) ⟨a, _, _, rfl, upd_same, ⟨d1, rfl, S3 _ _ hd1'⟩, ⟨d2, rfl, same_new ha _ _ upd_same⟩⟩ ⟨lam.symm, lcr.symm, fun x hx => ham x hx, fun x hx => hcr x hx⟩
    · clear hpp2 el ep6
      rintro σ H7 ⟨o7, o8, o9, o10, o11, rfl, sm, el, hpp2, xs, As, q1, q2, q3, q4⟩
      refine ⟨_, rfl, _, rfl, p, _, rfl, .inl ⟨SqL.of q1, fun d hd => ⟨sz2, fun a ha => ?_⟩⟩⟩
      have S := (same_new (o := .tup xs) hd).trans (same_new (o := .tup [V.int (1 + z), V.ref d]) ha)
      exact k _ _ (sm.trans S) ⟨⟨1 + z, As⟩, ⟨a, _, rfl, upd_same, d, xs, rfl, same_new ha _ _ upd_same, Paired.mapP q2 fun _ _ q => q.tp (tp_same S)⟩, by show As.length ≤ 64; omega, q3⟩
end
end K11

set_option Elab.async false
set_option linter.all false
set_option maxRecDepth 100000
set_option maxHeartbeats 1000000
namespace K11
open PySem PySem.Spec PyProof.Rows L2
abbrev s_law_bent_sender : Stmt := top 53
abbrev N_l_bent_sender : List Str := ["_law_bag_here", "_law_works_here", "_law_sender_here", "_law_at", "_law_source", "_law_target", "_law_lot", "_law_crew", "_law_place", "_law_hands"]
theorem sc_l_bent_sender : FnScope N_l_bent_sender ["_law_bag_here", "_law_works_here", "_law_sender_here"] (defScope s_law_bent_sender) := ⟨rfl, rfl, rfl, by decide +kernel, rfl, by decide +kernel, by decide +kernel⟩
theorem st_l_bent_sender (x0 x1 x2 : V) : L2.start N_l_bent_sender [x0, x1, x2] = [some x0, some x1, some x2, none, none, none, none, none, none, none] := rfl
abbrev s_law_sender : Stmt := top 54
abbrev N_l_sender : List Str := ["_law_bag_here", "_law_works_here", "_law_places", "_law_more", "_law_way", "_law_found"]
theorem sc_l_sender : FnScope N_l_sender ["_law_bag_here", "_law_works_here", "_law_places", "_law_more"] (defScope s_law_sender) := ⟨rfl, rfl, rfl, by decide +kernel, rfl, by decide +kernel, by decide +kernel⟩
theorem st_l_sender (x0 x1 x2 x3 : V) : L2.start N_l_sender [x0, x1, x2, x3] = [some x0, some x1, some x2, some x3, none, none] := rfl
abbrev s_law_arrows_from : Stmt := top 55
abbrev N_l_arrows_from : List Str := ["_law_sender_here", "_law_place", "_law_index"]
theorem sc_l_arrows_from : FnScope N_l_arrows_from ["_law_sender_here", "_law_place"] (defScope s_law_arrows_from) := ⟨rfl, rfl, rfl, by decide +kernel, rfl, by decide +kernel, by decide +kernel⟩
theorem st_l_arrows_from (x0 x1 : V) : L2.start N_l_arrows_from [x0, x1] = [some x0, some x1, none] := rfl
abbrev s_law_run : Stmt := top 56
abbrev N_l_run : List Str := ["_law_bag_here", "_law_sender_here", "_law_many", "_law_place", "_law_found", "_law_last", "_law_change", "_law_turn", "_law_some", "_law_index"]
theorem sc_l_run : FnScope N_l_run ["_law_bag_here", "_law_sender_here", "_law_many"] (defScope s_law_run) := ⟨rfl, rfl, rfl, by decide +kernel, rfl, by decide +kernel, by decide +kernel⟩
theorem st_l_run (x0 x1 x2 : V) : L2.start N_l_run [x0, x1, x2] = [some x0, some x1, some x2, none, none, none, none, none, none, none] := rfl
theorem und_zero (t : List Int) {n : Nat} (h : Bd n t) : Und (List.replicate t.length 0) t := ⟨List.length_replicate, fun k m j h1 h2 => by
  have := List.eq_of_mem_replicate (List.mem_of_getElem? h1)
  have := h j (List.mem_of_getElem? h2)
  omega⟩
def spBent : Sp := fun vs H Q _ => ∃ b w v W S, vs = [b, w, v] ∧ BagAt H b ∧ WkOk W ∧ SnAt H v S ∧ SnOk W S ∧ Ret H Q fun v H' => ∃ S, SnAt H' v S ∧ SnOk W S
def spFrom : Sp := fun vs H Q _ => ∃ v S, ∃ i : Int, vs = [v, .int i] ∧ SnAt H v S ∧ S.arrows.length ≤ 64 ∧ Ret H Q fun v H' => ∃ p, ∃ ns : List Int, v = .ref p ∧ H' p = some (.lst (ns.map V.int)) ∧ ns.length ≤ 64 ∧ ∀ i ∈ ns, 0 ≤ i ∧ i < S.arrows.length
def spRun : Sp := fun vs H Q _ => ∃ b v S, ∃ n : Nat, vs = [b, v, .int n] ∧ BagAt H b ∧ SnAt H v S ∧ S.arrows.length ≤ 64 ∧ n ≤ 100 ∧ Ret H Q fun v H' => ∃ ns : List Int, TupI H' v ns ∧ ns.length ≤ n ∧ ∀ i ∈ ns, 0 ≤ i ∧ i < S.arrows.length
theorem set_mk {K : PySem.W.Frag} {σ : L2.St} {H : Hp} {Q : VK} {tx ty tj : TE} {a : Addr} {xs : List V} {j : Nat} (Py : V → Hp → Prop) (hPy : ∀ y H H', Same H H' → Py y H → Py y H') (htx : ∀ H' (Q : VK), Same H H' → Q (.ref a) H' → tx σ H' Q) (htj : ∀ H' (Q : VK), Q (.int (j : Nat)) H' → tj σ H' Q)
    (hty : ∀ H' (Q : VK), Same H H' → (∀ y H2, Same H' H2 → Py y H2 → Q y H2) → ty σ H' Q) (ha : H a = some (.tup xs)) (hj : j < xs.length) (hl : xs.length ≤ 1000) (h : ∀ v y H', Same H H' → Py y H' → TupV H' v (xs.set j y) → Q v H') :
    tOp (rCatA K) (tOp (rCatA K) (tSl (rSlA K) tx tNoPart (tPart tj)) (tTup (tCons ty tNil))) (tSl (rSlA K) tx (tPart (tOp (rI0 fun i j => V.int (i + j)) tj (tC (.int 1)))) tNoPart) σ H Q := by
  have big := line_big
  refine htx _ _ (Same.refl _) (htj _ _ ⟨j, rfl, sl_mk ha fun v1 H1 s1 e1 => ?_⟩)
  rw [cut_to] at e1
  obtain ⟨b1, rfl, e1⟩ := e1
  refine hty _ _ s1 fun y H2 s2 p2 => ⟨sz1, fun b2 hb2 => ?_⟩
  have S2 := s2.trans (same_new (o := .tup [y]) hb2)
  refine cat_mk ⟨b1, rfl, S2 _ _ e1⟩ ⟨b2, rfl, upd_same⟩ (by simp; omega) fun v3 H3 s3 e3 => ?_
  obtain ⟨b3, rfl, e3⟩ := e3
  have S3 := (s1.trans S2).trans s3
  refine htx _ _ S3 (htj _ _ ⟨j, 1, rfl, rfl, _, rfl, ?_⟩)
  unfold tNoPart
  refine sl_mk (S3 _ _ ha) fun v4 H4 s4 e4 => ?_
  rw [show ((j : Nat) : Int) + 1 = ((j + 1 : Nat) : Int) by omega, cut_from] at e4
  refine cat_mk ⟨b3, rfl, s4 _ _ e3⟩ e4 (by simp; omega) fun v5 H5 s5 e5 => ?_
  rw [set_cut xs j y hj] at e5
  exact h v5 y H5 ((S3.trans s4).trans s5) (hPy _ _ _ ((((same_new hb2).trans s3).trans s4).trans s5) p2) e5
section
variable {P : Program} {w : World} {K : PySem.W.Frag} {mg : Str → Option Value} {base : Heap} {f : Addr} {fd : FuncData}
theorem ok_lheld (F : FnP K "_law_held_sender" s_law_held_sender f fd) (B : Bt mg) (C_l_take : Cl P w K mg base CX0 1 "_law_take" ["_law_bag_here", "_law_many"] spTake)
    (C_l_planted : Cl P w K mg base CX0 3 "_law_planted" ["_law_bag_here", "_law_works_here", "_law_most"] spPlanted) (C_l_nothing : Cl P w K mg base CX0 1 "_law_nothing" ["_law_works_here"] spNo)
    (C_l_part : Cl P w K mg base CX0 2 "_law_part" ["_law_bag_here", "_law_lot"] spPart) (C_l_links : Cl P w K mg base CX0 3 "_law_links" ["_law_bag_here", "_law_places", "_law_more"] spLinks)
    (C_l_arrow : Cl P w K mg base CX0 2 "_law_arrow" ["_law_works_here", "_law_source", "_law_target", "_law_total", "_law_marks"] spArrow) :
    FnOk P w K mg base CX0 4 f fd ["_law_bag_here", "_law_works_here", "_law_places", "_law_more"] spSender := by
  refine F.ok sc_l_held_sender (fun vs H Q E h => ?_) (fun cdv A outer s H vs Q E hr h => ?_)
  · obtain ⟨b, w, W, n, m, rfl, _⟩ := h
    rfl
  · obtain ⟨b, _, W, n, m, rfl, hb, hwk, wk, n1, n7, m0, m8, k⟩ := h
    have hw0 := hwk
    obtain ⟨aw, xk, xh, _, rfl, hw, ⟨pk, rfl, hk⟩, ⟨ph, oh, rfl, hh, hcl, hdn⟩, ⟨pr, rs, rfl, hr', pp⟩⟩ := hw0
    have big := line_big
    have k1 := wk.1
    have k8 := wk.2.1
    have h8 := wk.2.2.1
    refine ⟨_, PSs.nox (pss_cons (ps_par (i := 4) (j := 5) rfl sc_l_held_sender.nd rfl rfl (by decide) rfl rfl (pa_cons (pe_op op_add pe_int (pe_c C_l_take hr (by decide) (by rfl) (pa_cons (pv 0) (pa_cons (pv 2) pa_nil)))) (pa_cons (pe_c C_l_planted hr (by decide) (by rfl) (pa_cons (pv 0) (pa_cons (pv 1) (pa_cons pe_int pa_nil)))) pa_nil)) (by rfl))
      (pss_cons (ps_set (i := 6) sc_l_held_sender.nd rfl (Or.inl rfl) (pe_lst (pa_cons (pe_tup (pa_cons (pe_c C_l_nothing hr (by decide) (by rfl) (pa_cons (pv 1) pa_nil)) (pa_cons (pe_op op_repA (pe_tup (pa_cons pe_int pa_nil)) (pe_callB call_len_seq (by rfl) B.len (by decide +kernel) (pa_cons (pe_ix ix_tup (pv 1) pe_int (fun _ _ => rfl)) pa_nil))) pa_nil))) pa_nil)))
      (pss_cons (ps_for PassesOwn.never rfl (pi_range2 (by rfl) B.range (pa_cons pe_int (pa_cons (pv 4) pa_nil))) (pg_name (i := 7) sc_l_held_sender.nd rfl (Or.inl rfl))
        (pss_one (ps_expr (pe_bm PySem.F.plainAttrs_list PySem.F.slot_list_append PySem.F.type_list_append mt_append (pv 6) (pa_cons (pe_tup (pa_cons (pe_c C_l_part hr (by decide) (by rfl) (pa_cons (pv 0) (pa_cons (pe_ix ix_tup (pv 5) pe_int (fun _ _ => rfl)) pa_nil))) (pa_cons (pe_c C_l_part hr (by decide) (by rfl) (pa_cons (pv 0) (pa_cons (pe_ix ix_tup (pv 5) pe_int (fun _ _ => rfl)) pa_nil))) pa_nil))) pa_nil)))))
      (pss_cons (ps_set (i := 8) sc_l_held_sender.nd rfl (Or.inl rfl) (pe_lst pa_nil))
      (pss_cons (ps_for PassesOwn.never rfl (pi_list (pe_c C_l_links hr (by decide) (by rfl) (pa_cons (pv 0) (pa_cons (pv 4) (pa_cons (pv 3) pa_nil))))) (pg_tup rfl (pgs_cons (pg_name (i := 9) sc_l_held_sender.nd rfl (Or.inl rfl)) (pgs_cons (pg_name (i := 10) sc_l_held_sender.nd rfl (Or.inl rfl)) pgs_nil)))
        (pss_cons (ps_set (i := 11) sc_l_held_sender.nd rfl (Or.inl rfl) (pe_c C_l_arrow hr (by decide) (by rfl) (pa_cons (pv 1) (pa_cons (pv 9) (pa_cons (pv 10) (pa_cons (pv 5) (pa_cons (pv 6) pa_nil)))))))
      (pss_cons (ps_if (PW.pt (pw_and (pt_cmpR op_eq (pv 9) (pv 10) (nomark _)) (pw_and1 (pt_cmpR op_eq (pe_c C_l_take hr (by decide) (by rfl) (pa_cons (pv 0) (pa_cons pe_int pa_nil))) pe_int (nomark _))))) (pss_one (ps_set (i := 11) sc_l_held_sender.nd rfl (Or.inl rfl) (pe_op op_catA (pe_slice sl_tupA (pv 11) po_none (po_some pe_int)) (pe_slice sl_tupA (pv 5) po_none (po_some pe_int))))) pss_nil)
      (pss_one (ps_expr (pe_bm PySem.F.plainAttrs_list PySem.F.slot_list_append PySem.F.type_list_append mt_append (pv 8) (pa_cons (pv 11) pa_nil)))))))
      (pss_one (ps_ret (pe_tup (pa_cons (pv 4) (pa_cons (pe_callTy call_tuple_of (by rfl) B.tuple (by decide +kernel) (pa_cons (pv 8) pa_nil)) pa_nil)))))))))), ?_⟩
    rw [st_l_held_sender]
    refine ⟨_, rfl, _, rfl, _, _, rfl, hb, by omega, by omega, fun v H1 sm1 e1 => ?_⟩
    obtain ⟨z, rfl, z0, z1⟩ := e1
    refine ⟨1, z, rfl, rfl, _, rfl, _, rfl, b, _, W, 2, rfl, hb.same sm1, hwk.tp (tp_same sm1), wk, by decide, by decide, fun v H2 sm2 e2 => ⟨_, _, rfl, ?_⟩⟩
    obtain ⟨lots, crs, ept⟩ := e2
    have A2 := sm1.trans sm2
    refine ⟨_, rfl, _, W, rfl, hwk.tp (tp_same A2), wk, fun v3 H3 sm3 e3 => ?_⟩
    refine ⟨sz1, fun d0 hd0 => ?_⟩
    have A3 := (A2.trans sm3).trans (same_new (o := .tup [V.int 0]) hd0)
    refine ⟨_, rfl, aw, _, 1, _, rfl, rfl, SqT.of (A3 _ _ hw), rfl, ph, _, rfl, .inr (.inl (.inr ⟨oh, A3 _ _ hh⟩)), d0, _, _, rfl, rfl, upd_same, by rw [List.length_map]; omega, fun v4 H4 sm4 e4 => ?_⟩
    obtain ⟨d4, rfl, e4⟩ := e4
    refine ⟨sz2, fun d5 hd5 => ⟨sz1, fun p hp => ?_⟩⟩
    have B4 := (((same_new (o := .tup [V.int 0]) hd0).trans sm4).trans (same_new (o := .tup [v3, V.ref d4]) hd5)).trans (same_new (o := .lst [V.ref d5]) hp)
    have A5 := (A2.trans sm3).trans B4
    have np : H p = none := none_back ((A3.trans sm4).trans (same_new (o := .tup [v3, V.ref d4]) hd5)) hp
    have ept5 := ept.tp (tp_same (sm3.trans B4))
    obtain ⟨tp, tx, ty, tz, rfl, htp, htx, hty, ll, lc, bl, bc⟩ := ept5
    have hms : ∃ xs ms, upd (upd H4 d5 (.tup [v3, V.ref d4])) p (.lst [V.ref d5]) p = some (.lst xs) ∧ Paired (StAt (upd (upd H4 d5 (.tup [v3, V.ref d4])) p (.lst [V.ref d5]))) xs ms ∧ (∀ m ∈ ms, Und m.1 lots ∧ Und m.2 crs) ∧ ms.length = 1 := by
      refine ⟨[V.ref d5], [(List.replicate W.kinds.length 0, List.replicate W.hands.length 0)], upd_same, .cons ⟨d5, _, _, rfl, same_new hp _ _ upd_same, ?_, ⟨d4, rfl, ?_⟩⟩ .nil, fun m hm => ?_, rfl⟩
      · exact e3.tp (tp_same B4)
      · rw [same_new hp _ _ (same_new hd5 _ _ e4), List.length_map, rep_map V.int]
      · rw [List.mem_singleton.mp hm, ← ll, ← lc]
        exact ⟨und_zero lots bl, und_zero crs bc⟩
    generalize upd (upd H4 d5 (.tup [v3, V.ref d4])) p (.lst [V.ref d5]) = H5 at A5 hms htp htx hty
    refine ⟨_, rfl, 1, 1 + z, rfl, ⟨by omega, by omega, by omega, by omega⟩, ?_⟩
    generalize ez : (1 + z - 1).toNat = zn
    refine for_it (walk_range (lo := 1) (n := zn)) (fun i σ H' => ∃ o7 o8 o9 o10 o11 xs ms, σ = [some b, some (.ref aw), some (.int n), some (.int m), some (.int (1 + z)), some (.ref tp), some (.ref p), o7, o8, o9, o10, o11] ∧ Same H H' ∧
      H' tp = some (.tup [tx, ty, tz]) ∧ TupI H' tx lots ∧ TupI H' ty crs ∧ H' p = some (.lst xs) ∧ Paired (StAt H') xs ms ∧ (∀ m ∈ ms, Und m.1 lots ∧ Und m.2 crs) ∧ ms.length = 1 + i) ?_ (fun _ _ _ _ _ => trivial) ?_ ?_
    · obtain ⟨xs, ms, q1, q2, q3, q4⟩ := hms
      exact ⟨_, _, _, _, _, xs, ms, rfl, A5, htp, htx, hty, q1, q2, q3, q4⟩
    · clear hms htp htx hty ept
      rintro i x σ H6 H7 hi ⟨o7, o8, o9, o10, o11, xs, ms, rfl, sm, htp, htx, hty, q1, q2, q3, q4⟩ ⟨rfl, rfl⟩
      refine ⟨_, rfl, .inl ⟨rfl, _, SqL.of q1⟩, _, rfl, _, rfl, tp, _, 0, _, rfl, rfl, SqT.of htp, rfl, b, tx, lots, rfl, hb.same sm, htx, by omega, fun n hn => ?_, fun v8 H8 sm8 e8 => ?_⟩
      · have := bl n hn
        omega
      obtain ⟨ns1, t1, l1, u1⟩ := e8
      refine ⟨_, rfl, _, rfl, tp, _, 1, _, rfl, rfl, SqT.of (sm8 _ _ htp), rfl, b, ty, crs, rfl, hb.same (sm.trans sm8), hty.tp (tp_same sm8), by omega, fun n hn => ?_, fun v9 H9 sm9 e9 => ?_⟩
      · have := bc n hn
        omega
      obtain ⟨ns2, t2, l2, u2⟩ := e9
      refine ⟨sz2, fun t ht => ?_⟩
      have S := (sm8.trans sm9).trans (same_new (o := .tup [v8, v9]) ht)
      have lx := paired_len q2
      refine ⟨p, xs, .ref t, rfl, rfl, S _ _ q1, by omega, ?_⟩
      have T := tp_lst (o := .lst (xs ++ [V.ref t])) (S _ _ q1)
      refine ⟨_, _, _, _, _, xs ++ [V.ref t], ms ++ [(ns1, ns2)], rfl, same_mut (sm.trans S) np, T.1 _ _ (S _ _ htp), (htx.tp (tp_same S)).tp T, (hty.tp (tp_same S)).tp T, upd_same, Paired.snoc (Paired.mapP q2 fun _ _ q => (q.tp (tp_same S)).tp T) ?_, fun m' hm => ?_, by rw [List.length_append, List.length_singleton]; omega⟩
      · exact ⟨t, v8, v9, rfl, T.1 _ _ upd_same, (t1.tp (tp_same (sm9.trans (same_new ht)))).tp T, (t2.tp (tp_new ht)).tp T⟩
      · rcases List.mem_append.mp hm with h | h
        · exact q3 m' h
        · rw [List.mem_singleton.mp h]
          exact ⟨⟨l1, u1⟩, ⟨l2, u2⟩⟩
    · clear hms htp htx hty ept
      rintro σ H6 ⟨o7, o8, o9, o10, o11, xs, ms, rfl, sm, htp, htx, hty, q1, q2, q3, q4⟩
      refine ⟨Nat.zero_le _, fun r hr2 => ?_⟩
      have A7 := sm.trans (same_new (o := .lst []) hr2)
      have nr : H r = none := none_back sm hr2
      refine ⟨_, rfl, _, rfl, _, rfl, b, _, m, rfl, hb.same A7, by omega, by omega, m0, m8, fun v8 H8 sm8 e8 => ?_⟩
      obtain ⟨q, ys, prs, rfl, nq8, hq, hpp, hpr, ly⟩ := e8
      have B8 := (same_new (o := .lst []) hr2).trans sm8
      refine ⟨q, rfl, ⟨_, SqL.of hq⟩, ?_⟩
      refine for_it (walk_list (xs := ys)) (fun i σ H' => ∃ o7 o9 o10 o11, σ = [some b, some (.ref aw), some (.int n), some (.int m), some (.int (1 + z)), some (.ref tp), some (.ref p), o7, some (.ref r), o9, o10, o11] ∧ Same H H' ∧
        H' tp = some (.tup [tx, ty, tz]) ∧ TupI H' tx lots ∧ TupI H' ty crs ∧ H' p = some (.lst xs) ∧ Paired (StAt H') xs ms ∧ H' q = some (.lst ys) ∧ Paired (PrAt H') ys prs ∧ r ≠ p ∧ r ≠ q ∧ ArsAt W i H' r) ?_ ?_ ?_ ?_
      · refine ⟨_, _, _, _, rfl, A7.trans sm8, B8 _ _ htp, htx.tp (tp_same B8), hty.tp (tp_same B8), B8 _ _ q1, Paired.mapP q2 fun _ _ q => q.tp (tp_same B8), hq, hpp, (ne_of_none q1 hr2).symm, ?_, [], [], sm8 _ _ upd_same, .nil, by simp, Nat.le_refl _⟩
        exact ne_of_none upd_same nq8
      · rintro i σ H' hi ⟨_, _, _, _, _, _, _, _, _, _, _, hl, _⟩
        exact SqL.of hl
      · clear htp htx hty q1 q2 hq hpp
        rintro i x σ H9 H10 hi ⟨o7, o9, o10, o11, rfl, sm, htp, htx, hty, q1, q2, hq, hpp, nrp, nrq, ars⟩ ⟨rfl, hx⟩
        obtain ⟨⟨i1, i2⟩, hp12, t, rfl, ht⟩ := paired_getL hpp hx
        have rng := hpr _ (List.mem_of_getElem? hp12)
        unfold InR at rng
        refine ⟨t, _, rfl, SqT.of ht, rfl, _, _, rfl, _, _, rfl, rfl, ?_⟩
        refine ⟨_, rfl, _, rfl, _, rfl, _, rfl, _, rfl, _, _, W, i1, i2, p, xs, ms, lots, crs, rfl, hwk.tp (tp_same sm), wk, ⟨tp, tx, ty, tz, rfl, htp, htx, hty, ll, lc, bl, bc⟩, q1, q2, rng.1, by simp only [] at rng; omega, rng.2.2.1, by simp only [] at rng; omega, q3, fun v11 H11 sm11 e11 => ?_⟩
        obtain ⟨A, hA, okA⟩ := e11
        unfold gName
        dsimp only
        refine seq_cut (t := tIfS _ _ _) (fun σ H' => ∃ va A, σ = [some b, some (.ref aw), some (.int n), some (.int m), some (.int (1 + z)), some (.ref tp), some (.ref p), o7, some (.ref r), some (.int i1), some (.int i2), some va] ∧ Same H10 H' ∧ ArAt H' va A ∧ ArOk W A) ?_ ?_
        · rintro σ H12 ⟨va, A, rfl, sm12, hA, okA⟩
          obtain ⟨zs, As, g1, g2, g3, g4⟩ := ars.same sm12
          have lz := paired_len g2
          refine ⟨_, rfl, .inl ⟨rfl, _, SqL.of g1⟩, _, rfl, r, zs, va, rfl, rfl, g1, by omega, ?_⟩
          have T := tp_lst (o := .lst (zs ++ [va])) g1
          exact ⟨_, _, _, _, rfl, same_mut (sm.trans sm12) nr, T.1 _ _ (sm12 _ _ htp), (htx.tp (tp_same sm12)).tp T, (hty.tp (tp_same sm12)).tp T, by rw [upd_ne nrp.symm]; exact sm12 _ _ q1, Paired.mapP q2 fun _ _ q => (q.tp (tp_same sm12)).tp T,
            by rw [upd_ne nrq.symm]; exact sm12 _ _ hq, Paired.mapP hpp fun _ _ q => (q.tp (tp_same sm12)).tp T, nrp, nrq, ArsAt.app g1 g2 g3 g4 hA okA⟩
        · intro tail
          refine ⟨_, rfl, _, rfl, rfl, _, rfl, ?_⟩
          by_cases h12 : i1 = i2
          · rw [show decide (V.int i1 = V.int i2) = true from decide_eq_true (by rw [h12])]
            refine ⟨_, rfl, _, _, rfl, hb.same (sm.trans sm11), by omega, by omega, fun v12 H12 sm12 e12 => ?_⟩
            obtain ⟨c, rfl, c0, c2⟩ := e12
            have S12 := sm11.trans sm12
            refine ⟨rfl, _, rfl, ?_⟩
            by_cases hc : c = 0
            · rw [show decide (V.int c = V.int 0) = true from decide_eq_true (by rw [hc])]
              obtain ⟨aa, x1, x2, rfl, ha, _, _⟩ := hA
              refine ⟨_, rfl, 2, rfl, sl_mk (sm12 _ _ ha) fun v13 H13 sm13 e13 => ?_⟩
              rw [show (2 : Int) = ((2 : Nat) : Int) from rfl, cut_to] at e13
              have S13 := S12.trans sm13
              refine ⟨_, rfl, 2, rfl, sl_mk (S13 _ _ htp) fun v14 H14 sm14 e14 => ?_⟩
              rw [show (2 : Int) = ((2 : Nat) : Int) from rfl, cut_to] at e14
              obtain ⟨b13, rfl, e13⟩ := e13
              refine cat_mk ⟨b13, rfl, sm14 _ _ e13⟩ e14 (by simp; omega) fun v15 H15 sm15 e15 => ?_
              obtain ⟨b15, rfl, e15⟩ := e15
              have S15 := (S13.trans sm14).trans sm15
              exact tail _ _ ⟨_, ⟨A.s, A.t, lots, crs⟩, rfl, S15, ⟨b15, _, _, rfl, e15, htx.tp (tp_same S15), hty.tp (tp_same S15)⟩, ll, lc, bl.mono (by decide), bc.mono (by decide)⟩
            · rw [show decide (V.int c = V.int 0) = false from decide_eq_false fun e => hc (V.int.inj e)]
              exact tail _ _ ⟨_, A, rfl, S12, hA.tp (tp_same sm12), okA⟩
          · rw [show decide (V.int i1 = V.int i2) = false from decide_eq_false fun e => h12 (V.int.inj e)]
            exact tail _ _ ⟨_, A, rfl, sm11, hA, okA⟩
      · clear htp htx hty q1 q2 hq hpp
        rintro σ H7 ⟨o7, o9, o10, o11, rfl, sm, htp, htx, hty, q1, q2, hq, hpp, nrp, nrq, zs, As, g1, g2, g3, g4⟩
        refine ⟨_, rfl, _, rfl, r, _, rfl, .inl ⟨SqL.of g1, fun d hd => ⟨sz2, fun a ha => ?_⟩⟩⟩
        have S := (same_new (o := .tup zs) hd).trans (same_new (o := .tup [V.int (1 + z), V.ref d]) ha)
        exact k _ _ (sm.trans S) ⟨⟨1 + z, As⟩, ⟨a, _, rfl, upd_same, d, zs, rfl, same_new ha _ _ upd_same, Paired.mapP g2 fun _ _ q => q.tp (tp_same S)⟩, by show As.length ≤ 64; omega, g3⟩
theorem paired_set {α β : Type} {F : α → β → Prop} : ∀ {xs : List α} {rs : List β} (j : Nat) {x : α} {r : β}, Paired F xs rs → F x r → Paired F (xs.set j x) (rs.set j r)
  | _, _, _, _, _, .nil, _ => .nil
  | _, _, 0, _, _, .cons h t, q => .cons q t
  | _, _, j + 1, _, _, .cons h t, q => .cons h (paired_set j t q)
theorem ok_lbent (F : FnP K "_law_bent_sender" s_law_bent_sender f fd) (B : Bt mg) (C_l_take : Cl P w K mg base CX0 1 "_law_take" ["_law_bag_here", "_law_many"] spTake) (C_l_one : Cl P w K mg base CX0 2 "_law_one" ["_law_bag_here", "_law_things"] spOne) :
    FnOk P w K mg base CX0 3 f fd ["_law_bag_here", "_law_works_here", "_law_sender_here"] spBent := by
  refine F.ok sc_l_bent_sender (fun vs H Q E h => ?_) (fun cdv A outer s H vs Q E hr h => ?_)
  · obtain ⟨b, w, v, W, S, rfl, _⟩ := h
    rfl
  · obtain ⟨b, w, _, W, S, rfl, hb, wk, ⟨ps, _, rfl, hs, ⟨pa, xs, rfl, hpa, pp⟩⟩, ⟨l64, okA⟩, k⟩ := h
    have big := line_big
    have k1 := wk.1
    have k8 := wk.2.1
    have h8 := wk.2.2.1
    have lx := paired_len pp
    refine ⟨_, PSs.nox (pss_cons (ps_if (pt_cmpR (op_eqD hr.units) (pe_ix ix_tup (pv 2) pe_int (fun _ _ => rfl)) (pe_tup pa_nil) (nomark _)) (pss_one (ps_ret (pv 2))) pss_nil)
      (pss_cons (ps_set (i := 3) sc_l_bent_sender.nd rfl (Or.inl rfl) (pe_c C_l_take hr (by decide) (by rfl) (pa_cons (pv 0) (pa_cons (pe_callB call_len_seq (by rfl) B.len (by decide +kernel) (pa_cons (pe_ix ix_tup (pv 2) pe_int (fun _ _ => rfl)) pa_nil)) pa_nil))))
      (pss_cons (ps_asg (pe_ix ix_tup (pe_ix ix_tup (pv 2) pe_int (fun _ _ => rfl)) (pv 3) (fun _ _ => rfl)) (pg_tup rfl (pgs_cons (pg_name (i := 4) sc_l_bent_sender.nd rfl (Or.inl rfl)) (pgs_cons (pg_name (i := 5) sc_l_bent_sender.nd rfl (Or.inl rfl)) (pgs_cons (pg_name (i := 6) sc_l_bent_sender.nd rfl (Or.inl rfl)) (pgs_cons (pg_name (i := 7) sc_l_bent_sender.nd rfl (Or.inr rfl)) pgs_nil))))))
      (pss_cons (ps_setLcx (i := 9) (own := [("_law_place", 8)]) (g := (gName 8)) rfl sc_l_bent_sender.nd rfl rfl (sw_true rfl rfl rfl (by decide +kernel)) (pi_range1 (by rfl) B.range (pa_cons (pe_callB call_len_seq (by rfl) B.len (by decide +kernel) (pa_cons (pv 7) pa_nil)) pa_nil)) (blkOk_by (own := [("_law_place", 8)]) (N := N_l_bent_sender) (sc := (defScope s_law_bent_sender)) (by decide +kernel)) (fun _ _ _ _ _ => (pg_name (i := 8) sc_l_bent_sender.nd rfl (Or.inl rfl))) (fun _ _ _ _ _ => (pts_one (pt_cmpR op_gt (pe_ix (r := rIxT K) ix_tup (pv 7) (pv 8) (fun _ _ => rfl)) pe_int (nomark _)))) (fun _ _ _ _ _ => (pv 8)))
      (pss_cons (ps_if (PW.pt (pw_and (pt_cmpR (op_neD hr.units) (pv 9) (pe_lst pa_nil) (nomark _)) (pw_and1 (pt_cmpR op_eq (pe_c C_l_take hr (by decide) (by rfl) (pa_cons (pv 0) (pa_cons pe_int pa_nil))) pe_int (nomark _))))) (pss_cons (ps_set (i := 8) sc_l_bent_sender.nd rfl (Or.inl rfl) (pe_c C_l_one hr (by decide) (by rfl) (pa_cons (pv 0) (pa_cons (pv 9) pa_nil))))
      (pss_one (ps_set (i := 7) sc_l_bent_sender.nd rfl (Or.inr rfl) (pe_op op_catA (pe_op op_catA (pe_slice sl_tupA (pv 7) po_none (po_some (pv 8))) (pe_tup (pa_cons (pe_op op_sub (pe_ix ix_tup (pv 7) (pv 8) (fun _ _ => rfl)) pe_int) pa_nil))) (pe_slice sl_tupA (pv 7) (po_some (pe_op op_add (pv 8) pe_int)) po_none))))) (pss_cons (ps_set (i := 8) sc_l_bent_sender.nd rfl (Or.inl rfl) (pe_c C_l_take hr (by decide) (by rfl) (pa_cons (pv 0) (pa_cons (pe_callB call_len_seq (by rfl) B.len (by decide +kernel) (pa_cons (pv 6) pa_nil)) pa_nil))))
      (pss_one (ps_set (i := 6) sc_l_bent_sender.nd rfl (Or.inl rfl) (pe_op op_catA (pe_op op_catA (pe_slice sl_tupA (pv 6) po_none (po_some (pv 8))) (pe_tup (pa_cons (pe_callB (call_min2 rfl) (by rfl) B.min_ (by decide +kernel) (pa_cons pe_int (pa_cons (pe_op op_add (pe_ix ix_tup (pv 6) (pv 8) (fun _ _ => rfl)) pe_int) pa_nil))) pa_nil))) (pe_slice sl_tupA (pv 6) (po_some (pe_op op_add (pv 8) pe_int)) po_none))))))
      (pss_one (ps_ret (pe_tup (pa_cons (pe_ix ix_tup (pv 2) pe_int (fun _ _ => rfl)) (pa_cons (pe_op op_catA (pe_op op_catA (pe_slice sl_tupA (pe_ix ix_tup (pv 2) pe_int (fun _ _ => rfl)) po_none (po_some (pv 3))) (pe_tup (pa_cons (pe_tup (pa_cons (pv 4) (pa_cons (pv 5) (pa_cons (pv 6) (pa_cons (pv 7) pa_nil))))) pa_nil))) (pe_slice sl_tupA (pe_ix ix_tup (pv 2) pe_int (fun _ _ => rfl)) (po_some (pe_op op_add (pv 3) pe_int)) po_none)) pa_nil)))))))))), ?_⟩
    rw [st_l_bent_sender]
    refine ⟨_, rfl, ps, _, 1, _, rfl, rfl, SqT.of hs, rfl, Nat.zero_le _, fun e he => ?_⟩
    have A1 := same_new (o := .tup []) he
    refine ⟨_, _, .tup (SqT.of (A1 _ _ hpa)) (dpAll_paired (F := ArAt (upd H e (.tup []))) (fun _ _ q => dp_A q) (Paired.mapP pp fun _ _ q => q.tp (tp_same A1))), .tup (SqT.of upd_same) .nil, (lt_tup (n := 2) fun d hd => ?_).shaped, by decide, _, rfl, ?_⟩
    · obtain ⟨r, hr, rfl⟩ := List.mem_map.mp hd
      exact lt_A r
    rw [eqv_nilT]
    cases eA : S.arrows with
    | nil => exact ⟨_, rfl, k _ _ A1 ⟨S, ⟨ps, _, rfl, A1 _ _ hs, pa, xs, rfl, A1 _ _ hpa, Paired.mapP pp fun _ _ q => q.tp (tp_same A1)⟩, l64, okA⟩⟩
    | cons a0 as0 =>
      have lpos : 0 < S.arrows.length := by rw [eA]; simp
      rw [List.map_cons]
      clear eA
      refine ⟨_, rfl, _, rfl, ps, _, 1, _, rfl, rfl, SqT.of (A1 _ _ hs), rfl, pa, xs, rfl, .inr (SqT.of (A1 _ _ hpa)), _, _, rfl, hb.same A1, by omega, by omega, fun v H2 sm2 e2 => ?_⟩
      obtain ⟨z, rfl, z0, z1⟩ := e2
      obtain ⟨at', rfl⟩ : ∃ n : Nat, z = n := ⟨z.toNat, by omega⟩
      have A2 := A1.trans sm2
      have gA : S.arrows[at']? = some (S.arrows[at']'(by omega)) := List.getElem?_eq_getElem (by omega)
      generalize (S.arrows[at']'(by omega)) = Ar0 at gA
      obtain ⟨va, hva, ar, _, _, rfl, har, ⟨pl, rfl, hpl⟩, ⟨pc, rfl, hpc⟩⟩ := paired_get pp gA
      obtain ⟨o1, o2, o3, o4⟩ := okA Ar0 (List.mem_of_getElem? gA)
      refine ⟨_, rfl, ps, _, 1, _, rfl, rfl, SqT.of (A2 _ _ hs), rfl, _, rfl, pa, _, (at' : Nat), _, rfl, rfl, SqT.of (A2 _ _ hpa), atI_nat hva, ar, _, rfl, SqT.of (A2 _ _ har), rfl, _, _, rfl, _, _, rfl, _, _, rfl, _, _, rfl, rfl, ?_⟩
      refine ⟨_, rfl, pc, _, rfl, .inr (SqT.of (A2 _ _ hpc)), _, rfl, by omega, by rw [List.length_map]; omega, ?_⟩
      rw [Int.toNat_natCast, List.length_map]
      refine lcR (fun i => decide (0 < Ar0.cr.getD i 0)) (fun i y _ => y = .int (i : Nat)) (fun _ _ _ _ _ h => h) (by omega) (by decide) (fun i H' hi sm => ?_) (fun D H3 ys hD sm3 e3 pr3 => ?_)
      · intro Kc N hK hN
        rw [Int.zero_add]
        have g1 : Ar0.cr[i]? = some (Ar0.cr.getD i 0) := by rw [List.getD_eq_getElem?_getD, List.getElem?_eq_getElem (by omega)]; rfl
        refine ⟨_, rfl, _, rfl, pc, _, (i : Nat), _, rfl, rfl, SqT.of (sm _ _ (A2 _ _ hpc)), atI_nat (map_at g1), _, 0, rfl, rfl, _, rfl, ?_⟩
        generalize Ar0.cr.getD i 0 = c at hK hN
        by_cases h1 : 0 < c
        · rw [decide_eq_true h1]
          exact ⟨_, rfl, hK (decide_eq_true h1) _ _ (Same.refl _) rfl⟩
        · rw [decide_eq_false h1]
          exact hN (decide_eq_false h1) _ (Same.refl _)
      · have ey := paired_eq (v := fun i => V.int (i : Nat)) pr3
        have hns : ∃ ns : List Int, ys = ns.map V.int ∧ ns.length ≤ 8 ∧ ∀ x ∈ ns, ∃ (j : Nat) (c : Int), x = (j : Nat) ∧ Ar0.cr[j]? = some c ∧ 0 < c := by
          refine ⟨((List.range Ar0.cr.length).filter fun i : Nat => decide (0 < Ar0.cr.getD i 0)).map (fun i : Nat => (i : Int)), by rw [ey, List.map_map]; rfl, ?_, fun x hx => ?_⟩
          · rw [List.length_map]
            refine Nat.le_trans (List.length_filter_le _ _) ?_
            rw [List.length_range]
            omega
          · obtain ⟨n, hn, rfl⟩ := List.mem_map.mp hx
            obtain ⟨h1, h2⟩ := List.mem_filter.mp hn
            have h1 := List.mem_range.mp h1
            have g1 : Ar0.cr[n]? = some (Ar0.cr.getD n 0) := by rw [List.getD_eq_getElem?_getD, List.getElem?_eq_getElem h1]; rfl
            exact ⟨n, _, rfl, g1, of_decide_eq_true h2⟩
        obtain ⟨ns, rfl, lns, hns⟩ := hns
        clear ey pr3
        have A3 := A2.trans sm3
        unfold gName
        dsimp only
        refine seq_cut (t := tIfS _ _ _) (fun σ H' => ∃ vl vc am cr o8, σ = [some b, some w, some (.ref ps), some (.int (at' : Nat)), some (.int Ar0.s), some (.int Ar0.t), some vl, some vc, o8, some (.ref D)] ∧ Same H H' ∧ TupI H' vl am ∧ TupI H' vc cr ∧ ArOk W ⟨Ar0.s, Ar0.t, am, cr⟩) ?_ ?_
        · rintro σ H4 ⟨vl, vc, am, cr, o8, rfl, sm4, tl, tc, ok⟩
          refine ⟨_, rfl, ps, _, 0, _, rfl, rfl, SqT.of (sm4 _ _ hs), rfl, ?_⟩
          refine set_mk (a := pa) (xs := xs) (j := at') (fun y H' => ArAt H' y ⟨Ar0.s, Ar0.t, am, cr⟩) (fun _ _ _ e q => q.tp (tp_same e)) (fun H' Q e q => ⟨_, rfl, ps, _, 1, _, rfl, rfl, SqT.of (e _ _ (sm4 _ _ hs)), rfl, q⟩) (fun H' Q q => ⟨_, rfl, q⟩) (fun H' Q e q => ⟨_, rfl, _, rfl, _, rfl, _, rfl, sz4, fun d hd => q _ _ (same_new hd) ⟨d, _, _, rfl, upd_same, tl.tp (tp_same (e.trans (same_new hd))), tc.tp (tp_same (e.trans (same_new hd)))⟩⟩) (sm4 _ _ hpa) (by omega) (by omega) fun v y H5 sm5 ey e5 => ⟨sz2, fun d hd => ?_⟩
          obtain ⟨p5, rfl, e5⟩ := e5
          have S5 := sm5.trans (same_new (o := .tup [V.int S.places, V.ref p5]) hd)
          refine k _ _ (sm4.trans S5) ⟨⟨S.places, S.arrows.set at' ⟨Ar0.s, Ar0.t, am, cr⟩⟩, ⟨d, _, rfl, upd_same, p5, _, rfl, same_new hd _ _ e5, paired_set at' (Paired.mapP pp fun _ _ q => q.tp (tp_same (sm4.trans S5))) (ey.tp (tp_new hd))⟩, by show (S.arrows.set at' _).length ≤ 64; rw [List.length_set]; exact l64, fun A hA => ?_⟩
          rcases List.mem_or_eq_of_mem_set hA with q | q
          · exact okA A q
          · rw [q]
            exact ok
        · intro tail
          refine ⟨_, rfl, Nat.zero_le _, fun e he => ?_⟩
          have B1 := same_new (o := .lst []) he
          have A4 := A3.trans B1
          refine rNe_nilL (n := 0) (B1 _ _ e3) (dpAll_ints _) (lt_ints _) (by decide) upd_same ⟨_, rfl, ?_⟩
          cases ns with
          | nil =>
            have SS := A4
            refine ⟨_, rfl, _, rfl, pl, _, rfl, .inr (SqT.of (SS _ _ hpl)), _, _, rfl, hb.same SS, by rw [List.length_map]; omega, by rw [List.length_map]; omega, fun v H6 sm6 e6 => ?_⟩
            obtain ⟨z2, rfl, z20, z21⟩ := e6
            obtain ⟨j, rfl⟩ : ∃ n : Nat, z2 = n := ⟨z2.toNat, by omega⟩
            rw [List.length_map] at z21
            have S6 := SS.trans sm6
            have g1 : Ar0.am[j]? = some (Ar0.am[j]'(by omega)) := List.getElem?_eq_getElem (by omega)
            have g2 := o3 _ (List.mem_of_getElem? g1)
            dsimp only
            unfold tAsg
            refine set_mk (a := pl) (xs := Ar0.am.map V.int) (j := j) (fun y _ => ∃ c : Int, y = .int c ∧ 0 ≤ c ∧ c ≤ 9) (fun _ _ _ _ q => q) (fun H' Q e q => ⟨_, rfl, q⟩) (fun H' Q q => ⟨_, rfl, q⟩) (fun H' Q e q => ⟨_, rfl, _, rfl, pl, _, (j : Nat), _, rfl, rfl, SqT.of (e _ _ (S6 _ _ hpl)), atI_nat (map_at g1), _, 1, rfl, rfl, 9, _, rfl, q _ _ (Same.refl _) ⟨_, rfl, ?_, ?_⟩⟩) (S6 _ _ hpl) (by rw [List.length_map]; omega) (by rw [List.length_map]; omega) fun v y H7 sm7 ey e7 => ?_
            · split <;> omega
            · split <;> omega
            · obtain ⟨p7, rfl, e7⟩ := e7
              obtain ⟨c, rfl, c0, c9⟩ := ey
              rw [← List.map_set] at e7
              refine tail _ _ ⟨_, _, _, _, _, rfl, S6.trans sm7, ⟨p7, rfl, e7⟩, ⟨pc, rfl, sm7 _ _ (S6 _ _ hpc)⟩, by show (Ar0.am.set j c).length = _; rw [List.length_set]; exact o1, o2, bd_set o3 c0 c9, o4⟩
          | cons c0 cs =>
            refine ⟨_, rfl, _, _, rfl, hb.same A4, by omega, by omega, fun v H5 sm5 e5 => ?_⟩
            obtain ⟨c, rfl, c00, c2⟩ := e5
            have SS := A4.trans sm5
            refine ⟨rfl, _, rfl, ?_⟩
            by_cases hc : c = 0
            · rw [show decide (V.int c = V.int 0) = true from decide_eq_true (by rw [hc])]
              refine ⟨_, rfl, _, rfl, b, D, _, rfl, hb.same SS, sm5 _ _ (B1 _ _ e3), by simp, by rw [List.length_map]; omega, fun v H6 sm6 e6 => ?_⟩
              obtain ⟨x, hx, rfl⟩ := List.mem_map.mp e6
              obtain ⟨j, d, rfl, hj, d0⟩ := hns x hx
              have lj := (List.getElem?_eq_some_iff.mp hj).1
              have d9 := o4 d (List.mem_of_getElem? hj)
              have S6 := SS.trans sm6
              dsimp only
              unfold tAsg
              refine set_mk (a := pc) (xs := Ar0.cr.map V.int) (j := j) (fun y _ => y = .int (d - 1)) (fun _ _ _ _ q => q) (fun H' Q e q => ⟨_, rfl, q⟩) (fun H' Q q => ⟨_, rfl, q⟩) (fun H' Q e q => ⟨_, rfl, _, rfl, pc, _, (j : Nat), _, rfl, rfl, SqT.of (e _ _ (S6 _ _ hpc)), atI_nat (map_at hj), _, 1, rfl, rfl, q _ _ (Same.refl _) rfl⟩) (S6 _ _ hpc) (by rw [List.length_map]; omega) (by rw [List.length_map]; omega) fun v y H7 sm7 ey e7 => ?_
              obtain ⟨p7, rfl, e7⟩ := e7
              subst ey
              rw [← List.map_set] at e7
              refine tail _ _ ⟨_, _, _, _, _, rfl, S6.trans sm7, ⟨pl, rfl, sm7 _ _ (S6 _ _ hpl)⟩, ⟨p7, rfl, e7⟩, o1, by show (Ar0.cr.set j (d - 1)).length = _; rw [List.length_set]; exact o2, o3, bd_set o4 (by omega) (by omega)⟩
            · rw [show decide (V.int c = V.int 0) = false from decide_eq_false fun e => hc (V.int.inj e)]
              refine ⟨_, rfl, _, rfl, pl, _, rfl, .inr (SqT.of (SS _ _ hpl)), _, _, rfl, hb.same SS, by rw [List.length_map]; omega, by rw [List.length_map]; omega, fun v H6 sm6 e6 => ?_⟩
              obtain ⟨z2, rfl, z20, z21⟩ := e6
              obtain ⟨j, rfl⟩ : ∃ n : Nat, z2 = n := ⟨z2.toNat, by omega⟩
              rw [List.length_map] at z21
              have S6 := SS.trans sm6
              have g1 : Ar0.am[j]? = some (Ar0.am[j]'(by omega)) := List.getElem?_eq_getElem (by omega)
              have g2 := o3 _ (List.mem_of_getElem? g1)
              dsimp only
              unfold tAsg
              refine set_mk (a := pl) (xs := Ar0.am.map V.int) (j := j) (fun y _ => ∃ c : Int, y = .int c ∧ 0 ≤ c ∧ c ≤ 9) (fun _ _ _ _ q => q) (fun H' Q e q => ⟨_, rfl, q⟩) (fun H' Q q => ⟨_, rfl, q⟩) (fun H' Q e q => ⟨_, rfl, _, rfl, pl, _, (j : Nat), _, rfl, rfl, SqT.of (e _ _ (S6 _ _ hpl)), atI_nat (map_at g1), _, 1, rfl, rfl, 9, _, rfl, q _ _ (Same.refl _) ⟨_, rfl, ?_, ?_⟩⟩) (S6 _ _ hpl) (by rw [List.length_map]; omega) (by rw [List.length_map]; omega) fun v y H7 sm7 ey e7 => ?_
              · split <;> omega
              · split <;> omega
              · obtain ⟨p7, rfl, e7⟩ := e7
                obtain ⟨c, rfl, c0, c9⟩ := ey
                rw [← List.map_set] at e7
                refine tail _ _ ⟨_, _, _, _, _, rfl, S6.trans sm7, ⟨p7, rfl, e7⟩, ⟨pc, rfl, sm7 _ _ (S6 _ _ hpc)⟩, by show (Ar0.am.set j c).length = _; rw [List.length_set]; exact o1, o2, bd_set o3 c0 c9, o4⟩
theorem ok_lsender (F : FnP K "_law_sender" s_law_sender f fd) (B : Bt mg) (C_l_take : Cl P w K mg base CX0 1 "_law_take" ["_law_bag_here", "_law_many"] spTake) (C_l_any_sender : Cl P w K mg base CX0 4 "_law_any_sender" ["_law_bag_here", "_law_works_here", "_law_places", "_law_more"] spSender)
    (C_l_held_sender : Cl P w K mg base CX0 4 "_law_held_sender" ["_law_bag_here", "_law_works_here", "_law_places", "_law_more"] spSender) (C_l_bent_sender : Cl P w K mg base CX0 3 "_law_bent_sender" ["_law_bag_here", "_law_works_here", "_law_sender_here"] spBent) :
    FnOk P w K mg base CX0 5 f fd ["_law_bag_here", "_law_works_here", "_law_places", "_law_more"] spSender := by
  refine F.ok sc_l_sender (fun vs H Q E h => ?_) (fun cdv A outer s H vs Q E hr h => ?_)
  · obtain ⟨b, w, W, n, m, rfl, _⟩ := h
    rfl
  · obtain ⟨b, wv, W, n, m, rfl, hb, hwk, wk, n1, n7, m0, m8, k⟩ := h
    refine ⟨_, PSs.nox (pss_cons (ps_set (i := 4) sc_l_sender.nd rfl (Or.inl rfl) (pe_c C_l_take hr (by decide) (by rfl) (pa_cons (pv 0) (pa_cons pe_int pa_nil))))
      (pss_cons (ps_if (pt_cmpR op_eq (pv 4) pe_int (nomark _)) (pss_one (ps_ret (pe_c C_l_any_sender hr (by decide) (by rfl) (pa_cons (pv 0) (pa_cons (pv 1) (pa_cons (pv 2) (pa_cons (pv 3) pa_nil))))))) pss_nil)
      (pss_cons (ps_set (i := 5) sc_l_sender.nd rfl (Or.inl rfl) (pe_c C_l_held_sender hr (by decide) (by rfl) (pa_cons (pv 0) (pa_cons (pv 1) (pa_cons (pv 2) (pa_cons (pv 3) pa_nil))))))
      (pss_one (ps_ret (pe_ifExp (pt_cmpR op_eq (pv 4) pe_int (nomark _)) (pe_c C_l_bent_sender hr (by decide) (by rfl) (pa_cons (pv 0) (pa_cons (pv 1) (pa_cons (pv 5) pa_nil)))) (pv 5))))))), ?_⟩
    rw [st_l_sender]
    refine ⟨_, rfl, _, _, rfl, hb, by omega, by omega, fun v H1 sm1 e1 => ?_⟩
    obtain ⟨z, rfl, z0, z1⟩ := e1
    refine ⟨_, rfl, rfl, _, rfl, ?_⟩
    by_cases h0 : z = 0
    · rw [show decide (V.int z = V.int 0) = true from decide_eq_true (by rw [h0])]
      exact ⟨_, rfl, _, rfl, _, rfl, _, rfl, b, wv, W, n, m, rfl, hb.same sm1, hwk.tp (tp_same sm1), wk, n1, n7, m0, m8, fun v H2 sm2 e2 => k _ _ (sm1.trans sm2) e2⟩
    · rw [show decide (V.int z = V.int 0) = false from decide_eq_false fun e => h0 (V.int.inj e)]
      refine ⟨_, rfl, _, rfl, _, rfl, _, rfl, b, wv, W, n, m, rfl, hb.same sm1, hwk.tp (tp_same sm1), wk, n1, n7, m0, m8, fun v H2 sm2 e2 => ?_⟩
      have S2 := sm1.trans sm2
      refine ⟨_, rfl, rfl, _, rfl, ?_⟩
      by_cases h1 : z = 1
      · rw [show decide (V.int z = V.int 1) = true from decide_eq_true (by rw [h1])]
        obtain ⟨S, e21, e22⟩ := e2
        exact ⟨_, rfl, _, rfl, _, rfl, b, wv, v, W, S, rfl, hb.same S2, wk, e21, e22, fun v H3 sm3 e3 => k _ _ (S2.trans sm3) e3⟩
      · rw [show decide (V.int z = V.int 1) = false from decide_eq_false fun e => h1 (V.int.inj e)]
        exact ⟨_, rfl, k _ _ S2 e2⟩
theorem ok_lfrom (F : FnP K "_law_arrows_from" s_law_arrows_from f fd) (B : Bt mg) : FnOk P w K mg base CX0 1 f fd ["_law_sender_here", "_law_place"] spFrom := by
  refine F.ok sc_l_arrows_from (fun vs H Q E h => ?_) (fun cdv A outer s H vs Q E hr h => ?_)
  · obtain ⟨v, S, i, rfl, _⟩ := h
    rfl
  · obtain ⟨_, S, pl, rfl, ⟨ps, _, rfl, hs, ⟨pa, xs, rfl, hpa, pp⟩⟩, l64, k⟩ := h
    refine ⟨_, PSs.nox (pss_one (ps_ret (pe_lcx (own := [("_law_index", 2)]) (g := (gName 2)) rfl sc_l_arrows_from.nd (pi_range1 (by rfl) B.range (pa_cons (pe_callB call_len_seq (by rfl) B.len (by decide +kernel) (pa_cons (pe_ix ix_tup (pv 0) pe_int (fun _ _ => rfl)) pa_nil)) pa_nil)) (blkOk_by (own := [("_law_index", 2)]) (N := N_l_arrows_from) (sc := (defScope s_law_arrows_from)) (by decide +kernel)) (fun _ _ _ _ _ => (pg_name (i := 2) sc_l_arrows_from.nd rfl (Or.inl rfl))) (fun _ _ _ _ _ => (pts_one (pt_cmpR op_eq (pe_ix (r := rIxT K) ix_tup (pe_ix (r := rIxT K) ix_tup (pe_ix (r := rIxT K) ix_tup (pv 0) pe_int (fun _ _ => rfl)) (pv 2) (fun _ _ => rfl)) pe_int (fun _ _ => rfl)) (pv 1) (nomark _)))) (fun _ _ _ _ _ => (pv 2))))), ?_⟩
    rw [st_l_arrows_from]
    have lx := paired_len pp
    refine ⟨_, rfl, ps, _, 1, _, rfl, rfl, SqT.of hs, rfl, pa, xs, rfl, .inr (SqT.of hpa), _, rfl, by omega, by omega, ?_⟩
    rw [Int.toNat_natCast]
    refine lcR (fun i => match S.arrows[i]? with | some a => decide (V.int a.s = V.int pl) | none => false) (fun i y _ => y = .int (i : Nat)) (fun _ _ _ _ _ h => h) (by omega) (by decide) (fun i H' hi sm => ?_) (fun D H3 ys hD sm3 e3 pr3 => ?_)
    · intro Kc N hK hN
      rw [Int.zero_add]
      have gA : S.arrows[i]? = some (S.arrows[i]'(by omega)) := List.getElem?_eq_getElem (by omega)
      generalize (S.arrows[i]'(by omega)) = Ar0 at gA
      rw [gA] at hK hN
      obtain ⟨va, hva, ar, _, _, rfl, har, _, _⟩ := paired_get pp gA
      have hK' : decide (V.int Ar0.s = V.int pl) = true → ∀ y H4, Same H' H4 → y = V.int (i : Nat) → Kc y H4 := hK
      have hN' : decide (V.int Ar0.s = V.int pl) = false → ∀ H4, Same H' H4 → N H4 := hN
      refine ⟨_, rfl, ps, _, 1, _, rfl, rfl, SqT.of (sm _ _ hs), rfl, _, rfl, pa, _, (i : Nat), _, rfl, rfl, SqT.of (sm _ _ hpa), atI_nat hva, ar, _, 0, _, rfl, rfl, SqT.of (sm _ _ har), rfl, _, rfl, rfl, _, rfl, ?_⟩
      by_cases h1 : V.int Ar0.s = V.int pl
      · rw [decide_eq_true h1]
        exact ⟨_, rfl, hK' (decide_eq_true h1) _ _ (Same.refl _) rfl⟩
      · rw [decide_eq_false h1]
        exact hN' (decide_eq_false h1) _ (Same.refl _)
    · have ey := paired_eq (v := fun i => V.int (i : Nat)) pr3
      refine k _ _ sm3 ⟨D, ((List.range xs.length).filter _).map (fun i : Nat => (i : Int)), rfl, by rw [e3, ey, List.map_map]; rfl, ?_, fun x hx => ?_⟩
      · rw [List.length_map]
        refine Nat.le_trans (List.length_filter_le _ _) ?_
        rw [List.length_range]
        omega
      · obtain ⟨n, hn, rfl⟩ := List.mem_map.mp hx
        have := List.mem_range.mp (List.mem_filter.mp hn).1
        omega
theorem ok_lrun (F : FnP K "_law_run" s_law_run f fd) (B : Bt mg) (C_l_take : Cl P w K mg base CX0 1 "_law_take" ["_law_bag_here", "_law_many"] spTake) (C_l_one : Cl P w K mg base CX0 2 "_law_one" ["_law_bag_here", "_law_things"] spOne)
    (C_l_arrows_from : Cl P w K mg base CX0 1 "_law_arrows_from" ["_law_sender_here", "_law_place"] spFrom) : FnOk P w K mg base CX0 3 f fd ["_law_bag_here", "_law_sender_here", "_law_many"] spRun := by
  refine F.ok sc_l_run (fun vs H Q E h => ?_) (fun cdv A outer s H vs Q E hr h => ?_)
  · obtain ⟨b, v, S, n, rfl, _⟩ := h
    rfl
  · obtain ⟨b, v, S, n, rfl, hb, hsn, l64, n100, k⟩ := h
    have hsn0 := hsn
    obtain ⟨ps, _, rfl, hs, ⟨pa, xs, rfl, hpa, pp⟩⟩ := hsn0
    have hu := Nat.lt_of_le_of_lt (Nat.add_le_add_left (show 1 ≤ 64 by decide) _) hr.units
    have hu1 := hu
    have lx := paired_len pp
    have big := line_big
    refine ⟨_, PSs.nox (pss_cons (ps_par3 (i := 3) (j := 4) (l := 5) rfl sc_l_run.nd rfl rfl rfl (by decide) (by decide) (by decide) rfl rfl rfl (pa_cons pe_int (pa_cons (pe_lst pa_nil) (pa_cons pe_dnewK pa_nil))) (by rfl))
      (pss_cons (ps_set (i := 6) sc_l_run.nd rfl (Or.inl rfl) (pe_c C_l_one hr (by decide) (by rfl) (pa_cons (pv 0) (pa_cons (pe_lst (pa_cons pe_int (pa_cons pe_int (pa_cons pe_int (pa_cons pe_int pa_nil))))) pa_nil))))
      (pss_cons (ps_for PassesOwn.never rfl (pi_range1 (by rfl) B.range (pa_cons (pv 2) pa_nil)) (pg_name (i := 7) sc_l_run.nd rfl (Or.inl rfl))
        (pss_cons (ps_set (i := 8) sc_l_run.nd rfl (Or.inl rfl) (pe_c C_l_arrows_from hr (by decide) (by rfl) (pa_cons (pv 1) (pa_cons (pv 3) pa_nil))))
      (pss_one (ps_if (pt_cmpR (op_neD hr.units) (pv 8) (pe_lst pa_nil) (nomark _)) (pss_cons (ps_set (i := 9) sc_l_run.nd rfl (Or.inl rfl) (pe_ifExp (PW.pt (pw_or (pt_cmp (pc_dnotin hu1 (pv 3) (pv 5)) rfl) (pw_or1 (pt_cmpR op_eq (pe_c C_l_take hr (by decide) (by rfl) (pa_cons (pv 0) (pa_cons (pv 6) pa_nil))) pe_int (nomark _))))) (pe_c C_l_one hr (by decide) (by rfl) (pa_cons (pv 0) (pa_cons (pv 8) pa_nil))) (pe_dget hu1 (pv 5) (pv 3) (fun _ _ => rfl))))
      (pss_cons (ps_dput hu1 (pv 5) (pv 3) (pv 9) rfl)
      (pss_cons (ps_expr (pe_bm PySem.F.plainAttrs_list PySem.F.slot_list_append PySem.F.type_list_append mt_append (pv 4) (pa_cons (pv 9) pa_nil)))
      (pss_one (ps_set (i := 3) sc_l_run.nd rfl (Or.inl rfl) (pe_ix ix_tup (pe_ix ix_tup (pe_ix ix_tup (pv 1) pe_int (fun _ _ => rfl)) (pv 9) (fun _ _ => rfl)) pe_int (fun _ _ => rfl))))))) pss_nil))))
      (pss_one (ps_ret (pe_callTy call_tuple_of (by rfl) B.tuple (by decide +kernel) (pa_cons (pv 4) pa_nil))))))), ?_⟩
    rw [st_l_run]
    refine ⟨Nat.zero_le _, fun pf hpf => fun pd hpd => ⟨_, _, _, rfl, ?_⟩⟩
    have A2 := (same_new (o := .lst []) hpf).trans (same_new (o := .dK []) hpd)
    have nd : H pd = none := none_back (same_new hpf) hpd
    have fd' : pf ≠ pd := ne_of_none upd_same hpd
    have e1 : upd (upd H pf (.lst [])) pd (.dK []) pf = some (.lst []) := same_new hpd _ _ upd_same
    have e2 : upd (upd H pf (.lst [])) pd (.dK []) pd = some (.dK []) := upd_same
    generalize upd (upd H pf (.lst [])) pd (.dK []) = H2 at A2 e1 e2
    refine ⟨_, rfl, sz4, fun g hg => ?_⟩
    have B3 := same_new (o := .lst [V.int 1, V.int 2, V.int 5, V.int 30]) hg
    refine ⟨b, g, _, rfl, hb.same (A2.trans B3), upd_same, by simp, by simp, fun v H3 sm3 e3 => ?_⟩
    have hch : ∃ ch : Int, v = .int ch ∧ 1 ≤ ch ∧ ch ≤ 30 := by
      simp only [List.mem_cons, List.not_mem_nil, or_false] at e3
      rcases e3 with rfl | rfl | rfl | rfl
      · exact ⟨_, rfl, by omega, by omega⟩
      · exact ⟨_, rfl, by omega, by omega⟩
      · exact ⟨_, rfl, by omega, by omega⟩
      · exact ⟨_, rfl, by omega, by omega⟩
    obtain ⟨ch, rfl, ch1, ch30⟩ := hch
    have B4 := B3.trans sm3
    refine ⟨_, rfl, _, rfl, by omega, by omega, ?_⟩
    rw [Int.toNat_natCast]
    refine for_it (walk_r0 (n := n)) (fun i σ H' => ∃ o7 o8 o9, ∃ pl : Int, ∃ ns : List Int, ∃ kvs : List (Key × V), σ = [some b, some (.ref ps), some (.int n), some (.int pl), some (.ref pf), some (.ref pd), some (.int ch), o7, o8, o9] ∧ Same H H' ∧ H' pf = some (.lst (ns.map V.int)) ∧ ns.length ≤ i ∧
      (∀ i ∈ ns, 0 ≤ i ∧ i < S.arrows.length) ∧ H' pd = some (.dK kvs) ∧ kvs.length ≤ i ∧ ∀ p ∈ kvs, ∃ j : Int, p.2 = .int j ∧ 0 ≤ j ∧ j < S.arrows.length) ?_ (fun _ _ _ _ _ => trivial) ?_ ?_
    · exact ⟨_, _, _, 0, [], [], rfl, A2.trans B4, B4 _ _ e1, Nat.le_refl _, by simp, B4 _ _ e2, Nat.le_refl _, by simp⟩
    · rintro i x σ H5 H6 hi ⟨o7, o8, o9, pl, ns, kvs, rfl, sm, e1, l1, r1, e2, l2, r2⟩ ⟨rfl, rfl⟩
      refine ⟨_, rfl, _, rfl, _, S, pl, rfl, hsn.tp (tp_same sm), l64, fun v H7 sm7 e7 => ?_⟩
      obtain ⟨q, ms, rfl, hq, lm, rm⟩ := e7
      refine ⟨_, rfl, Nat.zero_le _, fun e he => ?_⟩
      have C1 := sm7.trans (same_new (o := .lst []) he)
      have hq2 := same_new (o := .lst []) he _ _ hq
      refine rNe_nilL (n := 0) hq2 (dpAll_ints _) (lt_ints _) (by decide) upd_same ⟨_, rfl, ?_⟩
      cases ms with
      | nil => exact ⟨_, _, _, pl, ns, kvs, rfl, sm.trans C1, C1 _ _ e1, by omega, r1, C1 _ _ e2, by omega, r2⟩
      | cons m0 ms0 =>
        have e1' := C1 _ _ e1
        have e2' := C1 _ _ e2
        have S8 := sm.trans C1
        generalize upd H7 e (.lst []) = H8 at hq2 e1' e2' S8 C1
        dsimp only
        refine seq_cut (t := tAsg _ _) (fun σ H' => ∃ j : Int, σ = [some b, some (.ref ps), some (.int n), some (.int pl), some (.ref pf), some (.ref pd), some (.int ch), some (.int (i : Nat)), some (.ref q), some (.int j)] ∧ Same H8 H' ∧ 0 ≤ j ∧ j < S.arrows.length) ?_ ?_
        · rintro σ H9 ⟨j, rfl, sm9, j0, j1⟩
          have gA : S.arrows[j.toNat]? = some (S.arrows[j.toNat]'(by omega)) := List.getElem?_eq_getElem (by omega)
          generalize (S.arrows[j.toNat]'(by omega)) = Ar0 at gA
          obtain ⟨va, hva, ar, _, _, rfl, har, _, _⟩ := paired_get pp gA
          refine ⟨_, rfl, _, rfl, _, rfl, pd, _, rfl, DPut.k (k := .inl pl) (sm9 _ _ e2') (by omega), ?_⟩
          have S10 : Same H (upd H9 pd (.dK (putK kvs (.inl pl) (.int j)))) := same_mut (S8.trans sm9) nd
          have f1 : upd H9 pd (.dK (putK kvs (.inl pl) (.int j))) pf = some (.lst (ns.map V.int)) := by rw [upd_ne fd']; exact sm9 _ _ e1'
          have f2 : upd H9 pd (.dK (putK kvs (.inl pl) (.int j))) pd = some (.dK (putK kvs (.inl pl) (.int j))) := upd_same
          generalize upd H9 pd (.dK (putK kvs (.inl pl) (.int j))) = H10 at S10 f1 f2
          refine ⟨_, rfl, .inl ⟨rfl, _, SqL.of f1⟩, _, rfl, pf, _, .int j, rfl, rfl, f1, by rw [List.length_map]; omega, ?_⟩
          have S11 : Same H (upd H10 pf (.lst (ns.map V.int ++ [V.int j]))) := same_mut S10 hpf
          refine ⟨_, rfl, ps, _, 1, _, rfl, rfl, SqT.of (S11 _ _ hs), rfl, _, rfl, pa, _, j, _, rfl, rfl, SqT.of (S11 _ _ hpa), atI_get j0 hva, ar, _, 1, _, rfl, rfl, SqT.of (S11 _ _ har), rfl, ?_⟩
          refine ⟨_, _, _, Ar0.t, ns ++ [j], putK kvs (.inl pl) (.int j), rfl, S11, by rw [upd_same, List.map_append]; rfl, by rw [List.length_append, List.length_singleton]; omega, fun x hx => ?_, by rw [upd_ne fd'.symm]; exact f2, by have := length_putK kvs (.inl pl) (.int j); omega, fun p hp => ?_⟩
          · rcases List.mem_append.mp hx with h | h
            · exact r1 x h
            · rw [List.mem_singleton.mp h]
              exact ⟨j0, j1⟩
          · unfold putK at hp
            split at hp
            · obtain ⟨p', hp', rfl⟩ := List.mem_map.mp hp
              split
              · exact ⟨j, rfl, j0, j1⟩
              · exact r2 p' hp'
            · rcases List.mem_append.mp hp with h | h
              · exact r2 p h
              · rw [List.mem_singleton.mp h]
                exact ⟨j, rfl, j0, j1⟩
        · intro tail
          have one : ∀ (H9 : Hp) (Q9 : VK), Same H8 H9 → (∀ (j : Int) H10, Same H9 H10 → 0 ≤ j → j < S.arrows.length → Q9 (.int j) H10) → spOne [b, .ref q] H9 Q9 E0 := fun H9 Q9 s9 kk => by
            refine ⟨b, q, _, rfl, hb.same (S8.trans s9), s9 _ _ hq2, by simp, by rw [List.length_map]; omega, fun v H10 sm10 e10 => ?_⟩
            obtain ⟨j, hj, rfl⟩ := List.mem_map.mp e10
            exact kk j H10 sm10 (rm j hj).1 (rm j hj).2
          refine ⟨_, rfl, _, rfl, pd, _, rfl, DGet.k (k := .inl pl) e2', _, rfl, ?_⟩
          cases ev : valV kvs (Sum.inl pl) with
          | none => exact ⟨_, rfl, _, rfl, one H8 _ (Same.refl _) fun j H10 s10 j0 j1 => tail _ _ ⟨j, rfl, s10, j0, j1⟩⟩
          | some vv =>
            refine ⟨_, rfl, _, rfl, _, _, rfl, hb.same S8, by omega, by omega, fun v H9 sm9 e9 => ?_⟩
            obtain ⟨c, rfl, c0, c1⟩ := e9
            refine ⟨rfl, _, rfl, ?_⟩
            by_cases hc : c = 0
            · rw [show decide (V.int c = V.int 0) = true from decide_eq_true (by rw [hc])]
              exact ⟨_, rfl, _, rfl, one H9 _ sm9 fun j H10 s10 j0 j1 => tail _ _ ⟨j, rfl, sm9.trans s10, j0, j1⟩⟩
            · rw [show decide (V.int c = V.int 0) = false from decide_eq_false fun e => hc (V.int.inj e)]
              have hv : ∃ j : Int, vv = .int j ∧ 0 ≤ j ∧ j < S.arrows.length := by
                unfold valV at ev
                obtain ⟨p, hp, rfl⟩ := Option.map_eq_some_iff.mp ev
                exact r2 p (List.mem_of_find?_eq_some hp)
              obtain ⟨j, rfl, j0, j1⟩ := hv
              exact ⟨_, rfl, _, rfl, pd, _, rfl, by rw [← ev]; exact DGet.k (k := .inl pl) (sm9 _ _ e2'), tail _ _ ⟨j, rfl, sm9, j0, j1⟩⟩
    · rintro σ H5 ⟨o7, o8, o9, pl, ns, kvs, rfl, sm, e1, l1, r1, e2, l2, r2⟩
      exact ⟨_, rfl, pf, _, rfl, .inl ⟨SqL.of e1, fun d hd => k _ _ (sm.trans (same_new hd)) ⟨ns, tupI_new rfl, l1, r1⟩⟩⟩
end
end K11

set_option Elab.async false
set_option linter.all false
set_option maxRecDepth 100000
set_option maxHeartbeats 1000000
namespace K11
open PySem PySem.Spec PyProof.Rows L2
abbrev sis_integer : Stmt := top 5
abbrev N_is_integer : List Str := ["thing"]
theorem sc_is_integer : FnScope N_is_integer ["thing"] (defScope sis_integer) := ⟨rfl, rfl, rfl, by decide +kernel, rfl, by decide +kernel, by decide +kernel⟩
theorem st_is_integer (x0 : V) : L2.start N_is_integer [x0] = [some x0] := rfl
abbrev sis_from : Stmt := top 6
abbrev N_is_from : List Str := ["thing", "least"]
theorem sc_is_from : FnScope N_is_from ["thing", "least"] (defScope sis_from) := ⟨rfl, rfl, rfl, by decide +kernel, rfl, by decide +kernel, by decide +kernel⟩
theorem st_is_from (x0 x1 : V) : L2.start N_is_from [x0, x1] = [some x0, some x1] := rfl
abbrev sis_index : Stmt := top 7
abbrev N_is_index : List Str := ["thing", "many"]
theorem sc_is_index : FnScope N_is_index ["thing", "many"] (defScope sis_index) := ⟨rfl, rfl, rfl, by decide +kernel, rfl, by decide +kernel, by decide +kernel⟩
theorem st_is_index (x0 x1 : V) : L2.start N_is_index [x0, x1] = [some x0, some x1] := rfl
abbrev sis_deeds : Stmt := top 8
abbrev N_is_deeds : List Str := ["works", "thing", "item"]
theorem sc_is_deeds : FnScope N_is_deeds ["works", "thing"] (defScope sis_deeds) := ⟨rfl, rfl, rfl, by decide +kernel, rfl, by decide +kernel, by decide +kernel⟩
theorem st_is_deeds (x0 x1 : V) : L2.start N_is_deeds [x0, x1] = [some x0, some x1, none] := rfl
abbrev sfirst_deed : Stmt := top 26
abbrev N_first_deed : List Str := ["works", "order", "heaps", "crew", "index", "behind"]
theorem sc_first_deed : FnScope N_first_deed ["works", "order", "heaps", "crew"] (defScope sfirst_deed) := ⟨rfl, rfl, rfl, by decide +kernel, rfl, by decide +kernel, by decide +kernel⟩
theorem st_first_deed (x0 x1 x2 x3 : V) : L2.start N_first_deed [x0, x1, x2, x3] = [some x0, some x1, some x2, some x3, none, none] := rfl
abbrev sdeeds_by : Stmt := top 27
abbrev N_deeds_by : List Str := ["works", "order", "heaps", "crew", "found", "now"]
theorem sc_deeds_by : FnScope N_deeds_by ["works", "order", "heaps", "crew"] (defScope sdeeds_by) := ⟨rfl, rfl, rfl, by decide +kernel, rfl, by decide +kernel, by decide +kernel⟩
theorem st_deeds_by (x0 x1 x2 x3 : V) : L2.start N_deeds_by [x0, x1, x2, x3] = [some x0, some x1, some x2, some x3, none, none] := rfl
abbrev s_law_deeds_by : Stmt := top 57
abbrev N_l_deeds_by : List Str := ["_law_works_here", "_law_order", "_law_heaps", "_law_crew", "_law_most", "_law_found", "_law_behind", "_law_index"]
theorem sc_l_deeds_by : FnScope N_l_deeds_by ["_law_works_here", "_law_order", "_law_heaps", "_law_crew", "_law_most"] (defScope s_law_deeds_by) := ⟨rfl, rfl, rfl, by decide +kernel, rfl, by decide +kernel, by decide +kernel⟩
theorem st_l_deeds_by (x0 x1 x2 x3 x4 : V) : L2.start N_l_deeds_by [x0, x1, x2, x3, x4] = [some x0, some x1, some x2, some x3, some x4, none, none, none] := rfl
abbrev splayed : Stmt := top 17
abbrev N_played : List Str := ["works", "sender", "run", "play", "found", "heaps", "index", "deeds", "source", "target", "amounts", "crew"]
theorem sc_played : FnScope N_played ["works", "sender", "run", "play"] (defScope splayed) := ⟨rfl, rfl, rfl, by decide +kernel, rfl, by decide +kernel, by decide +kernel⟩
theorem st_played (x0 x1 x2 x3 : V) : L2.start N_played [x0, x1, x2, x3] = [some x0, some x1, some x2, some x3, none, none, none, none, none, none, none, none] := rfl
abbrev sis_play : Stmt := top 12
abbrev N_is_play : List Str := ["works", "sender", "run", "thing", "deeds", "heaps", "index", "source", "target", "amounts", "crew", "failed"]
theorem sc_is_play : FnScope N_is_play ["works", "sender", "run", "thing"] (defScope sis_play) := ⟨rfl, rfl, rfl, by decide +kernel, rfl, by decide +kernel, by decide +kernel⟩
theorem st_is_play (x0 x1 x2 x3 : V) : L2.start N_is_play [x0, x1, x2, x3] = [some x0, some x1, some x2, some x3, none, none, none, none, none, none, none, none] := rfl
def rLenSq (K : PySem.W.Frag) : List V → Hp → VK → Prop := fun xs H Q => ∃ p ys, xs = [.ref p] ∧ (SqL K H p ys ∨ SqT K H p ys) ∧ Q (.int ys.length) H
theorem call_len_sq {X : Cx} : CallR X (.builtin "len") (rLenSq X.K) := call_len_seq
/-! ### deeds by an order -/
def pick (W : Wk) (o : List Int) (s : Sta) : Option (Int × Sta) := o.findSome? fun i => (deed W s i).map fun t => (i, t)
theorem pick_app (W : Wk) (a b : List Int) (s : Sta) : pick W (a ++ b) s = (pick W a s).or (pick W b s) := List.findSome?_append
theorem pick_one (W : Wk) (i : Int) (s : Sta) : pick W [i] s = (deed W s i).map fun t => (i, t) := by
  unfold pick
  rw [List.findSome?_cons]
  cases deed W s i <;> rfl
theorem pick_next {W : Wk} {o : List Int} {s : Sta} {k : Nat} {i : Int} (h : pick W (o.take k) s = none) (hi : o[k]? = some i) : pick W (o.take (k + 1)) s = (deed W s i).map fun t => (i, t) := by
  rw [List.take_succ, hi, pick_app, h]
  exact pick_one W i s
theorem pick_found {W : Wk} {o : List Int} {s : Sta} {k : Nat} {i : Int} {t : Sta} (h : pick W (o.take k) s = none) (hi : o[k]? = some i) (hd : deed W s i = some t) : pick W o s = some (i, t) := by
  have e := pick_next h hi
  rw [hd] at e
  have := pick_app W (o.take (k + 1)) (o.drop (k + 1)) s
  rw [List.take_append_drop, e] at this
  rw [this]
  rfl
inductive Gp (W : Wk) (o : List Int) (s : Sta) : List Int → Sta → Prop
  | nil : Gp W o s [] s
  | snoc {ds : List Int} {u t : Sta} {i : Int} : Gp W o s ds u → pick W o u = some (i, t) → Gp W o s (ds ++ [i]) t
theorem pick_deed {W : Wk} {o : List Int} {s t : Sta} {i : Int} (h : pick W o s = some (i, t)) : deed W s i = some t ∧ i ∈ o := by
  unfold pick at h
  obtain ⟨j, hj, e⟩ := List.exists_of_findSome?_eq_some h
  cases q : deed W s j with
  | none => rw [q] at e; cases e
  | some u =>
    rw [q] at e
    cases e
    exact ⟨q, hj⟩
theorem Gp.run {W : Wk} {o : List Int} {s t : Sta} {ds : List Int} (h : Gp W o s ds t) : runD W s ds = some t := by
  induction h with
  | nil => rfl
  | snoc _ hp ih =>
    rw [runD_snoc, ih]
    exact (pick_deed hp).1
theorem Gp.snoc_inv {W : Wk} {o : List Int} {s t : Sta} {ds : List Int} (h : Gp W o s ds t) : ds = [] ∧ t = s ∨ ∃ ds' u i, ds = ds' ++ [i] ∧ Gp W o s ds' u ∧ pick W o u = some (i, t) := by
  cases h with
  | nil => exact .inl ⟨rfl, rfl⟩
  | snoc a b => exact .inr ⟨_, _, _, rfl, a, b⟩
theorem Gp.det {W : Wk} {o : List Int} {s t : Sta} {ds : List Int} (h : Gp W o s ds t) : ∀ {ds' : List Int} {t' : Sta}, Gp W o s ds' t' → ds.length = ds'.length → ds = ds' ∧ t = t' := by
  induction h with
  | nil =>
    intro ds' t' h' e
    rcases h'.snoc_inv with ⟨rfl, rfl⟩ | ⟨d, u, i, rfl, _, _⟩
    · exact ⟨rfl, rfl⟩
    · simp at e
  | snoc a b ih =>
    intro ds' t' h' e
    rcases h'.snoc_inv with ⟨rfl, rfl⟩ | ⟨d, u, i, rfl, g, p⟩
    · simp at e
    · obtain ⟨rfl, rfl⟩ := ih g (by simpa using e)
      rw [b] at p
      cases p
      exact ⟨rfl, rfl⟩
theorem Gp.take {W : Wk} {o : List Int} {s t : Sta} {ds : List Int} (h : Gp W o s ds t) : ∀ k, k < ds.length → ∃ ds' u i u', ds'.length = k ∧ Gp W o s ds' u ∧ pick W o u = some (i, u') := by
  induction h with
  | nil => intro k hk; simp at hk
  | snoc a b ih =>
    rename_i ds u t i
    intro k hk
    rw [List.length_append, List.length_singleton] at hk
    by_cases h : k < ds.length
    · exact ih k h
    · exact ⟨ds, u, i, t, by omega, a, b⟩
theorem Gp.len {W : Wk} {o : List Int} {s t t' : Sta} {ds ds' : List Int} (h : Gp W o s ds t) (he : pick W o t = none) (h' : Gp W o s ds' t') : ds'.length ≤ ds.length := by
  by_cases hl : ds'.length ≤ ds.length
  · exact hl
  · obtain ⟨d, u, i, u', e, g, p⟩ := h'.take ds.length (by omega)
    obtain ⟨rfl, rfl⟩ := h.det g e.symm
    rw [he] at p
    cases p
def OrdOk (W : Wk) (o : List Int) : Prop := o.length ≤ 16 ∧ ∀ i ∈ o, 0 ≤ i ∧ i < W.recs.length
def spFirst : Sp := fun vs H Q _ => ∃ w z x y W, ∃ s : Sta, ∃ o, vs = [w, z, x, y] ∧ WkAt H w W ∧ TupI H z o ∧ TupI H x s.1 ∧ TupI H y s.2 ∧ WkOk W ∧ StOk W s ∧ OrdOk W o ∧ Ret H Q fun v H' => match pick W o s with
  | none => v = .non
  | some (i, t) => ∃ a x, v = .ref a ∧ H' a = some (.tup [.int i, x]) ∧ StAt H' x t
def spBy : Sp := fun vs H Q _ => ∃ w z x y W, ∃ s : Sta, ∃ o ds t, vs = [w, z, x, y] ∧ WkAt H w W ∧ TupI H z o ∧ TupI H x s.1 ∧ TupI H y s.2 ∧ WkOk W ∧ StOk W s ∧ OrdOk W o ∧ Gp W o s ds t ∧ pick W o t = none ∧ ds.length ≤ 950 ∧ Ret H Q fun v H' => ∃ ds t, TupI H' v ds ∧ runD W s ds = some t ∧ ds.length ≤ 1000
def spLBy : Sp := fun vs H Q _ => ∃ w z x y W, ∃ s : Sta, ∃ o, vs = [w, z, x, y, .int 900] ∧ WkAt H w W ∧ TupI H z o ∧ TupI H x s.1 ∧ TupI H y s.2 ∧ WkOk W ∧ StOk W s ∧ OrdOk W o ∧ Ret H Q fun v H' => v = .non ∨ ∃ a ds t, v = .ref a ∧ Gp W o s ds t ∧ pick W o t = none ∧ ds.length ≤ 950
def spIsInt : Sp := fun vs H Q _ => ∃ i : Int, vs = [.int i] ∧ Ret H Q fun v _ => v = .bl true
def spIsFrom : Sp := fun vs H Q _ => ∃ i j : Int, vs = [.int i, .int j] ∧ Ret H Q fun v _ => v = .bl (decide (j ≤ i))
def spIsIx : Sp := fun vs H Q _ => ∃ i j : Int, vs = [.int i, .int j] ∧ Ret H Q fun v _ => v = .bl (decide (0 ≤ i) && decide (i < j))
def spIsDeeds : Sp := fun vs H Q _ => ∃ w z W ds, vs = [w, z] ∧ WkAt H w W ∧ TupI H z ds ∧ ds.length ≤ 100000 ∧ Ret H Q fun v _ => v = .bl (ds.all fun i => decide (0 ≤ i) && decide (i < (W.recs.length : Int)))
section
variable {P : Program} {w : World} {K : PySem.W.Frag} {mg : Str → Option Value} {base : Heap} {f : Addr} {fd : FuncData}
theorem ok_is_integer (F : FnP K "is_integer" sis_integer f fd) (B : Bt mg) : FnOk P w K mg base CX0 1 f fd ["thing"] spIsInt := by
  refine F.ok sc_is_integer (fun vs H Q E h => ?_) (fun cdv A outer s H vs Q E hr h => ?_)
  · obtain ⟨i, rfl, _⟩ := h
    rfl
  · obtain ⟨i, rfl, k⟩ := h
    refine ⟨_, PSs.nox (pss_one (ps_ret (pe_and (pe_callB call_isi (by rfl) B.isinstance (by decide +kernel) (pa_cons (pv 0) (pa_cons (pe_bltn (v := .ty "int") (by rfl) B.int_ (by decide +kernel) rfl) pa_nil))) (pe_one (pe_not (pe_callB call_isi (by rfl) B.isinstance (by decide +kernel) (pa_cons (pv 0) (pa_cons (pe_bltn (v := .ty "bool") (by rfl) B.bool_ (by decide +kernel) rfl) pa_nil)))))))), ?_⟩
    rw [st_is_integer]
    exact ⟨_, rfl, _, _, _, _, true, rfl, .ty "int", .base (.int i), by first | rfl | kernel_rfl, _, rfl, _, rfl, _, _, _, _, false, rfl, .ty "bool", .base (.int i), by first | rfl | kernel_rfl, _, rfl, k _ _ (Same.refl _) rfl⟩
theorem ok_is_from (F : FnP K "is_from" sis_from f fd) (B : Bt mg) (C_is_integer : Cl P w K mg base CX0 1 "is_integer" ["thing"] spIsInt) : FnOk P w K mg base CX0 2 f fd ["thing", "least"] spIsFrom := by
  refine F.ok sc_is_from (fun vs H Q E h => ?_) (fun cdv A outer s H vs Q E hr h => ?_)
  · obtain ⟨i, j, rfl, _⟩ := h
    rfl
  · obtain ⟨i, j, rfl, k⟩ := h
    refine ⟨_, PSs.nox (pss_one (ps_ret (pe_and (pe_c C_is_integer hr (by decide) (by rfl) (pa_cons (pv 0) pa_nil)) (pe_one (pe_cmpR op_ge (pv 0) (pv 1) (nomark _)))))), ?_⟩
    rw [st_is_from]
    refine ⟨_, rfl, i, rfl, fun v H1 sm1 e1 => ?_⟩
    subst e1
    exact ⟨_, rfl, _, rfl, _, rfl, i, j, rfl, rfl, k _ _ sm1 rfl⟩
theorem ok_is_index (F : FnP K "is_index" sis_index f fd) (B : Bt mg) (C_is_from : Cl P w K mg base CX0 2 "is_from" ["thing", "least"] spIsFrom) : FnOk P w K mg base CX0 3 f fd ["thing", "many"] spIsIx := by
  refine F.ok sc_is_index (fun vs H Q E h => ?_) (fun cdv A outer s H vs Q E hr h => ?_)
  · obtain ⟨i, j, rfl, _⟩ := h
    rfl
  · obtain ⟨i, j, rfl, k⟩ := h
    refine ⟨_, PSs.nox (pss_one (ps_ret (pe_and (pe_c C_is_from hr (by decide) (by rfl) (pa_cons (pv 0) (pa_cons pe_int pa_nil))) (pe_one (pe_cmpR op_lt (pv 0) (pv 1) (nomark _)))))), ?_⟩
    rw [st_is_index]
    refine ⟨_, rfl, i, 0, rfl, fun v H1 sm1 e1 => ?_⟩
    subst e1
    refine ⟨_, rfl, ?_⟩
    by_cases h0 : 0 ≤ i
    · rw [decide_eq_true h0] at *
      exact ⟨_, rfl, _, rfl, i, j, rfl, rfl, k _ _ sm1 rfl⟩
    · rw [decide_eq_false h0] at *
      exact k _ _ sm1 rfl
theorem ok_is_deeds (F : FnP K "is_deeds" sis_deeds f fd) (B : Bt mg) (C_is_index : Cl P w K mg base CX0 3 "is_index" ["thing", "many"] spIsIx) : FnOk P w K mg base CX0 4 f fd ["works", "thing"] spIsDeeds := by
  refine F.ok sc_is_deeds (fun vs H Q E h => ?_) (fun cdv A outer s H vs Q E hr h => ?_)
  · obtain ⟨w, z, W, ds, rfl, _⟩ := h
    rfl
  · obtain ⟨_, _, W, ds, rfl, ⟨aw, xk, xh, _, rfl, hw, _, _, ⟨pr, rs, rfl, hr', pp⟩⟩, ⟨p, rfl, hp⟩, ld, k⟩ := h
    refine ⟨_, PSs.nox (pss_one (ps_ret (pe_and (pe_callB call_isi (by rfl) B.isinstance (by decide +kernel) (pa_cons (pv 1) (pa_cons (pe_bltn (v := .ty "tuple") (by rfl) B.tuple (by decide +kernel) rfl) pa_nil))) (pe_one (pe_callB (cr_all rfl) (by rfl) B.all_ (by decide +kernel) (pa_cons (pe_lcx (own := [("item", 2)]) (g := (gName 2)) rfl sc_is_deeds.nd (pi_tup (pv 1)) (blkOk_by (own := [("item", 2)]) (N := N_is_deeds) (sc := (defScope sis_deeds)) (by decide +kernel)) (fun _ _ _ _ _ => (pg_name (i := 2) sc_is_deeds.nd rfl (Or.inl rfl))) (fun _ _ _ _ _ => pts_nil) (fun _ _ _ _ _ => (pe_c C_is_index hr (by decide) (by rfl) (pa_cons (pv 2) (pa_cons (pe_callB (id := "len") (r := rLenSq K) call_len_sq (by rfl) B.len (by decide +kernel) (pa_cons (pe_ix (r := rIxT K) ix_tup (pv 0) pe_int (fun _ _ => rfl)) pa_nil)) pa_nil))))) pa_nil)))))), ?_⟩
    rw [st_is_deeds]
    have lr := paired_len pp
    refine ⟨_, rfl, _, _, _, _, true, rfl, .ty "tuple", .base (.tup hp), by first | rfl | kernel_rfl, _, rfl, ?_⟩
    refine ⟨_, rfl, p, rfl, ⟨_, SqT.of hp⟩, ?_⟩
    refine lcT (SqT.of hp) (fun _ => true) (fun q y _ => ∀ i : Int, ds[q]? = some i → y = .bl (decide (0 ≤ i) && decide (i < (W.recs.length : Int)))) (fun _ _ _ _ _ h => h) (by rw [List.length_map]; omega) (by decide) (fun q x H' hx sm => elt_yes fun Q hQ => ?_) (fun D H1 ys hD sm1 e1 pr1 => ?_)
    · obtain ⟨i, hi, rfl⟩ := at_map hx
      refine ⟨_, rfl, _, rfl, aw, _, 2, _, rfl, rfl, SqT.of (sm _ _ hw), rfl, pr, _, rfl, .inr (SqT.of (sm _ _ hr')), i, _, rfl, fun v H2 sm2 e2 => hQ _ _ sm2 fun j hj => ?_⟩
      rw [hi] at hj
      cases hj
      rw [e2, lr]
    · rw [filter_true, List.length_map] at pr1
      have ey : ys = (ds.map fun i => decide (0 ≤ i) && decide (i < (W.recs.length : Int))).map V.bl := by
        have ly := paired_len pr1
        rw [List.length_range] at ly
        apply List.ext_getElem?
        intro q
        by_cases hq : q < ds.length
        · obtain ⟨y, hy, py⟩ := paired_getL pr1 (i := q) (x := q) (by rw [List.getElem?_range hq])
          have hd : ds[q]? = some ds[q] := List.getElem?_eq_getElem hq
          rw [hy, py _ hd, List.getElem?_map, List.getElem?_map, hd]
          rfl
        · rw [List.getElem?_eq_none (by omega), List.getElem?_eq_none (by simp; omega)]
      refine ⟨D, _, rfl, SqL.of (by rw [e1, ey]), k _ _ sm1 ?_⟩
      rw [List.all_map]
      rfl
theorem ok_first_deed (F : FnP K "first_deed" sfirst_deed f fd) (B : Bt mg) (C_after_deed : Cl P w K mg base CX0 1 "after_deed" ["works", "heaps", "crew", "index"] spDeed) : FnOk P w K mg base CX0 2 f fd ["works", "order", "heaps", "crew"] spFirst := by
  refine F.ok sc_first_deed (fun vs H Q E h => ?_) (fun cdv A outer s H vs Q E hr h => ?_)
  · obtain ⟨w, z, x, y, W, s, o, rfl, _⟩ := h
    rfl
  · obtain ⟨w, _, x, y, W, st, o, rfl, hw, ⟨p, rfl, hp⟩, hx, hy, wk, so, ⟨l16, oo⟩, k⟩ := h
    refine ⟨_, PSs.nox (pss_cons (ps_for PassesOwn.never rfl (pi_tup (pv 1)) (pg_name (i := 4) sc_first_deed.nd rfl (Or.inl rfl))
        (pss_cons (ps_set (i := 5) sc_first_deed.nd rfl (Or.inl rfl) (pe_c C_after_deed hr (by decide) (by rfl) (pa_cons (pv 0) (pa_cons (pv 2) (pa_cons (pv 3) (pa_cons (pv 4) pa_nil))))))
      (pss_one (ps_if (pt_cmpR op_notN (pv 5) pe_non (nomark _)) (pss_one (ps_ret (pe_tup (pa_cons (pv 4) (pa_cons (pv 5) pa_nil))))) pss_nil))))
      (pss_one (ps_ret pe_non))), ?_⟩
    rw [st_first_deed]
    refine ⟨_, rfl, p, rfl, ⟨_, SqT.of hp⟩, ?_⟩
    refine for_it (walk_tup (xs := o.map V.int)) (fun i σ H' => ∃ o4 o5, σ = [some w, some (.ref p), some x, some y, o4, o5] ∧ Same H H' ∧ pick W (o.take i) st = none) ?_ ?_ ?_ ?_
    · exact ⟨_, _, rfl, Same.refl _, rfl⟩
    · rintro i σ H' hi ⟨_, _, _, sm, _⟩
      exact SqT.of (sm _ _ hp)
    · rintro i z σ H1 H2 hi ⟨o4, o5, rfl, sm, hn⟩ ⟨rfl, hz⟩
      obtain ⟨j, hj, rfl⟩ := at_map hz
      have hjo := oo j (List.mem_of_getElem? hj)
      refine ⟨_, rfl, _, rfl, _, rfl, _, rfl, _, _, _, W, st, j, rfl, hw.tp (tp_same sm), hx.tp (tp_same sm), hy.tp (tp_same sm), wk, so, hjo.1, hjo.2, fun v H3 sm3 e3 => ?_⟩
      cases ed : deed W st j with
      | none =>
        rw [ed] at e3
        have e3' : v = .non := e3
        subst e3'
        refine ⟨_, rfl, rfl, _, rfl, _, _, rfl, sm.trans sm3, ?_⟩
        rw [pick_next hn hj, ed]
        rfl
      | some t =>
        rw [ed] at e3
        obtain ⟨a, x', y', rfl, e31⟩ := e3
        refine ⟨_, rfl, rfl, _, rfl, _, rfl, _, rfl, sz2, fun b hb => k _ _ ((sm.trans sm3).trans (same_new hb)) ?_⟩
        rw [pick_found hn hj ed]
        exact ⟨b, _, rfl, upd_same, StAt.tp ⟨a, x', y', rfl, e31⟩ (tp_new hb)⟩
    · rintro σ H1 ⟨o4, o5, rfl, sm, hn⟩
      rw [List.length_map, List.take_length] at hn
      refine k _ _ sm ?_
      rw [hn]
theorem ok_deeds_by (F : FnP K "deeds_by" sdeeds_by f fd) (B : Bt mg) (C_first_deed : Cl P w K mg base CX0 2 "first_deed" ["works", "order", "heaps", "crew"] spFirst) {ud : Value} (g_MOST_DEEDS : mg "MOST_DEEDS" = some ud) (r_MOST_DEEDS : L2.RelV (.int 1000) ud) : FnOk P w K mg base CX0 3 f fd ["works", "order", "heaps", "crew"] spBy := by
  refine F.ok sc_deeds_by (fun vs H Q E h => ?_) (fun cdv A outer s H vs Q E hr h => ?_)
  · obtain ⟨w, z, x, y, W, s, o, ds, t, rfl, _⟩ := h
    rfl
  · obtain ⟨w, zo, x, y, W, st, o, ds, t, rfl, hw, hp, hx, hy, wk, so, oo, gp, pn, l950, k⟩ := h
    refine ⟨_, PSs.nox (pss_cons (ps_par (i := 4) (j := 5) rfl sc_deeds_by.nd rfl rfl (by decide) rfl rfl (pa_cons (pe_lst pa_nil) (pa_cons (pe_c C_first_deed hr (by decide) (by rfl) (pa_cons (pv 0) (pa_cons (pv 1) (pa_cons (pv 2) (pa_cons (pv 3) pa_nil))))) pa_nil)) (by rfl))
      (pss_cons (ps_while PassesOwn.never (pt_cmpR op_notN (pv 5) pe_non (nomark _)) (pss_cons (ps_if (pt_cmpR op_eq (pe_callB call_len_seq (by rfl) B.len (by decide +kernel) (pa_cons (pv 4) pa_nil)) (pe_glob (v := .int 1000) (by rfl) g_MOST_DEEDS r_MOST_DEEDS) (nomark _)) (pss_one ps_never) pss_nil)
      (pss_cons (ps_expr (pe_bm PySem.F.plainAttrs_list PySem.F.slot_list_append PySem.F.type_list_append mt_append (pv 4) (pa_cons (pe_ix ix_tup (pv 5) pe_int (fun _ _ => rfl)) pa_nil)))
      (pss_one (ps_set (i := 5) sc_deeds_by.nd rfl (Or.inl rfl) (pe_c C_first_deed hr (by decide) (by rfl) (pa_cons (pv 0) (pa_cons (pv 1) (pa_cons (pe_ix ix_tup (pe_ix ix_tup (pv 5) pe_int (fun _ _ => rfl)) pe_int (fun _ _ => rfl)) (pa_cons (pe_ix ix_tup (pe_ix ix_tup (pv 5) pe_int (fun _ _ => rfl)) pe_int (fun _ _ => rfl)) pa_nil))))))))))
      (pss_one (ps_ret (pe_callTy call_tuple_of (by rfl) B.tuple (by decide +kernel) (pa_cons (pv 4) pa_nil)))))), ?_⟩
    rw [st_deeds_by]
    have big := line_big
    refine ⟨Nat.zero_le _, fun p hpn => ?_⟩
    have A1 := same_new (o := .lst []) hpn
    refine ⟨_, rfl, _, rfl, _, rfl, _, rfl, _, _, _, _, W, st, o, rfl, hw.tp (tp_same A1), hp.tp (tp_same A1), hx.tp (tp_same A1), hy.tp (tp_same A1), wk, so, oo, fun v H2 sm2 e2 => ⟨_, _, rfl, ?_⟩⟩
    refine ⟨fun m σ H' => ∃ ds' u nw, m = ds.length - ds'.length ∧ σ = [some w, some zo, some x, some y, some (.ref p), some nw] ∧ Same H H' ∧ H' p = some (.lst (ds'.map V.int)) ∧ Gp W o st ds' u ∧ (match pick W o u with
      | none => nw = .non
      | some (i, t) => ∃ a x, nw = .ref a ∧ H' a = some (.tup [.int i, x]) ∧ StAt H' x t), ⟨_, [], st, v, rfl, rfl, A1.trans sm2, sm2 _ _ upd_same, .nil, e2⟩, ?_⟩
    rintro m σ H3 ⟨ds', u, nw, rfl, rfl, sm, hl, gp', hn⟩
    cases ep : pick W o u with
    | none =>
      rw [ep] at hn
      have hn' : nw = .non := hn
      subst hn'
      refine ⟨_, rfl, rfl, _, rfl, ?_⟩
      exact ⟨_, rfl, p, _, rfl, .inl ⟨SqL.of hl, fun d hd => k _ _ (sm.trans (same_new hd)) ⟨ds', u, tupI_new rfl, gp'.run, by have := gp.len pn gp'; omega⟩⟩⟩
    | some it =>
      obtain ⟨i, t'⟩ := it
      rw [ep] at hn
      obtain ⟨a, xa, rfl, ha, hxa⟩ := hn
      have gp2 := Gp.snoc gp' ep
      have l2 := gp.len pn gp2
      rw [List.length_append, List.length_singleton] at l2
      refine ⟨_, rfl, rfl, _, rfl, _, fun σ' H' h => h, ?_⟩
      refine ⟨_, rfl, p, _, rfl, .inl (SqL.of hl), rfl, _, rfl, ?_⟩
      rw [show decide (V.int ((ds'.map V.int).length : Nat) = V.int 1000) = false from decide_eq_false fun e => by
        have := V.int.inj e
        rw [List.length_map] at this
        omega]
      refine ⟨_, rfl, .inl ⟨rfl, _, SqL.of hl⟩, _, rfl, a, _, 0, _, rfl, rfl, SqT.of ha, rfl, p, _, .int i, rfl, rfl, hl, by rw [List.length_map]; omega, ?_⟩
      have S4 : Same H (upd H3 p (.lst (ds'.map V.int ++ [V.int i]))) := same_mut sm hpn
      have T4 := tp_lst (o := .lst (ds'.map V.int ++ [V.int i])) hl
      have f4 : upd H3 p (.lst (ds'.map V.int ++ [V.int i])) p = some (.lst ((ds' ++ [i]).map V.int)) := by rw [upd_same, List.map_append]; rfl
      have ha4 := T4.1 _ _ ha
      obtain ⟨b, x1, x2, rfl, hb, h1, h2⟩ := hxa.tp T4
      generalize upd H3 p (.lst (ds'.map V.int ++ [V.int i])) = H4 at S4 f4 ha4 hb h1 h2
      refine ⟨_, rfl, _, rfl, _, rfl, a, _, 1, _, rfl, rfl, SqT.of ha4, rfl, b, _, 0, _, rfl, rfl, SqT.of hb, rfl, _, rfl, a, _, 1, _, rfl, rfl, SqT.of ha4, rfl, b, _, 1, _, rfl, rfl, SqT.of hb, rfl, _, _, _, _, W, t', o, rfl, hw.tp (tp_same S4), hp.tp (tp_same S4), h1, h2, wk, so.run wk gp2.run, oo, fun v5 H5 sm5 e5 => ?_⟩
      exact ⟨ds.length - (ds' ++ [i]).length, by rw [List.length_append, List.length_singleton]; omega, ds' ++ [i], t', v5, rfl, rfl, S4.trans sm5, sm5 _ _ f4, gp2, e5⟩
theorem ok_lby (F : FnP K "_law_deeds_by" s_law_deeds_by f fd) (B : Bt mg) (C_l_done : Cl P w K mg base CX0 2 "_law_done" ["_law_works_here", "_law_heaps", "_law_crew", "_law_index"] spDeed) : FnOk P w K mg base CX0 3 f fd ["_law_works_here", "_law_order", "_law_heaps", "_law_crew", "_law_most"] spLBy := by
  refine F.ok sc_l_deeds_by (fun vs H Q E h => ?_) (fun cdv A outer s H vs Q E hr h => ?_)
  · obtain ⟨w, z, x, y, W, s, o, rfl, _⟩ := h
    rfl
  · obtain ⟨w, _, x, y, W, st, o, rfl, hw, ⟨po, rfl, hp⟩, hx, hy, wk, so, ⟨l16, oo⟩, k⟩ := h
    refine ⟨_, PSs.nox (pss_cons (ps_set (i := 5) sc_l_deeds_by.nd rfl (Or.inl rfl) (pe_lst pa_nil))
      (pss_cons (ps_while PassesOwn.never (pt_cmpR op_le (pe_callB call_len_seq (by rfl) B.len (by decide +kernel) (pa_cons (pv 5) pa_nil)) (pv 4) (nomark _)) (pss_cons (ps_set (i := 6) sc_l_deeds_by.nd rfl (Or.inl rfl) pe_non)
      (pss_cons (ps_for PassesOwn.never rfl (pi_tup (pv 1)) (pg_name (i := 7) sc_l_deeds_by.nd rfl (Or.inl rfl))
        (pss_cons (ps_set (i := 6) sc_l_deeds_by.nd rfl (Or.inl rfl) (pe_c C_l_done hr (by decide) (by rfl) (pa_cons (pv 0) (pa_cons (pv 2) (pa_cons (pv 3) (pa_cons (pv 7) pa_nil))))))
      (pss_one (ps_if (pt_cmpR op_notN (pv 6) pe_non (nomark _)) (pss_cons (ps_expr (pe_bm PySem.F.plainAttrs_list PySem.F.slot_list_append PySem.F.type_list_append mt_append (pv 5) (pa_cons (pv 7) pa_nil)))
      (pss_cons (ps_asg (pv 6) (pg_tup rfl (pgs_cons (pg_name (i := 2) sc_l_deeds_by.nd rfl (Or.inl rfl)) (pgs_cons (pg_name (i := 3) sc_l_deeds_by.nd rfl (Or.inl rfl)) pgs_nil))))
      (pss_one ps_break))) pss_nil))))
      (pss_one (ps_if (pt_cmpR op_isN (pv 6) pe_non (nomark _)) (pss_one (ps_ret (pe_callTy call_tuple_of (by rfl) B.tuple (by decide +kernel) (pa_cons (pv 5) pa_nil)))) pss_nil)))))
      (pss_one (ps_ret pe_non)))), ?_⟩
    rw [st_l_deeds_by]
    have big := line_big
    refine ⟨Nat.zero_le _, fun p hpn => ?_⟩
    have A1 := same_new (o := .lst []) hpn
    refine ⟨fun m σ H' => ∃ ds u x y o6 o7, m = 902 - ds.length ∧ ds.length ≤ 901 ∧ σ = [some w, some (.ref po), some x, some y, some (.int 900), some (.ref p), o6, o7] ∧ Same H H' ∧ H' p = some (.lst (ds.map V.int)) ∧ Gp W o st ds u ∧ TupI H' x u.1 ∧ TupI H' y u.2,
      ⟨_, [], st, x, y, _, _, rfl, by simp, rfl, A1, upd_same, .nil, hx.tp (tp_same A1), hy.tp (tp_same A1)⟩, ?_⟩
    rintro m σ H3 ⟨ds, u, x, y, o6, o7, rfl, ld, rfl, sm, hl, gp, h1, h2⟩
    have su := so.run wk gp.run
    refine ⟨_, rfl, p, _, rfl, .inl (SqL.of hl), _, rfl, _, 900, rfl, rfl, _, rfl, ?_⟩
    rw [List.length_map]
    by_cases h9 : ((ds.length : Nat) : Int) ≤ 900
    · rw [decide_eq_true h9]
      refine ⟨_, fun σ' H' h => h, ?_⟩
      dsimp only
      refine seq_cut (t := tAsg _ _) (fun σ H' => ∃ o7, σ = [some w, some (.ref po), some x, some y, some (.int 900), some (.ref p), some .non, o7] ∧ H' = H3) ?_ (fun tail => tail _ _ ⟨_, rfl, rfl⟩)
      rintro σ H4 ⟨o7, rfl, rfl⟩
      refine seq_cut (t := tFor _ _ _) (fun σ H' => (pick W o u = none ∧ ∃ o7, σ = [some w, some (.ref po), some x, some y, some (.int 900), some (.ref p), some .non, o7] ∧ Same H H' ∧ H' p = some (.lst (ds.map V.int))) ∨
        ∃ i t a x y o7, pick W o u = some (i, t) ∧ σ = [some w, some (.ref po), some x, some y, some (.int 900), some (.ref p), some (.ref a), o7] ∧ Same H H' ∧ H' p = some (.lst ((ds ++ [i]).map V.int)) ∧ TupI H' x t.1 ∧ TupI H' y t.2) ?_ ?_
      · rintro σ H5 (⟨pn, o7, rfl, sm5, hl5⟩ | ⟨i, t, a, x', y', o7, pi, rfl, sm5, hl5, e1, e2⟩)
        · refine ⟨_, rfl, rfl, _, rfl, _, rfl, p, _, rfl, .inl ⟨SqL.of hl5, fun d hd => k _ _ (sm5.trans (same_new hd)) (.inr ⟨d, ds, u, rfl, gp, pn, by omega⟩)⟩⟩
        · refine ⟨_, rfl, rfl, _, rfl, ?_⟩
          exact ⟨902 - (ds ++ [i]).length, by rw [List.length_append, List.length_singleton]; omega, ds ++ [i], t, x', y', _, _, rfl, by rw [List.length_append, List.length_singleton]; omega, rfl, sm5, hl5, .snoc gp pi, e1, e2⟩
      · intro tail
        refine ⟨_, rfl, po, rfl, ⟨_, SqT.of (sm _ _ hp)⟩, ?_⟩
        refine for_it (walk_tup (xs := o.map V.int)) (fun i σ H' => ∃ o7, σ = [some w, some (.ref po), some x, some y, some (.int 900), some (.ref p), some .non, o7] ∧ Same H H' ∧ H' p = some (.lst (ds.map V.int)) ∧ pick W (o.take i) u = none ∧ TupI H' x u.1 ∧ TupI H' y u.2) ?_ ?_ ?_ ?_
        · exact ⟨_, rfl, sm, hl, rfl, h1, h2⟩
        · rintro i σ H' hi ⟨_, _, sm, _⟩
          exact SqT.of (sm _ _ hp)
        · clear hl h1 h2
          rintro i z σ H5 H6 hi ⟨o7, rfl, sm, hl, hn, h1, h2⟩ ⟨rfl, hz⟩
          obtain ⟨j, hj, rfl⟩ := at_map hz
          have hjo := oo j (List.mem_of_getElem? hj)
          refine ⟨_, rfl, _, rfl, _, rfl, _, rfl, _, _, _, W, u, j, rfl, hw.tp (tp_same sm), h1, h2, wk, su, hjo.1, hjo.2, fun v H7 sm7 e7 => ?_⟩
          cases ed : deed W u j with
          | none =>
            rw [ed] at e7
            have e7' : v = .non := e7
            subst e7'
            refine ⟨_, rfl, rfl, _, rfl, _, rfl, sm.trans sm7, sm7 _ _ hl, ?_, h1.tp (tp_same sm7), h2.tp (tp_same sm7)⟩
            rw [pick_next hn hj, ed]
            rfl
          | some t =>
            rw [ed] at e7
            obtain ⟨a, x', y', rfl, ha, e1, e2⟩ := e7
            have hl7 := sm7 _ _ hl
            refine ⟨_, rfl, rfl, _, rfl, _, rfl, .inl ⟨rfl, _, SqL.of hl7⟩, _, rfl, p, _, .int j, rfl, rfl, hl7, by rw [List.length_map]; omega, ?_⟩
            have T := tp_lst (o := .lst (ds.map V.int ++ [V.int j])) hl7
            refine ⟨_, rfl, a, _, rfl, SqT.of (T.1 _ _ ha), rfl, _, _, rfl, _, _, rfl, rfl, tail _ _ (.inr ⟨j, t, a, x', y', _, pick_found hn hj ed, rfl, same_mut (sm.trans sm7) hpn, ?_, e1.tp T, e2.tp T⟩)⟩
            rw [upd_same, List.map_append]
            rfl
        · clear hl h1 h2
          rintro σ H5 ⟨o7, rfl, sm, hl, hn, h1, h2⟩
          rw [List.length_map, List.take_length] at hn
          exact tail _ _ (.inl ⟨hn, _, rfl, sm, hl⟩)
    · rw [decide_eq_false h9]
      exact k _ _ sm (.inl rfl)
end
end K11

set_option Elab.async false
set_option linter.all false
set_option maxRecDepth 100000
set_option maxHeartbeats 1000000
namespace K11
open PySem PySem.Spec PyProof.Rows L2
structure ChOk (W : Wk) (S : Sn) (z : List Int) (ns : List Int) (dss : List (List Int)) (chs : List (List Int)) : Prop where
  l1 : dss.length = ns.length
  l2 : chs.length = ns.length
  lz : z.length = W.kinds.length
  at' : ∀ (k : Nat) n ds c h, ns[k]? = some n → dss[k]? = some ds → chs[k]? = some c → (z :: chs)[k]? = some h → ∃ A t, 0 ≤ n ∧ S.arrows[n.toNat]? = some A ∧ runD W (addL h A.am, A.cr) ds = some t ∧ t.1 = c
theorem stOk_add {W : Wk} {A : Ar} {h : List Int} (o : ArOk W A) (hl : h.length = W.kinds.length) : StOk W (addL h A.am, A.cr) := ⟨by show (addL h A.am).length = _; rw [addL_len (by have := o.1; omega)]; exact hl, o.2.1, fun x hx => (o.2.2.2 x hx).1⟩
def spPlayed : Sp := fun vs H Q _ => ∃ w sv rv pl W S ns dss chs xs, vs = [w, sv, rv, .ref pl] ∧ WkAt H w W ∧ WkOk W ∧ SnAt H sv S ∧ SnOk W S ∧ TupI H rv ns ∧ H pl = some (.lst xs) ∧ Paired (TupI H) xs dss ∧ ChOk W S (List.replicate W.kinds.length 0) ns dss chs ∧ ns.length ≤ 100 ∧
  Ret H Q fun v H' => ∃ p ys, v = .ref p ∧ H' p = some (.lst ys) ∧ Paired (TupI H') ys chs
def spIsPlay : Sp := fun vs H Q _ => ∃ w sv rv pl W S ns dss chs xs, vs = [w, sv, rv, .ref pl] ∧ WkAt H w W ∧ WkOk W ∧ SnAt H sv S ∧ SnOk W S ∧ TupI H rv ns ∧ H pl = some (.lst xs) ∧ Paired (TupI H) xs dss ∧ ChOk W S (List.replicate W.kinds.length 0) ns dss chs ∧ ns.length ≤ 100 ∧ (∀ ds ∈ dss, ds.length ≤ 100000) ∧
  Ret H Q fun v H' => v = .bl true
section
variable {P : Program} {w : World} {K : PySem.W.Frag} {mg : Str → Option Value} {base : Heap} {f : Addr} {fd : FuncData}
theorem ok_played (F : FnP K "played" splayed f fd) (B : Bt mg) (C_no_heaps : Cl P w K mg base CX0 1 "no_heaps" ["works"] spNo) (C_added : Cl P w K mg base CX0 1 "added" ["one", "other"] (sp2 addL)) (C_after : Cl P w K mg base CX0 3 "after" ["works", "heaps", "crew", "deeds"] spAf) :
    FnOk P w K mg base CX0 4 f fd ["works", "sender", "run", "play"] spPlayed := by
  refine F.ok sc_played (fun vs H Q E h => ?_) (fun cdv A outer s H vs Q E hr h => ?_)
  · obtain ⟨w, sv, rv, pl, W, S, ns, dss, chs, xs, rfl, _⟩ := h
    rfl
  · obtain ⟨w, _, _, pl, W, S, ns, dss, chs, xs, rfl, hw, wk, ⟨ps, _, rfl, hs, ⟨pa, as', rfl, hpa, pp⟩⟩, ⟨l64, okA⟩, ⟨pr, rfl, hpr⟩, hpl, ppl, ch, l100, k⟩ := h
    refine ⟨_, PSs.nox (pss_cons (ps_par (i := 4) (j := 5) rfl sc_played.nd rfl rfl (by decide) rfl rfl (pa_cons (pe_lst pa_nil) (pa_cons (pe_c C_no_heaps hr (by decide) (by rfl) (pa_cons (pv 0) pa_nil)) pa_nil)) (by rfl))
      (pss_cons (ps_for PassesOwn.never rfl (pi_z2 (by rfl) B.zip (pa_cons (pv 2) (pa_cons (pv 3) pa_nil))) (pg_tup rfl (pgs_cons (pg_name (i := 6) sc_played.nd rfl (Or.inl rfl)) (pgs_cons (pg_name (i := 7) sc_played.nd rfl (Or.inl rfl)) pgs_nil)))
        (pss_cons (ps_asg (pe_ix ix_tup (pe_ix ix_tup (pv 1) pe_int (fun _ _ => rfl)) (pv 6) (fun _ _ => rfl)) (pg_tup rfl (pgs_cons (pg_name (i := 8) sc_played.nd rfl (Or.inl rfl)) (pgs_cons (pg_name (i := 9) sc_played.nd rfl (Or.inl rfl)) (pgs_cons (pg_name (i := 10) sc_played.nd rfl (Or.inl rfl)) (pgs_cons (pg_name (i := 11) sc_played.nd rfl (Or.inl rfl)) pgs_nil))))))
      (pss_cons (ps_set (i := 5) sc_played.nd rfl (Or.inl rfl) (pe_c C_after hr (by decide) (by rfl) (pa_cons (pv 0) (pa_cons (pe_c C_added hr (by decide) (by rfl) (pa_cons (pv 5) (pa_cons (pv 10) pa_nil))) (pa_cons (pv 11) (pa_cons (pv 7) pa_nil))))))
      (pss_one (ps_expr (pe_bm PySem.F.plainAttrs_list PySem.F.slot_list_append PySem.F.type_list_append mt_append (pv 4) (pa_cons (pv 5) pa_nil)))))))
      (pss_one (ps_ret (pv 4))))), ?_⟩
    rw [st_played]
    have big := line_big
    have k8 := wk.2.1
    have lxs := paired_len ppl
    refine ⟨Nat.zero_le _, fun p hp => ?_⟩
    have A1 := same_new (o := .lst []) hp
    refine ⟨_, rfl, w, W, rfl, hw.tp (tp_same A1), wk, fun v H2 sm2 e2 => ⟨_, _, rfl, ?_⟩⟩
    have A2 := A1.trans sm2
    refine ⟨_, rfl, _, rfl, false, true, pr, pl, _, _, rfl, src_of_tup (A2 _ _ hpr), src_of_lst (A2 _ _ hpl), ?_⟩
    have en : ns.length = min (ns.map V.int).length xs.length := by rw [List.length_map, lxs, ch.l1]; simp
    refine for_it (walk_z (k1 := false) (k2 := true) (xs := ns.map V.int) (ys := xs) en) (fun i σ H' => ∃ hv o6 o7 o8 o9 o10 o11 ys h, σ = [some w, some (.ref ps), some (.ref pr), some (.ref pl), some (.ref p), some hv, o6, o7, o8, o9, o10, o11] ∧ Same H H' ∧ H' p = some (.lst ys) ∧ Paired (TupI H') ys (chs.take i) ∧
      (List.replicate W.kinds.length 0 :: chs)[i]? = some h ∧ TupI H' hv h ∧ h.length = W.kinds.length) ?_ ?_ ?_ ?_
    · exact ⟨_, _, _, _, _, _, _, [], _, rfl, A2, sm2 _ _ upd_same, .nil, rfl, e2, List.length_replicate⟩
    · rintro i σ H' hi ⟨_, _, _, _, _, _, _, _, _, _, sm, _⟩
      exact ⟨src_of_tup (sm _ _ hpr), src_of_lst (sm _ _ hpl)⟩
    · rintro i T σ H3 H4 hi ⟨hv, o6, o7, o8, o9, o10, o11, ys, h, rfl, sm, hl, py, gh, th, lh⟩ ⟨T', a, b, rfl, nT, rfl, ha, hb⟩
      obtain ⟨n, hn, rfl⟩ := at_map ha
      obtain ⟨ds, hds, tds⟩ := paired_getL ppl hb
      have hc : chs[i]? = some (chs[i]'(by have := ch.l2; omega)) := List.getElem?_eq_getElem (by have := ch.l2; omega)
      generalize (chs[i]'(by have := ch.l2; omega)) = c at hc
      obtain ⟨A0, t, n0, gA, hrun, rfl⟩ := ch.at' i n ds c h hn hds hc gh
      obtain ⟨va, hva, ar, _, _, rfl, har, ⟨pam, rfl, hpam⟩, ⟨pcr, rfl, hpcr⟩⟩ := paired_get pp gA
      have oA := okA A0 (List.mem_of_getElem? gA)
      have B1 := same_new (o := .tup [V.int n, b]) nT
      have S1 := sm.trans B1
      refine ⟨T', _, rfl, SqT.of upd_same, rfl, _, _, rfl, _, _, rfl, rfl, ?_⟩
      refine ⟨_, rfl, ps, _, 1, _, rfl, rfl, SqT.of (S1 _ _ hs), rfl, _, rfl, pa, _, n, _, rfl, rfl, SqT.of (S1 _ _ hpa), atI_get n0 hva, ar, _, rfl, SqT.of (S1 _ _ har), rfl, _, _, rfl, _, _, rfl, _, _, rfl, _, _, rfl, rfl, ?_⟩
      have lam := oA.1
      refine ⟨_, rfl, _, rfl, _, rfl, _, _, _, _, rfl, th.tp (tp_same B1), ⟨pam, rfl, S1 _ _ hpam⟩, by omega, fun v5 H5 sm5 e5 => ?_⟩
      have S5 := S1.trans sm5
      refine ⟨_, rfl, _, rfl, _, _, _, _, W, (addL h A0.am, A0.cr), t, ds, rfl, hw.tp (tp_same S5), e5, ⟨pcr, rfl, S5 _ _ hpcr⟩, tds.tp (tp_same S5), wk, stOk_add oA lh, hrun, fun v6 H6 sm6 e6 => ?_⟩
      have S6 := S5.trans sm6
      have B6 := (B1.trans sm5).trans sm6
      have ly := paired_len py
      rw [List.length_take] at ly
      refine ⟨_, rfl, .inl ⟨rfl, _, SqL.of (B6 _ _ hl)⟩, _, rfl, p, ys, v6, rfl, rfl, B6 _ _ hl, by omega, ?_⟩
      have T6 := tp_lst (o := .lst (ys ++ [v6])) (B6 _ _ hl)
      refine ⟨_, _, _, _, _, _, _, ys ++ [v6], t.1, rfl, same_mut S6 hp, upd_same, ?_, ?_, e6.tp T6, ?_⟩
      · rw [List.take_succ, hc]
        exact Paired.snoc (Paired.mapP py fun _ _ q => (q.tp (tp_same B6)).tp T6) (e6.tp T6)
      · rw [List.getElem?_cons_succ]
        exact hc
      · exact ((stOk_add oA lh).run wk hrun).1
    · rintro σ H3 ⟨hv, o6, o7, o8, o9, o10, o11, ys, h, rfl, sm, hl, py, gh, th, lh⟩
      refine ⟨_, rfl, k _ _ sm ⟨p, ys, rfl, hl, ?_⟩⟩
      rw [List.take_of_length_le (by rw [ch.l2]; exact Nat.le_refl _)] at py
      exact py
theorem ok_is_play (F : FnP K "is_play" sis_play f fd) (B : Bt mg) (C_is_deeds : Cl P w K mg base CX0 4 "is_deeds" ["works", "thing"] spIsDeeds) (C_added : Cl P w K mg base CX0 1 "added" ["one", "other"] (sp2 addL)) (C_first_failed : Cl P w K mg base CX0 2 "first_failed" ["works", "heaps", "crew", "deeds"] spFF) :
    FnOk P w K mg base CX0 5 f fd ["works", "sender", "run", "thing"] spIsPlay := by
  refine F.ok sc_is_play (fun vs H Q E h => ?_) (fun cdv A outer s H vs Q E hr h => ?_)
  · obtain ⟨w, sv, rv, pl, W, S, ns, dss, chs, xs, rfl, _⟩ := h
    rfl
  · obtain ⟨w, _, _, pl, W, S, ns, dss, chs, xs, rfl, hw, wk, ⟨ps, _, rfl, hs, ⟨pa, as', rfl, hpa, pp⟩⟩, ⟨l64, okA⟩, ⟨pr, rfl, hpr⟩, hpl, ppl, ch, l100, lds, k⟩ := h
    have hw0 := hw
    obtain ⟨aw, xk, xh, _, rfl, hwt, ⟨pk, rfl, hk⟩, _, _⟩ := hw0
    refine ⟨_, PSs.nox (pss_cons (ps_if (PW.pt (pw_or (pt_not (pt_val (pe_callB call_isi (by rfl) B.isinstance (by decide +kernel) (pa_cons (pv 3) (pa_cons (pe_bltn (v := .ty "list") (by rfl) B.list (by decide +kernel) rfl) pa_nil))))) (pw_or (pt_cmpR op_ne (pe_callB call_len_seq (by rfl) B.len (by decide +kernel) (pa_cons (pv 3) pa_nil)) (pe_callB call_len_seq (by rfl) B.len (by decide +kernel) (pa_cons (pv 2) pa_nil)) (nomark _)) (pw_or1 (pt_not (pt_val (pe_callB (cr_all rfl) (by rfl) B.all_ (by decide +kernel) (pa_cons (pe_lcx (own := [("deeds", 4)]) (g := (gName 4)) rfl sc_is_play.nd (pi_list (pv 3)) (blkOk_by (own := [("deeds", 4)]) (N := N_is_play) (sc := (defScope sis_play)) (by decide +kernel)) (fun _ _ _ _ _ => (pg_name (i := 4) sc_is_play.nd rfl (Or.inl rfl))) (fun _ _ _ _ _ => pts_nil) (fun _ _ _ _ _ => (pe_c C_is_deeds hr (by decide) (by rfl) (pa_cons (pv 0) (pa_cons (pv 4) pa_nil))))) pa_nil)))))))) (pss_one (ps_ret pe_bl)) pss_nil)
      (pss_cons (ps_set (i := 5) sc_is_play.nd rfl (Or.inl rfl) (pe_op op_repA (pe_tup (pa_cons pe_int pa_nil)) (pe_callB call_len_seq (by rfl) B.len (by decide +kernel) (pa_cons (pe_ix ix_tup (pv 0) pe_int (fun _ _ => rfl)) pa_nil))))
      (pss_cons (ps_for PassesOwn.never rfl (pi_z2 (by rfl) B.zip (pa_cons (pv 2) (pa_cons (pv 3) pa_nil))) (pg_tup rfl (pgs_cons (pg_name (i := 6) sc_is_play.nd rfl (Or.inl rfl)) (pgs_cons (pg_name (i := 4) sc_is_play.nd rfl (Or.inl rfl)) pgs_nil)))
        (pss_cons (ps_asg (pe_ix ix_tup (pe_ix ix_tup (pv 1) pe_int (fun _ _ => rfl)) (pv 6) (fun _ _ => rfl)) (pg_tup rfl (pgs_cons (pg_name (i := 7) sc_is_play.nd rfl (Or.inl rfl)) (pgs_cons (pg_name (i := 8) sc_is_play.nd rfl (Or.inl rfl)) (pgs_cons (pg_name (i := 9) sc_is_play.nd rfl (Or.inl rfl)) (pgs_cons (pg_name (i := 10) sc_is_play.nd rfl (Or.inl rfl)) pgs_nil))))))
      (pss_cons (ps_asg (pe_c C_first_failed hr (by decide) (by rfl) (pa_cons (pv 0) (pa_cons (pe_c C_added hr (by decide) (by rfl) (pa_cons (pv 5) (pa_cons (pv 9) pa_nil))) (pa_cons (pv 10) (pa_cons (pv 4) pa_nil))))) (pg_tup rfl (pgs_cons (pg_name (i := 11) sc_is_play.nd rfl (Or.inl rfl)) (pgs_cons (pg_name (i := 5) sc_is_play.nd rfl (Or.inl rfl)) pgs_nil))))
      (pss_one (ps_if (pt_cmpR op_notN (pv 11) pe_non (nomark _)) (pss_one (ps_ret pe_bl)) pss_nil)))))
      (pss_one (ps_ret pe_bl))))), ?_⟩
    rw [st_is_play]
    have big := line_big
    have k8 := wk.2.1
    have lxs := paired_len ppl
    have en : ns.length = min (ns.map V.int).length xs.length := by rw [List.length_map, lxs, ch.l1]; simp
    have lx : xs.length = ns.length := by rw [lxs, ch.l1]
    have valid : ∀ (i : Nat) ds, dss[i]? = some ds → (ds.all fun i => decide (0 ≤ i) && decide (i < (W.recs.length : Int))) = true := fun i ds hds => by
      have li := (List.getElem?_eq_some_iff.mp hds).1
      have l1 := ch.l1
      have l2 := ch.l2
      obtain ⟨A0, t, _, _, hrun, _⟩ := ch.at' i _ ds _ _ (List.getElem?_eq_getElem (show i < ns.length by omega)) hds (List.getElem?_eq_getElem (show i < chs.length by omega)) (List.getElem?_eq_getElem (show i < (List.replicate W.kinds.length (0 : Int) :: chs).length by rw [List.length_cons]; omega))
      rw [List.all_eq_true]
      intro j hj
      have := runD_ix hrun j hj
      rw [decide_eq_true this.1, decide_eq_true this.2]
      rfl
    refine ⟨_, rfl, _, _, _, _, true, rfl, .ty "list", .base (.lst hpl), by first | rfl | kernel_rfl, _, rfl, ?_⟩
    refine ⟨_, rfl, pl, _, rfl, .inl (SqL.of hpl), _, rfl, pr, _, rfl, .inr (SqT.of hpr), rfl, _, rfl, ?_⟩
    rw [List.length_map, lx, show decide (V.int (ns.length : Nat) = V.int (ns.length : Nat)) = true from decide_eq_true rfl]
    refine ⟨_, rfl, pl, rfl, ⟨_, SqL.of hpl⟩, ?_⟩
    refine lcL (SqL.of hpl) (fun _ => true) (fun _ y _ => y = .bl true) (fun _ _ _ _ _ h => h) (by omega) (by decide) (fun q x H' hx sm => elt_yes fun Q hQ => ?_) (fun D H1 ys hD sm1 e1 pr1 => ?_)
    · obtain ⟨ds, hds, tds⟩ := paired_getL ppl hx
      refine ⟨_, rfl, _, rfl, _, _, W, ds, rfl, hw.tp (tp_same sm), tds.tp (tp_same sm), lds ds (List.mem_of_getElem? hds), fun v H2 sm2 e2 => hQ _ _ sm2 ?_⟩
      rw [e2, valid q ds hds]
    have ey := paired_eq (v := fun _ => V.bl true) pr1
    refine ⟨D, (List.range xs.length).map fun _ => true, rfl, SqL.of (by rw [e1, ey, filter_true, List.map_map]; rfl), _, rfl, ?_⟩
    rw [show ((List.range xs.length).map fun _ => true).all id = true by rw [List.all_map, List.all_eq_true]; intros; rfl]
    refine ⟨sz1, fun d hd => ?_⟩
    have A1 := sm1.trans (same_new (o := .tup [V.int 0]) hd)
    refine ⟨_, rfl, aw, _, 0, _, rfl, rfl, SqT.of (A1 _ _ hwt), rfl, pk, _, rfl, .inr (SqT.of (A1 _ _ hk)), d, _, _, rfl, rfl, upd_same, by rw [List.length_map]; omega, fun v H2 sm2 e2 => ?_⟩
    obtain ⟨d2, rfl, e2⟩ := e2
    rw [List.length_map, rep_map V.int] at e2
    have A2 := A1.trans sm2
    refine ⟨_, rfl, _, rfl, false, true, pr, pl, _, _, rfl, src_of_tup (A2 _ _ hpr), src_of_lst (A2 _ _ hpl), ?_⟩
    refine for_it (walk_z (k1 := false) (k2 := true) (xs := ns.map V.int) (ys := xs) en) (fun i σ H' => ∃ hv o4 o6 o7 o8 o9 o10 o11 h, σ = [some (.ref aw), some (.ref ps), some (.ref pr), some (.ref pl), o4, some hv, o6, o7, o8, o9, o10, o11] ∧ Same H H' ∧
      (List.replicate W.kinds.length 0 :: chs)[i]? = some h ∧ TupI H' hv h ∧ h.length = W.kinds.length) ?_ ?_ ?_ ?_
    · exact ⟨_, _, _, _, _, _, _, _, _, rfl, A2, rfl, ⟨d2, rfl, e2⟩, List.length_replicate⟩
    · rintro i σ H' hi ⟨_, _, _, _, _, _, _, _, _, _, sm, _⟩
      exact ⟨src_of_tup (sm _ _ hpr), src_of_lst (sm _ _ hpl)⟩
    · rintro i T σ H3 H4 hi ⟨hv, o4, o6, o7, o8, o9, o10, o11, h, rfl, sm, gh, th, lh⟩ ⟨T', a, b, rfl, nT, rfl, ha, hb⟩
      obtain ⟨n, hn, rfl⟩ := at_map ha
      obtain ⟨ds, hds, tds⟩ := paired_getL ppl hb
      have hc : chs[i]? = some (chs[i]'(by have := ch.l2; omega)) := List.getElem?_eq_getElem (by have := ch.l2; omega)
      generalize (chs[i]'(by have := ch.l2; omega)) = c at hc
      obtain ⟨A0, t, n0, gA, hrun, rfl⟩ := ch.at' i n ds c h hn hds hc gh
      obtain ⟨va, hva, ar, _, _, rfl, har, ⟨pam, rfl, hpam⟩, ⟨pcr, rfl, hpcr⟩⟩ := paired_get pp gA
      have oA := okA A0 (List.mem_of_getElem? gA)
      have B1 := same_new (o := .tup [V.int n, b]) nT
      have S1 := sm.trans B1
      refine ⟨T', _, rfl, SqT.of upd_same, rfl, _, _, rfl, _, _, rfl, rfl, ?_⟩
      refine ⟨_, rfl, ps, _, 1, _, rfl, rfl, SqT.of (S1 _ _ hs), rfl, _, rfl, pa, _, n, _, rfl, rfl, SqT.of (S1 _ _ hpa), atI_get n0 hva, ar, _, rfl, SqT.of (S1 _ _ har), rfl, _, _, rfl, _, _, rfl, _, _, rfl, _, _, rfl, rfl, ?_⟩
      have lam := oA.1
      refine ⟨_, rfl, _, rfl, _, rfl, _, _, _, _, rfl, th.tp (tp_same B1), ⟨pam, rfl, S1 _ _ hpam⟩, by omega, fun v5 H5 sm5 e5 => ?_⟩
      have S5 := S1.trans sm5
      refine ⟨_, rfl, _, rfl, _, _, _, _, W, (addL h A0.am, A0.cr), t, ds, rfl, hw.tp (tp_same S5), e5, ⟨pcr, rfl, S5 _ _ hpcr⟩, tds.tp (tp_same S5), wk, stOk_add oA lh, hrun, fun v6 H6 sm6 e6 => ?_⟩
      obtain ⟨a6, y6, rfl, ha6, hy6⟩ := e6
      refine ⟨a6, _, rfl, SqT.of ha6, rfl, _, _, rfl, _, _, rfl, rfl, ?_⟩
      refine ⟨_, rfl, rfl, _, rfl, ?_⟩
      refine ⟨y6, _, _, _, _, _, _, _, t.1, rfl, S5.trans sm6, ?_, hy6, ((stOk_add oA lh).run wk hrun).1⟩
      rw [List.getElem?_cons_succ]
      exact hc
    · rintro σ H3 ⟨hv, o4, o6, o7, o8, o9, o10, o11, h, rfl, sm, gh, th, lh⟩
      exact k _ _ sm rfl
end
end K11

set_option Elab.async false
set_option linter.all false
set_option maxRecDepth 100000
set_option maxHeartbeats 1000000
/-! A dict whose keys are pairs of tuples of ints. -/
namespace K11
open PySem PySem.Spec PyProof.Rows L2
def nk (s : Sta) : NestedKey := .tup [.tup (s.1.map .num), .tup (s.2.map .num)]
theorem num_inj : ∀ {a b : List Int}, a.map NestedKey.num = b.map NestedKey.num → a = b
  | [], [], _ => rfl
  | [], _ :: _, h => by simp at h
  | _ :: _, [], h => by simp at h
  | x :: a, y :: b, h => by
    rw [List.map_cons, List.map_cons] at h
    injection h with h1 h2
    injection h1 with h1
    rw [h1, num_inj h2]
theorem nk_inj {s t : Sta} (h : nk s = nk t) : s = t := by
  unfold nk at h
  injection h with h
  injection h with h1 h2
  injection h2 with h2 _
  injection h1 with h1
  injection h2 with h2
  obtain ⟨a, b⟩ := s
  obtain ⟨c, d⟩ := t
  simp only at h1 h2
  rw [num_inj h1, num_inj h2]
/-- keys: what they are, where their own tuples stand, where the values' tuples stand -/
abbrev Ents := List (NestedKey × Addr × Addr)
def ents (ms : Ents) : List (NestedKey × Addr × Value) := ms.map fun x => (x.1, x.2.1, Value.ref x.2.2)
def MetO (P : Program) (w : World) (d : Addr) (ms : Ents) : HO := .ext fun h => (d == sysModules) = false ∧ ∃ o es ep, h.get? d = some o ∧ o.ExactDict ∧ o.data = .dict es ep ∧ es.toList = (ents ms).map (entryOfKey (nestedKind P w))
def MPair (H : Hp) (x : NestedKey × Addr × Addr) (p : Sta × List Int) : Prop := x.1 = nk p.1 ∧ StAt H (.ref x.2.1) p.1 ∧ TupI H (.ref x.2.2) p.2
def MetD (P : Program) (w : World) (H : Hp) (d : Addr) (M : Met) : Prop := ∃ ms, H d = some (MetO P w d ms) ∧ Paired (MPair H) ms M ∧ (M.map (·.1)).Nodup ∧ M.length ≤ 100000
theorem MPair.tp {H H' : Hp} {x : NestedKey × Addr × Addr} {p : Sta × List Int} (h : MPair H x p) (e : Tp H H') : MPair H' x p := ⟨h.1, h.2.1.tp e, h.2.2.tp e⟩
theorem MetD.same {P : Program} {w : World} {H H' : Hp} {d : Addr} {M : Met} (h : MetD P w H d M) (e : Same H H') : MetD P w H' d M := by
  obtain ⟨ms, h1, h2, h3⟩ := h
  exact ⟨ms, e _ _ h1, Paired.mapP h2 fun _ _ q => q.tp (tp_same e), h3⟩
theorem keys_paired {H : Hp} : ∀ {ms : Ents} {M : Met}, Paired (MPair H) ms M → (ents ms).map (·.1) = M.map fun p => nk p.1
  | _, _, .nil => rfl
  | _, _, .cons h t => by
    have ih := keys_paired t
    unfold ents at ih ⊢
    rw [List.map_cons, List.map_cons, List.map_cons, ih, h.1]
theorem nodup_nk {M : Met} (h : (M.map (·.1)).Nodup) : (M.map fun p => nk p.1).Nodup := by
  rw [show (M.map fun p => nk p.1) = (M.map (·.1)).map nk by rw [List.map_map]; rfl]
  exact List.Pairwise.map nk (fun a b hne e => hne (nk_inj e)) h
theorem at_key {H : Hp} {s : Sta} : ∀ {ms : Ents} {M : Met}, Paired (MPair H) ms M → (∀ ds, (s, ds) ∉ M) ∧ atKey (ents ms) (nk s) = none ∨ ∃ ds q, (s, ds) ∈ M ∧ atKey (ents ms) (nk s) = some q ∧ ∃ b, q.2 = .ref b ∧ TupI H (.ref b) ds
  | _, _, .nil => .inl ⟨fun ds h => by simp at h, rfl⟩
  | x :: ms, p :: M, .cons h t => by
    by_cases e : p.1 = s
    · refine .inr ⟨p.2, (x.2.1, Value.ref x.2.2), by rw [← e]; exact List.mem_cons_self .., ?_, x.2.2, rfl, h.2.2⟩
      unfold atKey ents
      rw [List.map_cons, List.find?_cons_of_pos (by simp [h.1, e])]
      rfl
    · have ne : x.1 ≠ nk s := fun q => e (nk_inj (h.1.symm.trans q))
      have st : atKey (ents (x :: ms)) (nk s) = atKey (ents ms) (nk s) := by
        unfold atKey ents
        rw [List.map_cons, List.find?_cons_of_neg (by simp [ne])]
      rcases at_key t with ⟨a, b⟩ | ⟨ds, q, a, b, c⟩
      · refine .inl ⟨fun ds hm => ?_, by rw [st]; exact b⟩
        rcases List.mem_cons.mp hm with z | z
        · exact e (by rw [← z])
        · exact a ds z
      · exact .inr ⟨ds, q, List.mem_cons_of_mem _ a, by rw [st]; exact b, c⟩
section
variable {X : Cx} {pins : List (Addr × Obj)} {σ : L2.St} {H : Hp} {s : Shared}
theorem nested_ints {h : Heap} : ∀ {ns : List Int} {us : List Value}, Vals (ns.map V.int) us → NestedAll h (ns.map NestedKey.num) us
  | [], _, r => by
    cases r
    exact .nil
  | n :: ns, _, r => by
    cases r with
    | cons r1 r2 =>
      obtain ⟨t, rfl⟩ := r1
      exact .cons (.int n t) (nested_ints r2)
theorem nested_tup (I : Inv X pins σ H s) {a : Addr} {ns : List Int} (h : H a = some (.tup (ns.map V.int))) : NestedIs s.heap (.tup (ns.map .num)) (.ref a) := by
  obtain ⟨_, its, r, o, h1, h2, n, h3⟩ := I.hok a _ h
  exact .tup h1 h2 h3 (nested_ints r)
theorem dep_nums : ∀ ns : List Int, NestedKey.depthAll (ns.map .num) = 0
  | [] => rfl
  | n :: ns => by
    rw [List.map_cons]
    simp only [NestedKey.depthAll, NestedKey.depth, dep_nums ns, Nat.max_self]
theorem nk_is (I : Inv X pins σ H s) {a : Addr} {t : Sta} (h : StAt H (.ref a) t) : (nestedKind X.prog X.w).is s.heap (nk t) a := by
  obtain ⟨_, x, y, e, h1, ⟨p, rfl, h2⟩, ⟨q, rfl, h3⟩⟩ := h
  cases e
  obtain ⟨_, its, r, o, g1, g2, n, g3⟩ := I.hok a _ h1
  cases r with
  | cons r1 r =>
    cases r with
    | cons r2 r =>
      cases r
      cases r1
      cases r2
      refine ⟨.tup g1 g2 g3 (.cons (nested_tup I h2) (.cons (nested_tup I h3) .nil)), ?_⟩
      unfold nk
      simp only [NestedKey.depth, NestedKey.depthAll, dep_nums]
      decide
theorem met_dict (I : Inv X pins σ H s) {d : Addr} {M : Met} {ms : Ents} (h1 : H d = some (MetO X.prog X.w d ms)) (h2 : Paired (MPair H) ms M) (h3 : (M.map (·.1)).Nodup) : (d == sysModules) = false ∧ s.heap.DictOfH (nestedKind X.prog X.w) d (ents ms) := by
  obtain ⟨⟨hd, o, es, ep, g1, g2, g3, g4⟩, _⟩ := I.hok d _ h1
  refine ⟨hd, o, es, ep, g1, g2, g3, g4, fun x hx => ?_, by rw [keys_paired h2]; exact nodup_nk h3⟩
  obtain ⟨y, hy, rfl⟩ := List.mem_map.mp hx
  obtain ⟨p, hp, e1, e2, _⟩ := paired_mem h2 hy
  show (nestedKind X.prog X.w).is s.heap y.1 y.2.1
  rw [e1]
  exact nk_is I e2
theorem met_new {P : Program} {w : World} {H' : Hp} {h' : Heap} {d : Addr} {ms : Ents} (hd : (d == sysModules) = false) (x : h'.DictOfH (nestedKind P w) d (ents ms)) : ObjOk P w H' h' d (MetO P w d ms) := by
  obtain ⟨o, es, ep, g1, g2, g3, g4, _, _⟩ := x
  exact ⟨⟨hd, o, es, ep, g1, g2, g3, g4⟩, ⟨o, g1⟩, fun a b ⟨hd, o, es, ep, g1, r⟩ st => ⟨hd, o, es, ep, st _ g1, r⟩⟩
theorem room_met (hu : X.A.units + 64 < cLine) : (nestedKind X.prog X.w).room X.A.in1 := by
  show X.A.units + 1 + 8 < cLine
  omega
end
section
variable {X : Cx} {o i value : Expr} {td ty tv : TE} {pos pos' : Pos}
def tMetIn (P : Program) (w : World) (neg : Bool) (ty td : TE) : TE := fun σ H Q => ty σ H fun y H1 => td σ H1 fun x H2 => ∃ (d : Addr) (M : Met) (t : Sta) (b : Addr), x = .ref d ∧ y = .ref b ∧ MetD P w H2 d M ∧ StAt H2 (.ref b) t ∧
  ((∀ ds, (t, ds) ∉ M) → Q (.bl neg) H2) ∧ ∀ ds, (t, ds) ∈ M → Q (.bl (!neg)) H2
theorem pc_metnotin (hu : X.A.units + 64 < cLine) (hi : PE X i ty) (ho : PE X o td) : PC X .NotIn i o (tMetIn X.prog X.w true ty td) := by
  refine ⟨fun pins s σ H Q I h => ?_⟩
  refine thn (hi.run pins s σ H _ I h) fun iv s1 ⟨y, H1, I1, ry, q1⟩ => thn (ho.run pins s1 σ H1 _ I1 q1) fun u s2 ⟨x, H2, I2, rx, d, M, t, b, ex, ey, ⟨ms, h1, h2, h3, h4⟩, ht, q2, q3⟩ => ?_
  subst ex ey
  cases rx
  cases ry
  obtain ⟨hd, dd⟩ := met_dict I2 h1 h2 h3
  refine wpAny_notIn_heap (room_met hu) (nk_is I2 ht) hd dd ?_
  rcases at_key (s := t) h2 with ⟨a1, a2⟩ | ⟨ds, q, a1, a2, _⟩
  · rw [a2]
    exact ⟨.bl true, H2, I2.tok _, rfl, q2 a1⟩
  · rw [a2]
    exact ⟨.bl false, H2, I2.tok _, rfl, q3 ds a1⟩
def tMetGet (P : Program) (w : World) (td ty : TE) : TE := fun σ H Q => td σ H fun x H1 => ty σ H1 fun y H2 => ∃ (d : Addr) (M : Met) (t : Sta) (b : Addr), x = .ref d ∧ y = .ref b ∧ MetD P w H2 d M ∧ StAt H2 (.ref b) t ∧ (∃ ds, (t, ds) ∈ M) ∧ ∀ c ds, (t, ds) ∈ M → TupI H2 (.ref c) ds → Q (.ref c) H2
theorem pe_metget (hu : X.A.units + 64 < cLine) (ho : PE X o td) (hi : PE X i ty) (hs : NoSl i) : PE X (.Subscript o i pos) (tMetGet X.prog X.w td ty) := by
  refine ⟨fun pins s σ H Q I h => ?_⟩
  refine subD_of PySem.F.slot_dict_getitem.lookup hs (thn (ho.run pins s σ H _ I h) fun u s1 ⟨x, H1, I1, rx, q1⟩ => thn (hi.run pins s1 σ H1 _ I1 q1) fun iv s2 ⟨y, H2, I2, ry, d, M, t, b, ex, ey, ⟨ms, h1, h2, h3, h4⟩, ht, ⟨ds0, hds⟩, q2⟩ => ?_)
  subst ex ey
  cases rx
  cases ry
  obtain ⟨hd, dd⟩ := met_dict I2 h1 h2 h3
  refine ⟨dd.typeIs, ?_⟩
  rcases at_key (s := t) h2 with ⟨a1, a2⟩ | ⟨ds, q, a1, a2, c, e, tc⟩
  · exact absurd hds (a1 ds0)
  · refine wpAny_getItem_heap (room_met hu) (nk_is I2 ht) dd a2 ?_
    rw [e]
    exact ⟨.ref c, H2, I2.tok _, rfl, q2 c ds a1 tc⟩
/-- d[k] = v, k not there yet -/
def sMetPut (P : Program) (w : World) (td ty tv : TE) : TS := fun D σ H => tv σ H fun v H1 => td σ H1 fun x H2 => ty σ H2 fun y H3 => ∃ (d : Addr) (M : Met) (t : Sta) (b c : Addr) (ds : List Int), x = .ref d ∧ y = .ref b ∧ v = .ref c ∧ MetD P w H3 d M ∧ StAt H3 (.ref b) t ∧ TupI H3 (.ref c) ds ∧
  t ∉ M.map (·.1) ∧ M.length < 100000 ∧ ∀ ms, MetD P w (upd H3 d (MetO P w d ms)) d (M ++ [(t, ds)]) → (∃ ms0, H3 d = some (MetO P w d ms0)) → D.nx σ (upd H3 d (MetO P w d ms))
theorem tp_met {P : Program} {w : World} {H : Hp} {d : Addr} {ms : Ents} {o : HO} (h : H d = some (MetO P w d ms)) : Tp H (upd H d o) := tp_mut h (fun _ z => nomatch z) (fun _ _ z => nomatch z)
theorem ps_metput (hu : X.A.units + 64 < cLine) (ho : PE X o td) (hi : PE X i ty) (hv : PE X value tv) (hs : swapsWith value (some (.Subscript o i pos')) pos.line X.env = pure false) :
    PS X (.Assign [.Subscript o i pos'] value pos) (sMetPut X.prog X.w td ty tv) := by
  refine ⟨fun pins s σ H D I h => ?_⟩
  refine wpAny_Assign_Subscript (thn (hv.run pins s σ H _ I h) fun r s1 ⟨v, H1, I1, rv, q1⟩ => thn (ho.run pins s1 σ H1 _ I1 q1) fun u s2 ⟨x, H2, I2, rx, q2⟩ => thn (hi.run pins s2 σ H2 _ I2 q2) fun iv s3 ⟨y, H3, I3, ry, d, M, t, b, c, ds, ex, ey, ev, ⟨ms, h1, h2, h3, h4⟩, ht, hc, nt, lm, q3⟩ => ?_) hs
  subst ex ey ev
  cases rx
  cases ry
  cases rv
  obtain ⟨hd, dd⟩ := met_dict I3 h1 h2 h3
  have lms := paired_len h2
  have big := line_big
  rcases at_key (s := t) h2 with ⟨a1, a2⟩ | ⟨ds', q, a1, a2, _⟩
  · refine wpAny_setItem_heap (room_met hu) (nk_is I3 ht) dd (fun h' hm sb => ?_) (by unfold ents; rw [List.length_map]; omega)
    rw [storedH_new a2] at hm
    have em : ents ms ++ [(nk t, b, Value.ref c)] = ents (ms ++ [(nk t, b, c)]) := by
      unfold ents
      rw [List.map_append]
      rfl
    rw [em] at hm
    refine ⟨σ, _, d_write (ob := MetO X.prog X.w d (ms ++ [(nk t, b, c)])) I3 (by rw [h1]; trivial) sb (let ⟨q, _, _, hq, _⟩ := hm; ⟨q, hq⟩) (met_new hd hm), q3 _ ?_ ⟨ms, h1⟩⟩
    have T := tp_met (o := MetO X.prog X.w d (ms ++ [(nk t, b, c)])) h1
    refine ⟨_, upd_same, Paired.snoc (Paired.mapP h2 fun _ _ q => q.tp T) ⟨rfl, ht.tp T, hc.tp T⟩, ?_, by rw [List.length_append, List.length_singleton]; omega⟩
    rw [List.map_append]
    exact List.nodup_append.mpr ⟨h3, by simp, fun x hx y hy e => nt (by
      rw [List.map_cons, List.map_nil, List.mem_singleton] at hy
      have hy' : y = t := hy
      rw [← hy', ← e]
      exact hx)⟩
  · exact absurd (List.mem_map.mpr ⟨_, a1, rfl⟩) nt
/-- {k: v} -/
def tMet1 (P : Program) (w : World) (tk tv : TE) : TE := fun σ H Q => ∀ p, H p = none → tk σ (upd H p (MetO P w p [])) fun k H1 => tv σ H1 fun v H2 => ∃ (t : Sta) (ds : List Int) (b c : Addr), k = .ref b ∧ v = .ref c ∧ StAt H2 (.ref b) t ∧ TupI H2 (.ref c) ds ∧ H2 p = some (MetO P w p []) ∧
  ∀ ms, MetD P w (upd H2 p (MetO P w p ms)) p [(t, ds)] → Q (.ref p) (upd H2 p (MetO P w p ms))
def met1Q (P : Program) (w : World) (p : Addr) (Q : VK) : List (V × V) → Hp → Prop := fun ps H2 => match ps with
  | [(k, v)] => ∃ (t : Sta) (ds : List Int) (b c : Addr), k = .ref b ∧ v = .ref c ∧ StAt H2 (.ref b) t ∧ TupI H2 (.ref c) ds ∧ H2 p = some (MetO P w p []) ∧ ∀ ms, MetD P w (upd H2 p (MetO P w p ms)) p [(t, ds)] → Q (.ref p) (upd H2 p (MetO P w p ms))
  | _ => False
theorem pe_met1 {k v : Expr} {tk tv : TE} (hu : X.A.units + 64 < cLine) (hk : PE X k tk) (hv : PE X v tv) : PE X (.Dict [some k] [v] pos) (tMet1 X.prog X.w tk tv) := by
  refine ⟨fun pins s σ H Q I q => ?_⟩
  have hn := I.hok.fresh (Nat.le_refl s.heap.objs.size)
  have hdm : (s.heap.objs.size == sysModules) = false := by
    have := I.big
    exact beq_eq_false_iff_ne.mpr (Nat.ne_of_gt this)
  have I1 := I.laid (a := s.heap.objs.size) (o := MetO X.prog X.w s.heap.objs.size []) (h' := s.heap.push { cls := .type "dict", data := .dict #[] }) (t' := s.toks) (fun _ _ q => Heap.get?_push_of_some _ q) (Nat.le_refl _) (met_new (ms := []) hdm (Heap.DictOfH.new _))
  rw [arm_eval_Dict, show (evalEachOpt [some k] X.env).zip ((evalEach [v] X.env).map fun v : Sem Value => (do let x ← v; standAt pos; pure x : Sem Value)) = [((eval k X.env : Sem Value), (do let x ← eval v X.env; standAt pos; pure x : Sem Value))].map (fun p => (some p.1, p.2)) from rfl, dictDisplay_pairs _ (by simp) (by show 1 < 17; decide)]
  refine wpAny_bind (wpAny_standAt (wpAny_bind (wpAny_subDictH (knd := nestedKind X.prog X.w) (show X.A.units + 8 < cLine by omega) (by show 1 ≤ 15; decide) (thn ((pps_cons hk hv pps_nil).run pins _ σ _ (met1Q X.prog X.w s.heap.objs.size Q) I1 (q _ hn)) fun ws s2 ⟨ps, H2, I2, rel, q2⟩ => ?_))))
  cases rel with
  | nil => exact q2.elim
  | @cons aa bb _ _ r1 r2 =>
    cases r2 with
    | cons _ _ => exact q2.elim
    | nil =>
    obtain ⟨k', v'⟩ := aa
    obtain ⟨b1, b2⟩ := bb
    obtain ⟨t, ds, b, c, e1, e2, ht, hc, hm0, q3⟩ := q2
    obtain ⟨r1a, r1b⟩ := r1
    have e1' : k' = .ref b := e1
    have e2' : v' = .ref c := e2
    subst e1' e2'
    cases (show b1 = Value.ref b from r1a)
    cases (show b2 = Value.ref c from r1b)
    obtain ⟨hd, dd⟩ := met_dict (M := []) I2 hm0 .nil (by simp)
    refine ⟨[(nk t, b, Value.ref c)], ⟨rfl, rfl, nk_is I2 ht, trivial⟩, dd, fun h' tk hm sb => wpAny_pure ?_⟩
    have em : storedAllH [] [(nk t, b, Value.ref c)] = ents [(nk t, b, c)] := rfl
    rw [em] at hm
    refine ⟨.ref s.heap.objs.size, _, d_write (ob := MetO X.prog X.w s.heap.objs.size [(nk t, b, c)]) (t' := tk) I2 (by rw [hm0]; trivial) sb (let ⟨q, _, _, hq, _⟩ := hm; ⟨q, hq⟩) (met_new hd hm), rfl, q3 _ ?_⟩
    have T := tp_met (o := MetO X.prog X.w s.heap.objs.size [(nk t, b, c)]) hm0
    exact ⟨_, upd_same, .cons ⟨rfl, ht.tp T, hc.tp T⟩ .nil, by simp, by show 1 ≤ 100000; decide⟩
end
section
variable {X : Cx}
theorem call_len_met : CallR X (.builtin "len") (fun xs H Q => ∃ d M, xs = [.ref d] ∧ MetD X.prog X.w H d M ∧ Q (.int ((M.length : Nat) : Int)) H) := by
  intro pins s σ H xs us Q I r h
  obtain ⟨d, M, rfl, ⟨ms, h1, h2, h3, h4⟩, q⟩ := h
  obtain ⟨u, rfl, rx⟩ := vals1 r
  obtain rfl : u = .ref d := rx
  obtain ⟨hd, dd⟩ := met_dict I h1 h2 h3
  have lm := paired_len h2
  have hl : (ents ms).length = M.length := by unfold ents; rw [List.length_map]; exact lm
  refine call_len_dictH hd dd (by omega) ?_
  rw [hl]
  exact ⟨.int ((M.length : Nat) : Int), H, I.tok _, ⟨_, rfl⟩, q⟩
/-- the entries of a dict that stays as it is, each in a new pair -/
def Jmet (P : Program) (w : World) (d : Addr) (od : Obj) (ms : Ents) : It :=
  ⟨fun i H => H d = some (.frz od (MetO P w d ms)) ∧ i < ms.length, fun i H v H' => ∃ T x, ms[i]? = some x ∧ v = .ref T ∧ H T = none ∧ H' = upd H T (.tup [.ref x.2.1, .ref x.2.2]),
    fun i H => H d = some (.frz od (MetO P w d ms)) ∧ i = ms.length⟩
theorem met_raw {pins : List (Addr × Obj)} {σ : L2.St} {H : Hp} {s : Shared} {d : Addr} {od : Obj} {ms : Ents} (I : Inv X pins σ H s) (h : H d = some (.frz od (MetO X.prog X.w d ms))) : (d == sysModules) = false ∧ s.heap.get? d = some od ∧ od.ExactDict ∧
    ∃ es ep, od.data = .dict es ep ∧ es.size = ms.length ∧ ∀ (i : Nat) x, ms[i]? = some x → ∃ e, es[i]? = some e ∧ e.key = .ref x.2.1 ∧ e.val = .ref x.2.2 := by
  obtain ⟨hg, ⟨hd, o, es, ep, g1, g2, g3, g4⟩, _⟩ := I.hok d _ h
  rw [hg] at g1
  cases g1
  refine ⟨hd, hg, g2, es, ep, g3, ?_, fun i x hx => ?_⟩
  · rw [size_of_entries g4]
    unfold ents
    rw [List.length_map]
  · refine ⟨⟨(nestedKind X.prog X.w).hash x.1, .ref x.2.1, .ref x.2.2⟩, ?_, rfl, rfl⟩
    rw [entry_at g4]
    unfold ents
    rw [List.getElem?_map, hx]
    rfl
theorem turn_met {P : Program} {w : World} {K : PySem.W.Frag} {elts : List Expr} {kk : Nat} {tpos : Pos} {d it : Addr} {od : Obj} {ms : Ents} {es : Array DictEntry} {ep : Nat} (hod : od.data = .dict es ep) :
    Turn P w K (.Tuple elts kk tpos) (Jmet P w d od ms) [it] it (fun i h => ∃ ok ov, IsItemIter h it d i es.size ep ok ov) where
  mem := by simp
  obj := fun i h st b hb => by
    have e : b = it := by simpa using hb
    subst e
    obtain ⟨ok, ov, e⟩ := st
    exact ⟨_, e, fun v z => nomatch z⟩
  keep := fun i h h' st k => let ⟨ok, ov, e⟩ := st; ⟨ok, ov, k it (by simp) _ e⟩
  item := by
    intro X hP hw hK hc i pins s σ H E I hf st hg
    subst hP hw hK
    obtain ⟨hd, hi⟩ := hg
    obtain ⟨hs, hgd, hx, es', ep', hdt, hsz, ent⟩ := met_raw I hd
    obtain ⟨rfl, rfl⟩ := dict_ep hod hdt
    have hxi : ms[i]? = some ms[i] := List.getElem?_eq_getElem hi
    generalize ms[i] = x at hxi
    obtain ⟨e, he, ek, ev⟩ := ent i x hxi
    have hie : i < es'.size := by omega
    have ee : es'[i] = e := by
      rw [Array.getElem?_eq_getElem hie] at he
      exact Option.some.inj he
    obtain ⟨ok, ov, hit⟩ := st
    have hlt : it < s.heap.objs.size := Heap.lt_size hit
    refine wpAny_pyNext_items_item_raw hit ⟨od, hgd, hx, hod⟩ hie fun h' ho hT hz hk => ?_
    refine ⟨_, rfl, wpAny_letOwnedTupleGo_items (s := { s with heap := h' }) ho fun h'' he' sb => ?_⟩
    rw [ee, ek, ev] at hT
    have hT2 : h''.get? s.heap.objs.size = some { cls := .type "tuple", data := .seq #[.ref x.2.1, .ref x.2.2] } := (sb.2 _ (Nat.ne_of_gt hlt)).trans hT
    have new : ObjOk X.prog X.w (upd H s.heap.objs.size (.tup [.ref x.2.1, .ref x.2.2])) h'' s.heap.objs.size (.tup [.ref x.2.1, .ref x.2.2]) :=
      ⟨by show 2 ≤ sizeLine; decide, [.ref x.2.1, .ref x.2.2], .cons rfl (.cons rfl .nil), ⟨_, hT2, rfl, _, rfl⟩⟩
    have I1 : Inv X pins σ (upd H s.heap.objs.size (.tup [.ref x.2.1, .ref x.2.2])) { s with heap := h'' } :=
      I.turnedNew (t' := s.toks) (ch := [it]) (fun b ob hb e => (sb.2 b (by simpa using hb)).trans (hk b ob (by simpa using hb) e)) hf (Nat.le_refl _) new
    refine ⟨.ref s.heap.objs.size, _, I1, rfl, ⟨_, x, hxi, rfl, I.hok.fresh (Nat.le_refl _), rfl⟩, ⟨_, _, he'⟩, fun b hb => ?_⟩
    have e : b = it := by simpa using hb
    rw [e, upd_ne (Nat.ne_of_lt hlt)]
    exact (hf it (by simp)).1
  done := by
    intro X hP hw hK hc i pins s σ H E I hf st hg
    subst hP hw hK
    obtain ⟨hd, hi⟩ := hg
    obtain ⟨f0, f1, f2, f3, f4, f5⟩ := hf it (by simp)
    obtain ⟨hs, hgd, hx, es', ep', hdt, hsz, ent⟩ := met_raw I hd
    obtain ⟨rfl, rfl⟩ := dict_ep hod hdt
    obtain ⟨ok, ov, hit⟩ := st
    exact wpAny_pyNext_items_end_raw (I.ok.hd hc) hit ⟨od, hgd, hx, hod⟩ (by omega) fun h' eb => ⟨rfl, I.turned (t' := s.toks) (fun b ob hb e => eb b ob hb e) f0 f1 f3 f4 f5⟩
  self := fun A i s Q E st h => let ⟨_, _, e⟩ := st; PySem.W.kcp_self e h
/-- d.items() of a new such dict -/
def iMet (P : Program) (w : World) (td : TE) : TI := fun σ H R => td σ H fun x H1 => ∃ d ms M, x = .ref d ∧ H1 d = some (MetO P w d ms) ∧ Paired (MPair H1) ms M ∧ ∀ od, R (Jmet P w d od ms) (upd H1 d (.frz od (MetO P w d ms)))
theorem pi_metitems {e : Expr} {td : TE} {apos cpos tpos : Pos} {elts : List Expr} {kk : Nat} (he : PE X e td) (hbase : attributeBase e "items" X.env (eval e X.env) = eval e X.env := by rfl) (hline : (apos.endLine == cpos.line) = true := by rfl) :
    PI X (.Tuple elts kk tpos) (.Call (.Attribute e "items" apos) [] [] cpos) (iMet X.prog X.w td) := by
  refine ⟨fun pins s σ H R I h => ?_⟩
  refine wpAny_Call_method (T := "dict") (id := "dict.items") hbase rfl hline F.plainAttrs_dict F.slot_dict_items F.type_dict_items (thn (he.run pins s σ H _ I h) fun u s1 ⟨x, H1, I1, rx, d, ms, M, ex, h1, h2, q⟩ => ?_)
  subst ex
  obtain rfl : u = Value.ref d := rx
  obtain ⟨od, I2⟩ := I1.lock h1 trivial
  obtain ⟨hs, hgd, hx, es, ep, hdt, hsz, ent⟩ := met_raw I2 upd_same
  have hr : s1.heap.DictRaw d es ep := ⟨od, hgd, hx, hdt⟩
  refine ⟨hr.typeIs, fun _ e => ?_, ?_⟩
  · cases e
    exact ⟨od, hgd, hx.2.1⟩
  have I3 : Inv X pins σ (upd H1 d (.frz od (MetO X.prog X.w d ms))) { s1 with heap := s1.heap.push { cls := .type "dict_items", data := .fields #[.ref d] } } := I2.kept (t' := s1.toks) fun b ob q => Heap.get?_push_of_some _ q
  have fin : wpAny (model X.prog X.w) X.A (pyIter (.ref s1.heap.objs.size)) (PIE X pins σ (.Tuple elts kk tpos) R) X.xe { s1 with heap := s1.heap.push { cls := .type "dict_items", data := .fields #[.ref d] } } := by
    refine wpAny_pyIter_items_raw (d := d) ⟨_, Heap.get?_push_size _ rfl, rfl, rfl⟩ (hr.at fun o e => Heap.get?_push_of_some _ e) (pi_one (tk := s1.toks) I3 _ (turn_met hdt) ⟨.none, .none, ?_⟩ (q od))
    exact Heap.get?_push_size _ rfl
  show wpAny _ _ (callWith cpos (.builtin "dict.items") [.ref d] [] []) _ X.xe s1
  exact method_meetsIn F.slot_dict_items F.entry_dict_items rfl (PySem.evalArgs_none ⟨rfl, hr.typeIs, F.args_dict_items_1 _, _, meets_dict_items_raw d hs, ⟨es, ep, hr⟩, fin⟩)
theorem walk_met {P : Program} {w : World} {d : Addr} {od : Obj} {ms : Ents} : Walk (Jmet P w d od ms) ms.length (fun H => H d = some (.frz od (MetO P w d ms))) (YPair (fun i => ms[i]?.map fun x => V.ref x.2.1) (fun i => ms[i]?.map fun x => V.ref x.2.2)) := by
  refine ⟨fun i _ hi q => ⟨q, hi⟩, fun _ q => ⟨q, rfl⟩, fun i H v H' _ q y => ?_⟩
  obtain ⟨T, x, h1, h2, h3, h4⟩ := y
  exact ⟨T, _, _, h2, h3, h4, by show Option.map _ ms[i]? = _; rw [h1]; rfl, by show Option.map _ ms[i]? = _; rw [h1]; rfl⟩
end
end K11

set_option Elab.async false
set_option linter.all false
set_option maxRecDepth 100000
set_option maxHeartbeats 1000000
namespace K11
open PySem PySem.Spec PyProof.Rows L2
abbrev sstates_behind : Stmt := top 21
abbrev N_states_behind : List Str := ["works", "heaps", "crew", "met", "line", "later", "state", "index", "behind"]
theorem sc_states_behind : FnScope N_states_behind ["works", "heaps", "crew"] (defScope sstates_behind) := ⟨rfl, rfl, rfl, by decide +kernel, rfl, by decide +kernel, by decide +kernel⟩
theorem st_states_behind (x0 x1 x2 : V) : L2.start N_states_behind [x0, x1, x2] = [some x0, some x1, some x2, none, none, none, none, none, none] := rfl
/-! ### the error's own __init__ -/
abbrev sinit : Stmt := inClass (top 3) 0
abbrev N_init : List Str := ["self", "most"]
theorem sc_init : FnScope N_init ["self", "most"] (defScope sinit) := ⟨rfl, rfl, rfl, by decide +kernel, rfl, by decide +kernel, by decide +kernel⟩
theorem st_init (x0 x1 : V) : L2.start N_init [x0, x1] = [some x0, some x1] := rfl
def spInit (C : Addr) : Sp := fun vs H Q _ => ∃ (a : Addr) (y : V), vs = [.ref a, y] ∧ H a = some (exo a C none) ∧ ∀ dx, H dx = none → dx ≠ a → Q .non (upd (upd H dx (exd dx [("most", y)])) a (exo a C (some dx)))
/-- what is told of the error's class -/
structure TmC (P : Program) (w : World) (K : PySem.W.Frag) (mg : Str → Option Value) (base : Heap) (C : Addr) : Prop where
  T : OexC K C
  no : PySem.W.findIn K (.ref C) "most" = some none
  g : mg "TooMany" = some (.ref C)
  one : PySem.W.exmOne K (.ref C) (.ref C) = some true
  init : ∃ (fI : Addr) (fd : FuncData), PySem.W.findIn K (.ref C) "__init__" = some (some (.ref fI)) ∧ PySem.W.typeIn K (.ref fI) = some (.type "function") ∧ FnOk P w K mg base CX0 1 fI fd ["self", "most"] (spInit C) ∧ Binds K fd ["self", "most"] []
section
variable {P : Program} {w : World} {K : PySem.W.Frag} {mg : Str → Option Value} {base : Heap} {f C : Addr} {fd : FuncData}
theorem ok_init (F : FunD K "__init__" "TooMany.__init__" (defArgs sinit) (defBody sinit) (defScope sinit) [] [] f fd) (T : OexC K C) (no : PySem.W.findIn K (.ref C) "most" = some none) : FnOk P w K mg base CX0 1 f fd ["self", "most"] (spInit C) := by
  refine F.ok sc_init (fun vs H Q E h => ?_) (fun cdv A outer s H vs Q E hr h => ?_)
  · obtain ⟨a, y, rfl, _⟩ := h
    rfl
  · obtain ⟨a, y, rfl, ha, k⟩ := h
    refine ⟨_, PSs.nox (pss_one (ps_ost (pv 0) (pv 1))), ?_⟩
    rw [st_init]
    exact ⟨_, rfl, _, rfl, a, C, rfl, T, no, .inl ⟨ha, fun dx hd ne => k dx hd ne⟩⟩
/-- all that can be reached, or the error -/
def spBehind (P : Program) (w : World) (C : Addr) : Sp := fun vs H Q E => ∃ wv x y W, ∃ s : Sta, vs = [wv, x, y] ∧ WkAt H wv W ∧ TupI H x s.1 ∧ TupI H y s.2 ∧ WkOk W ∧ StOk W s ∧
  (∀ d M H', MetOk W s M → M.length ≤ 5000 → Same H H' → H d = none → MetD P w H' d M → Q (.ref d) H') ∧ (¬ Small W s → ∀ d H', Same H H' → E (.ref C) d H')
theorem uniq_key {M : Met} (nd : (M.map (·.1)).Nodup) {t : Sta} {a b : List Int} (ha : (t, a) ∈ M) (hb : (t, b) ∈ M) : a = b := by
  induction M with
  | nil => simp at ha
  | cons p M ih =>
    rw [List.map_cons, List.nodup_cons] at nd
    rcases List.mem_cons.mp ha with e | ha
    · rcases List.mem_cons.mp hb with e2 | hb
      · rw [← e] at e2
        exact ((Prod.mk.inj e2).2).symm
      · exact absurd (List.mem_map.mpr ⟨_, hb, by rw [← e]⟩) nd.1
    · rcases List.mem_cons.mp hb with e2 | hb
      · exact absurd (List.mem_map.mpr ⟨_, ha, by rw [← e2]⟩) nd.1
      · exact ih nd.2 ha hb
theorem ok_states_behind (F : FnP K "states_behind" sstates_behind f fd) (B : Bt mg) (C_after_deed : Cl P w K mg base CX0 1 "after_deed" ["works", "heaps", "crew", "index"] spDeed) (tm : TmC P w K mg base C) {ue : Value} (g_MOST_ENDS : mg "MOST_ENDS" = some ue) (r_MOST_ENDS : L2.RelV (.int 5000) ue) :
    FnOk P w K mg base (L2.CX P w) 3 f fd ["works", "heaps", "crew"] (spBehind P w C) := by
  obtain ⟨T, no, gC, one, fI, fdI, iC, tI, FI, bI⟩ := tm
  refine F.ok sc_states_behind (fun vs H Q E h => ?_) (fun cdv A outer s H vs Q E hr h => ?_)
  · obtain ⟨wv, x, y, W, s, rfl, _⟩ := h
    rfl
  · obtain ⟨wv, x, y, W, st, rfl, hw, hx, hy, wk, so, k, kE⟩ := h
    have hw0 := hw
    obtain ⟨aw, xk, xh, _, rfl, hwt, _, _, ⟨pr, rs, rfl, hpr, pp⟩⟩ := hw0
    have hu := hr.units
    have big := line_big
    have lr := paired_len pp
    have r16 := wk.2.2.2.2.1
    refine ⟨_, (pss_cons (ps_par (i := 3) (j := 4) rfl sc_states_behind.nd rfl rfl (by decide) rfl rfl (pa_cons (pe_met1 hu (pe_tup (pa_cons (pv 1) (pa_cons (pv 2) pa_nil))) (pe_tup pa_nil)) (pa_cons (pe_lst (pa_cons (pe_tup (pa_cons (pv 1) (pa_cons (pv 2) pa_nil))) pa_nil)) pa_nil)) (by rfl))
      (pss_cons (ps_while (passes_of rfl) (pt_cmpR (op_neD hr.units) (pv 4) (pe_lst pa_nil) (nomark _)) (pss_cons (ps_set (i := 5) sc_states_behind.nd rfl (Or.inl rfl) (pe_lst pa_nil))
      (pss_cons (ps_for (passes_of rfl) rfl (pi_list (pv 4)) (pg_name (i := 6) sc_states_behind.nd rfl (Or.inl rfl))
        (pss_one (ps_for (passes_of rfl) rfl (pi_range1 (by rfl) B.range (pa_cons (pe_callB call_len_seq (by rfl) B.len (by decide +kernel) (pa_cons (pe_ix ix_tup (pv 0) pe_int (fun _ _ => rfl)) pa_nil)) pa_nil)) (pg_name (i := 7) sc_states_behind.nd rfl (Or.inl rfl))
        (pss_cons (ps_set (i := 8) sc_states_behind.nd rfl (Or.inl rfl) (pe_c C_after_deed hr (by decide) (by rfl) (pa_cons (pv 0) (pa_cons (pe_ix ix_tup (pv 6) pe_int (fun _ _ => rfl)) (pa_cons (pe_ix ix_tup (pv 6) pe_int (fun _ _ => rfl)) (pa_cons (pv 7) pa_nil))))))
      (pss_one (ps_if (PW.pt (pw_and (pt_cmpR op_notN (pv 8) pe_non (nomark _)) (pw_and1 (pt_cmp (pc_metnotin hu (pv 8) (pv 3)) rfl)))) (pss_cons (ps_metput hu (pv 3) (pv 8) (pe_op op_catA (pe_metget hu (pv 3) (pv 6) (fun _ _ => rfl)) (pe_tup (pa_cons (pv 7) pa_nil))) rfl)
      (pss_one (ps_expr (pe_bm PySem.F.plainAttrs_list PySem.F.slot_list_append PySem.F.type_list_append mt_append (pv 5) (pa_cons (pv 8) pa_nil))))) pss_nil))))))
      (pss_cons (ps_if (pt_cmpR op_gt (pe_callB call_len_met (by rfl) B.len (by decide +kernel) (pa_cons (pv 3) pa_nil)) (pe_glob (v := .int 5000) (by rfl) g_MOST_ENDS r_MOST_ENDS) (nomark _)) (pss_one (ps_raise rfl (takes_of rfl rfl rfl rfl) (pmk_oex T iC tI FI hr bI .nil pass0 (by rfl) gC (pa_cons (pe_glob (v := .int 5000) (by rfl) g_MOST_ENDS r_MOST_ENDS) pa_nil)))) pss_nil)
      (pss_one (ps_set (i := 4) sc_states_behind.nd rfl (Or.inl rfl) (pv 5)))))))
      (pss_one (ps_ret (pv 3))))), ?_⟩
    rw [st_states_behind]
    dsimp only [cxOf]
    refine fun p hp => ⟨_, rfl, _, rfl, sz2, fun b hb => ⟨Nat.zero_le _, fun c hc => ?_⟩⟩
    have A1 := same_new (o := MetO P w p []) hp
    have B1 := same_new (o := .tup [x, y]) hb
    have B2 := same_new (o := .tup ([] : List V)) hc
    have A3 := (A1.trans B1).trans B2
    refine ⟨st, [], b, c, rfl, rfl, ⟨b, x, y, rfl, B2 _ _ upd_same, hx.tp (tp_same A3), hy.tp (tp_same A3)⟩, ⟨c, rfl, upd_same⟩, (B1.trans B2) _ _ upd_same, fun ms0 hM0 => ?_⟩
    have A4 : Same H (upd (upd (upd (upd H p (MetO P w p [])) b (.tup [x, y])) c (.tup [])) p (MetO P w p ms0)) := same_mut A3 hp
    generalize upd (upd (upd (upd H p (MetO P w p [])) b (.tup [x, y])) c (.tup [])) p (MetO P w p ms0) = H4 at A4 hM0
    refine ⟨_, rfl, _, rfl, sz2, fun e he => ⟨sz1, fun l hl => ⟨_, _, rfl, ?_⟩⟩⟩
    have B5 := (same_new (o := .tup [x, y]) he).trans (same_new (o := .lst [V.ref e]) hl)
    have A5 := A4.trans B5
    have hl0 : Paired (StAt (upd (upd H4 e (.tup [x, y])) l (.lst [V.ref e]))) [V.ref e] [st] := .cons ⟨e, x, y, rfl, same_new hl _ _ upd_same, hx.tp (tp_same A5), hy.tp (tp_same A5)⟩ .nil
    have hM5 := hM0.same B5
    have el : upd (upd H4 e (.tup [x, y])) l (.lst [V.ref e]) l = some (.lst [V.ref e]) := upd_same
    generalize upd (upd H4 e (.tup [x, y])) l (.lst [V.ref e]) = H5 at A5 hl0 hM5 el
    refine ⟨fun m σ H' => ∃ L M line pl xs o5 o6 o7 o8, σ = [some (.ref aw), some x, some y, some (.ref p), some (.ref pl), o5, o6, o7, o8] ∧ Same H H' ∧ MetD P w H' p M ∧ LvOk W st L M line ∧ H' pl = some (.lst xs) ∧ Paired (StAt H') xs line ∧ M.length ≤ 5000 ∧ line.length ≤ M.length ∧
      L ≤ M.length ∧ (line ≠ [] → L + 1 ≤ M.length) ∧ m = 2 * (5001 - M.length) + (if line = [] then 0 else 1), ⟨_, 0, [(st, [])], [st], l, _, _, _, _, _, rfl, A5, hM5, lv0 W st, el, hl0, by show 1 ≤ 5000; decide, Nat.le_refl _, Nat.zero_le _, fun _ => Nat.le_refl _, rfl⟩, ?_⟩
    clear hM0 A4 A5 hl0 hM5 el
    rintro m σ H6 ⟨L, M, line, pl, xs, o5, o6, o7, o8, rfl, sm, hM, lv, epl, hxs, m5, lm, hL, hL1, rfl⟩
    have lx := paired_len hxs
    refine ⟨_, rfl, Nat.zero_le _, fun e1 he1 => ?_⟩
    have C1 := same_new (o := .lst []) he1
    refine rNe_nilL (n := 2) (C1 _ _ epl) (dpAll_paired (F := StAt (upd H6 e1 (.lst []))) (fun _ _ q => dp_S q) (Paired.mapP hxs fun _ _ q => q.tp (tp_same C1))) (fun d hd => by
      obtain ⟨r, _, rfl⟩ := List.mem_map.mp hd
      exact lt_S r) (by decide) upd_same ⟨_, rfl, ?_⟩
    cases xs with
    | nil =>
      have : line = [] := by cases hxs; rfl
      subst this
      exact ⟨_, rfl, k p M _ (lv.ends (by omega)) m5 (sm.trans C1) hp (hM.same C1)⟩
    | cons x0 xs0 =>
      have hne : line ≠ [] := by intro e; rw [e] at lx; simp at lx
      have hL2 := hL1 hne
      rw [if_neg hne]
      refine ⟨_, fun σ' H' h => h, ?_⟩
      have epl1 := C1 _ _ epl
      have hxs1 : Paired (StAt (upd H6 e1 (.lst []))) (x0 :: xs0) line := Paired.mapP hxs fun _ _ q => q.tp (tp_same C1)
      have hM1 := hM.same C1
      have sm1 := sm.trans C1
      generalize upd H6 e1 (.lst []) = H7 at epl1 hxs1 hM1 sm1 C1
      generalize x0 :: xs0 = xs at epl1 hxs1 lx
      refine ⟨Nat.zero_le _, fun p5 hp5 => ?_⟩
      have C2 := same_new (o := .lst []) hp5
      have n5 : H p5 = none := none_back sm1 hp5
      have pl5 : pl ≠ p5 := ne_of_none epl1 hp5
      have ep5 : upd H7 p5 (.lst []) p5 = some (.lst []) := upd_same
      have epl2 := C2 _ _ epl1
      have hxs2 : Paired (StAt (upd H7 p5 (.lst []))) xs line := Paired.mapP hxs1 fun _ _ q => q.tp (tp_same C2)
      have hM2 := hM1.same C2
      have sm2 := sm1.trans C2
      generalize upd H7 p5 (.lst []) = H8 at ep5 epl2 hxs2 hM2 sm2 C2
      refine ⟨_, rfl, pl, rfl, ⟨_, SqL.of epl2⟩, ?_⟩
      refine for_it (walk_list (xs := xs)) (fun i σ H' => ∃ o6 o7 o8 N ys, σ = [some (.ref aw), some x, some y, some (.ref p), some (.ref pl), some (.ref p5), o6, o7, o8] ∧ Same H H' ∧ H' pl = some (.lst xs) ∧ Paired (StAt H') xs line ∧ MetD P w H' p (M ++ N) ∧ H' p5 = some (.lst ys) ∧ Paired (StAt H') ys (N.map (·.1)) ∧
        InOk W st L M line N (fun t _ => ∃ j, j < i ∧ line[j]? = some t) ∧ N.length ≤ i * 16) ?_ ?_ ?_ ?_
      · exact ⟨_, _, _, [], [], rfl, sm2, epl2, hxs2, by rw [List.append_nil]; exact hM2, ep5, .nil, ⟨by rw [List.append_nil]; exact lv.nd, by simp, fun t i u ⟨j, hj, _⟩ => absurd hj (Nat.not_lt_zero _)⟩, Nat.zero_le _⟩
      · rintro i σ H' hi ⟨_, _, _, _, _, _, _, h, _⟩
        exact SqL.of h
      · clear ep5 epl2 hxs2 hM2 sm2 C2 epl1 hxs1 hM1 sm1 C1 epl hxs hM sm
        rintro i z σ H9 H10 hi ⟨o6, o7, o8, N, ys, rfl, sm, epl, hxs, hM, ep5, hys, ino, lN⟩ ⟨rfl, hz⟩
        obtain ⟨cur, hcur, b6, zx, zy, rfl, hb6, hzx, hzy⟩ := paired_getL hxs hz
        refine ⟨_, rfl, aw, _, 2, _, rfl, rfl, SqT.of (sm _ _ hwt), rfl, pr, _, rfl, .inr (SqT.of (sm _ _ hpr)), _, rfl, by omega, by omega, ?_⟩
        rw [Int.toNat_natCast]
        obtain ⟨dsc, hdsc, ldsc⟩ := lv.line cur (List.mem_of_getElem? hcur)
        have rcur := (lv.run _ hdsc).1
        have socur := so.run wk rcur
        refine for_it (walk_r0 (n := rs.length)) (fun j σ H' => ∃ o7 o8 N ys, σ = [some (.ref aw), some x, some y, some (.ref p), some (.ref pl), some (.ref p5), some (.ref b6), o7, o8] ∧ Same H H' ∧ H' pl = some (.lst xs) ∧ Paired (StAt H') xs line ∧ MetD P w H' p (M ++ N) ∧ H' p5 = some (.lst ys) ∧ Paired (StAt H') ys (N.map (·.1)) ∧
          H' b6 = some (.tup [zx, zy]) ∧ TupI H' zx cur.1 ∧ TupI H' zy cur.2 ∧ InOk W st L M line N (fun t ix => (∃ j, j < i ∧ line[j]? = some t) ∨ (t = cur ∧ 0 ≤ ix ∧ ix < (j : Nat))) ∧ N.length ≤ i * 16 + j) ?_ (fun _ _ _ _ _ => trivial) ?_ ?_
        · exact ⟨_, _, N, ys, rfl, sm, epl, hxs, hM, ep5, hys, hb6, hzx, hzy, ⟨ino.nd, ino.run, fun t ix u hpr' hd => by
            rcases hpr' with h | ⟨_, h1, h2⟩
            · exact ino.done t ix u h hd
            · omega⟩, by omega⟩
        · clear epl hxs hM ep5 hys ino lN hb6 hzx hzy sm
          rintro j z σ H11 H12 hj ⟨o7, o8, N, ys, rfl, sm, epl, hxs, hM, ep5, hys, hb6, hzx, hzy, ino, lN⟩ ⟨rfl, rfl⟩
          refine ⟨_, rfl, _, rfl, b6, _, 0, _, rfl, rfl, SqT.of hb6, rfl, _, rfl, b6, _, 1, _, rfl, rfl, SqT.of hb6, rfl, _, rfl, _, _, _, W, cur, (j : Nat), rfl, hw.tp (tp_same sm), hzx, hzy, wk, socur, by omega, by omega, fun v H13 sm13 e13 => ?_⟩
          have S13 := sm.trans sm13
          have keep : ∀ (M' : Met), InOk W st L M line M' (fun t ix => (∃ j, j < i ∧ line[j]? = some t) ∨ (t = cur ∧ 0 ≤ ix ∧ ix < (j : Nat))) → (∀ u, deed W cur (j : Nat) = some u → u ∈ (M ++ M').map (·.1)) → InOk W st L M line M' (fun t ix => (∃ j, j < i ∧ line[j]? = some t) ∨ (t = cur ∧ 0 ≤ ix ∧ ix < ((j + 1 : Nat) : Int))) := fun M' q h => ⟨q.nd, q.run, fun t ix u hp' hd => by
            rcases hp' with h1 | ⟨rfl, h1, h2⟩
            · exact q.done t ix u (.inl h1) hd
            · by_cases hx : ix < (j : Nat)
              · exact q.done t ix u (.inr ⟨rfl, h1, hx⟩) hd
              · have : ix = (j : Nat) := by omega
                subst this
                exact h u hd⟩
          cases ed : deed W cur (j : Nat) with
          | none =>
            rw [ed] at e13
            have e13' : v = .non := e13
            subst e13'
            refine ⟨_, rfl, rfl, _, rfl, _, _, N, ys, rfl, S13, sm13 _ _ epl, Paired.mapP hxs fun _ _ q => q.tp (tp_same sm13), hM.same sm13, sm13 _ _ ep5, Paired.mapP hys fun _ _ q => q.tp (tp_same sm13), sm13 _ _ hb6, hzx.tp (tp_same sm13), hzy.tp (tp_same sm13), keep N ino (fun u h => by rw [ed] at h; cases h), by omega⟩
          | some u =>
            rw [ed] at e13
            obtain ⟨bu, ux, uy, rfl, hbu, hux, huy⟩ := e13
            have hus : StAt H13 (.ref bu) u := ⟨bu, ux, uy, rfl, hbu, hux, huy⟩
            refine ⟨_, rfl, rfl, _, rfl, _, rfl, _, rfl, p, M ++ N, u, bu, rfl, rfl, hM.same sm13, hus, fun hnew => ⟨_, rfl, ?_⟩, fun ds hold => ⟨_, rfl, ?_⟩⟩
            · have hnk : u ∉ (M ++ N).map (·.1) := fun h => by
                obtain ⟨q, hq, e⟩ := List.mem_map.mp h
                exact hnew q.2 (by rw [← e]; exact hq)
              have lMN : (M ++ N).length < 100000 := by
                rw [List.length_append]
                have : i * 16 ≤ 4999 * 16 := Nat.mul_le_mul_right _ (by omega)
                omega
              refine ⟨_, rfl, _, rfl, p, M ++ N, cur, b6, rfl, rfl, hM.same sm13, ⟨b6, zx, zy, rfl, sm13 _ _ hb6, hzx.tp (tp_same sm13), hzy.tp (tp_same sm13)⟩, ⟨dsc, List.mem_append_left _ hdsc⟩, fun cv ds hm hcv => ?_⟩
              have eds := uniq_key ino.nd hm (List.mem_append_left _ hdsc)
              subst eds
              refine ⟨_, rfl, sz1, fun q hq => ?_⟩
              obtain ⟨cv', ecv, hcv⟩ := hcv
              cases ecv
              refine cat_mk ⟨cv, rfl, same_new hq _ _ hcv⟩ ⟨q, rfl, upd_same⟩ (by rw [List.length_map, List.length_singleton]; omega) fun v14 H14 sm14 e14 => ?_
              obtain ⟨b14, rfl, e14⟩ := e14
              have D14 := (same_new (o := .tup [V.int (j : Nat)]) hq).trans sm14
              have S14 := S13.trans D14
              have D14' := sm13.trans D14
              refine ⟨_, rfl, _, rfl, p, M ++ N, u, bu, b14, ds ++ [(j : Int)], rfl, rfl, rfl, hM.same D14', hus.tp (tp_same D14), ⟨b14, rfl, by rw [e14, List.map_append]; rfl⟩, hnk, lMN, fun ms hMn hold => ?_⟩
              obtain ⟨ms0, hms0⟩ := hold
              have T15 := tp_met (o := MetO P w p ms) hms0
              have S15 : Same H (upd H14 p (MetO P w p ms)) := same_mut S14 hp
              have ne1 : ∀ {q : Addr} {zs : List V}, H14 q = some (.lst zs) → upd H14 p (MetO P w p ms) q = some (.lst zs) := fun {q zs} h => by
                rw [upd_ne (ne_of h hms0 (fun z => nomatch z))]
                exact h
              have epl15 := ne1 (D14' _ _ epl)
              have ep515 := ne1 (D14' _ _ ep5)
              have hxs15 : Paired (StAt (upd H14 p (MetO P w p ms))) xs line := Paired.mapP hxs fun _ _ q => (q.tp (tp_same D14')).tp T15
              have hys15 : Paired (StAt (upd H14 p (MetO P w p ms))) ys (N.map (·.1)) := Paired.mapP hys fun _ _ q => (q.tp (tp_same D14')).tp T15
              have hb15 := T15.1 _ _ (D14' _ _ hb6)
              have hzx15 := (hzx.tp (tp_same D14')).tp T15
              have hzy15 := (hzy.tp (tp_same D14')).tp T15
              have hus15 := (hus.tp (tp_same D14)).tp T15
              generalize upd H14 p (MetO P w p ms) = H15 at S15 hMn epl15 ep515 hxs15 hys15 hb15 hzx15 hzy15 hus15
              have ly := paired_len hys15
              rw [List.length_map] at ly
              rw [List.length_append] at lMN
              refine ⟨_, rfl, .inl ⟨rfl, _, SqL.of ep515⟩, _, rfl, p5, ys, .ref bu, rfl, rfl, ep515, by omega, ?_⟩
              have T16 := tp_lst (o := .lst (ys ++ [V.ref bu])) ep515
              have hM16 : MetD P w (upd H15 p5 (.lst (ys ++ [V.ref bu]))) p (M ++ N ++ [(u, ds ++ [(j : Int)])]) := by
                obtain ⟨ms1, g1, g2, g3⟩ := hMn
                exact ⟨ms1, by rw [upd_ne (ne_of g1 ep515 (fun z => nomatch z))]; exact g1, Paired.mapP g2 fun _ _ q => q.tp T16, g3⟩
              have ndn := hM16
              refine ⟨_, _, N ++ [(u, ds ++ [(j : Int)])], ys ++ [V.ref bu], rfl, same_mut S15 n5, by rw [upd_ne pl5]; exact epl15, Paired.mapP hxs15 fun _ _ q => q.tp T16, by rw [← List.append_assoc]; exact hM16, upd_same, ?_, T16.1 _ _ hb15, hzx15.tp T16, hzy15.tp T16, ?_, by rw [List.length_append, List.length_singleton]; omega⟩
              · rw [List.map_append]
                exact Paired.snoc (Paired.mapP hys15 fun _ _ q => q.tp T16) (hus15.tp T16)
              · obtain ⟨_, _, _, g3, _⟩ := ndn
                refine keep _ ⟨by rw [← List.append_assoc]; exact g3, fun q hq => ?_, fun t ix u' hp' hd => ?_⟩ (fun u' h => ?_)
                · rcases List.mem_append.mp hq with h | h
                  · exact ino.run q h
                  · rw [List.mem_singleton.mp h]
                    refine ⟨?_, by rw [List.length_append, List.length_singleton, ldsc]⟩
                    show runD W st (ds ++ [(j : Int)]) = some u
                    rw [runD_snoc, rcur]
                    exact ed
                · rw [← List.append_assoc, List.map_append]
                  exact List.mem_append_left _ (ino.done t ix u' hp' hd)
                · rw [ed] at h
                  cases h
                  rw [← List.append_assoc, List.map_append]
                  exact List.mem_append_right _ (by simp)
            · refine ⟨_, _, N, ys, rfl, S13, sm13 _ _ epl, Paired.mapP hxs fun _ _ q => q.tp (tp_same sm13), hM.same sm13, sm13 _ _ ep5, Paired.mapP hys fun _ _ q => q.tp (tp_same sm13), sm13 _ _ hb6, hzx.tp (tp_same sm13), hzy.tp (tp_same sm13), keep N ino (fun u' h => by
                rw [ed] at h
                cases h
                exact List.mem_map.mpr ⟨_, hold, rfl⟩), by omega⟩
        · clear epl hxs hM ep5 hys ino lN hb6 hzx hzy sm
          rintro σ H11 ⟨o7, o8, N, ys, rfl, sm, epl, hxs, hM, ep5, hys, hb6, hzx, hzy, ino, lN⟩
          refine ⟨_, _, _, N, ys, rfl, sm, epl, hxs, hM, ep5, hys, ⟨ino.nd, ino.run, fun t ix u hp' hd => ?_⟩, by omega⟩
          obtain ⟨j', hj', hl'⟩ := hp'
          by_cases hx : j' < i
          · exact ino.done t ix u (.inl ⟨j', hx, hl'⟩) hd
          · have : j' = i := by omega
            subst this
            rw [hcur] at hl'
            cases hl'
            obtain ⟨r, d0, hr0, _⟩ := deed_rec hd
            have := (List.getElem?_eq_some_iff.mp hr0).1
            exact ino.done cur ix u (.inr ⟨rfl, d0, by omega⟩) hd
      · clear ep5 epl2 hxs2 hM2 sm2 C2 epl1 hxs1 hM1 sm1 C1 epl hxs hM sm
        rintro σ H9 ⟨o6, o7, o8, N, ys, rfl, sm, epl, hxs, hM, ep5, hys, ino, lN⟩
        have nx : LvOk W st (L + 1) (M ++ N) (N.map (·.1)) := ino.next lv fun t ht ix u _ => by
          obtain ⟨j, hj⟩ := List.mem_iff_getElem?.mp ht
          exact ⟨j, by have := (List.getElem?_eq_some_iff.mp hj).1; omega, hj⟩
        refine ⟨_, rfl, p, M ++ N, rfl, hM, _, 5000, rfl, rfl, _, rfl, ?_⟩
        by_cases h5 : (5000 : Int) < ((M ++ N).length : Nat)
        · rw [decide_eq_true h5]
          have ns : ¬ Small W st := fun hs => by
            have := small_len hs nx.nd fun q hq => (nx.run q hq).1
            omega
          refine ⟨by show 1 ≤ 1000; decide, fun a ha => ⟨a, _, rfl, upd_same, fun dx hdx hne => ?_⟩⟩
          have hdx' : H9 dx = none := by
            rw [upd_ne hne] at hdx
            exact hdx
          refine ⟨rfl, dx, [(Str.ofString "most", V.int 5000)], upd_same, by rw [upd_ne hne]; exact upd_same, hdx', kE ns dx _ (sm.trans fun b o e => ?_)⟩
          have ba : b ≠ a := ne_of_none e ha
          have bd : b ≠ dx := ne_of_none e hdx'
          rw [upd_ne bd, del_ne ba, upd_ne ba, upd_ne bd, upd_ne ba]
          exact e
        · rw [decide_eq_false h5]
          rw [List.length_append] at h5
          have lMN : (M ++ N).length = M.length + N.length := List.length_append
          have hN : ¬ N = [] → 1 ≤ N.length := fun h => List.length_pos_iff.mpr h
          refine ⟨_, rfl, 2 * (5001 - (M ++ N).length) + (if N.map (·.1) = [] then 0 else 1), ?_, L + 1, M ++ N, N.map (·.1), p5, ys, _, _, _, _, rfl, sm, hM, nx, ep5, hys, by omega, by rw [List.length_map]; omega, by omega, fun h => ?_, rfl⟩
          · by_cases hn : N = []
            · subst hn
              simp
            · have := hN hn
              rw [if_neg (by simpa using hn)]
              omega
          · have := hN (by simpa using h)
            omega
end
end K11

set_option Elab.async false
set_option linter.all false
set_option maxRecDepth 100000
set_option maxHeartbeats 1000000
/-! A dict whose keys are tuples of ints; (m, tuple) < (n, tuple); sorted of it. -/
namespace K11
open PySem PySem.Spec PyProof.Rows L2
/-! ### order of pairs: a number, then a tuple of ints -/
def rLtN : R2 := fun x y H Q => ∃ (a b : Addr) (m n : Int) (u v : V) (ds es : List Int), x = .ref a ∧ y = .ref b ∧ H a = some (.tup [.int m, u]) ∧ H b = some (.tup [.int n, v]) ∧ TupI H u ds ∧ TupI H v es ∧
  ∀ r, (m < n → r = true) → (n < m → r = false) → Q (.bl r) H
section
variable {X : Cx} {pins : List (Addr × Obj)} {σ : L2.St} {H : Hp} {s : Shared}
theorem ints_at (I : Inv X pins σ H s) {a : Addr} {ns : List Int} (h : H a = some (.tup (ns.map V.int))) : ∃ its : List Value, s.heap.IsTuple a its.toArray ∧ IntsAre its ns := by
  obtain ⟨_, its, r, o, h1, h2, n, h3⟩ := I.hok a _ h
  exact ⟨its, ⟨o, h1, h2, n, h3⟩, Vals.ints r⟩
theorem two_at (I : Inv X pins σ H s) {a : Addr} {m : Int} {b : Addr} (h : H a = some (.tup [.int m, .ref b])) : ∃ t, s.heap.IsTuple a #[Value.int m t, Value.ref b] := by
  obtain ⟨_, its, r, o, h1, h2, n, h3⟩ := I.hok a _ h
  cases r with
  | cons r1 r =>
    cases r with
    | cons r2 r =>
      cases r
      obtain ⟨t, rfl⟩ := r1
      cases r2
      exact ⟨t, o, h1, h2, n, h3⟩
theorem lt_tups (I : Inv X pins σ H s) {A : Around} (hu : A.units < cLine) {a b : Addr} {ns ms : List Int} (ha : H a = some (.tup (ns.map V.int))) (hb : H b = some (.tup (ms.map V.int))) : ∃ r, Ob.RcOp .Lt A s (.ref a) (.ref b) r := by
  obtain ⟨its, p1, i1⟩ := ints_at I ha
  obtain ⟨its2, p2, i2⟩ := ints_at I hb
  have at1 : ∀ j (h1 : j < its.toArray.size), ∃ t, its.toArray[j] = .int (ns.getD j 0) t := fun j h1 => IntsAre.int_at i1 _ _ (by simp at h1; simp [h1])
  have at2 : ∀ j (h1 : j < its2.toArray.size), ∃ t, its2.toArray[j] = .int (ms.getD j 0) t := fun j h1 => IntsAre.int_at i2 _ _ (by simp at h1; simp [h1])
  refine ⟨_, Ob.RcOp.tuples_lt (e := fun j => ns.getD j 0 == ms.getD j 0) (r := fun j => decide (ns.getD j 0 < ms.getD j 0)) p1 p2 hu (fun j h1 h2 => ?_) (fun j h1 h2 _ => ?_)⟩
  · obtain ⟨t, et⟩ := at1 j h1
    obtain ⟨t', et'⟩ := at2 j h2
    rw [et, et']
    exact SeqAt.EqAt.int_int _ _ _ _
  · obtain ⟨t, et⟩ := at1 j h1
    obtain ⟨t', et'⟩ := at2 j h2
    rw [et, et']
    exact Ob.RcOp.lt_int _ _ _ _
theorem op_ltN (hu : X.A.units + 64 < cLine) : OpR X (compareOp .Lt) rLtN := by
  intro pins s σ H x y v u Q I rx ry h
  obtain ⟨a, b, m, n, _, _, ds, es, rfl, rfl, ha, hb, ⟨p, rfl, hp⟩, ⟨q, rfl, hq⟩, k⟩ := h
  cases rx
  cases ry
  obtain ⟨t1, T1⟩ := two_at I ha
  obtain ⟨t2, T2⟩ := two_at I hb
  have u1 : X.A.in1.units < cLine := by show X.A.units + 1 < cLine; omega
  obtain ⟨r, R⟩ := lt_tups I u1 hp hq
  have E1 := eqAt_key (.tup (ds.map .num)) (.tup (es.map .num)) X.A.in1 s (.ref p) (.ref q) (nested_tup I hp) (nested_tup I hq) (by
    show X.A.units + 1 + _ < cLine
    simp only [NestedKey.depth, dep_nums]
    omega)
  generalize NestedKey.beq (.tup (ds.map .num)) (.tup (es.map .num)) = c at E1
  have L := Ob.RcOp.tuples_lt (A := X.A) (s := s) (e := fun j => if j = 0 then m == n else c) (r := fun j => if j = 0 then decide (m < n) else r) T1 T2 (by omega) (fun j h1 h2 => by
    match j, h1, h2 with
    | 0, _, _ => exact SeqAt.EqAt.int_int _ _ _ _
    | 1, _, _ => exact E1
    | j + 2, h, _ => exact absurd h (by simp)) (fun j h1 h2 _ => by
    match j, h1, h2 with
    | 0, _, _ => exact Ob.RcOp.lt_int _ _ _ _
    | 1, _, _ => exact R
    | j + 2, h, _ => exact absurd h (by simp))
  refine L X.prog X.w X.xe (EP X pins σ Q) ⟨.bl _, H, I, rfl, k _ (fun h => ?_) (fun h => ?_)⟩
  · show (if (m == n) = true then _ else decide (m < n)) = true
    rw [if_neg (by simp; omega)]
    exact decide_eq_true h
  · show (if (m == n) = true then _ else decide (m < n)) = false
    rw [if_neg (by simp; omega)]
    exact decide_eq_false (by omega)
end
/-! ### tables -/
def getE (es : Es) (k : List Int) : Option (List Int) := (es.find? fun p => decide (p.1 = k)).map (·.2)
def putE : Es → List Int → List Int → Es
  | [], k, d => [(k, d)]
  | p :: es, k, d => if p.1 = k then (k, d) :: es else p :: putE es k d
def EPair (H : Hp) (x : List Key × V) (p : List Int × List Int) : Prop := x.1 = p.1.map Sum.inl ∧ TupI H x.2 p.2
abbrev EsK (H : Hp) : List (List Key × V) → Es → Prop := Paired (EPair H)
def EsAt (H : Hp) (d : Addr) (es : Es) : Prop := ∃ kvs, H d = some (.dT kvs) ∧ EsK H kvs es
theorem EPair.tp {H H' : Hp} {x : List Key × V} {p : List Int × List Int} (h : EPair H x p) (e : Tp H H') : EPair H' x p := ⟨h.1, h.2.tp e⟩
theorem EsK.tp {H H' : Hp} {kvs : List (List Key × V)} {es : Es} (h : EsK H kvs es) (e : Tp H H') : EsK H' kvs es := Paired.mapP h fun _ _ q => q.tp e
theorem EsAt.same {H H' : Hp} {d : Addr} {es : Es} (h : EsAt H d es) (e : Same H H') : EsAt H' d es := by
  obtain ⟨kvs, h1, h2⟩ := h
  exact ⟨kvs, e _ _ h1, EsK.tp h2 (tp_same e)⟩
theorem inl_inj : ∀ {a b : List Int}, (a.map Sum.inl : List Key) = b.map Sum.inl → a = b
  | [], [], _ => rfl
  | [], _ :: _, h => by simp at h
  | _ :: _, [], h => by simp at h
  | x :: a, y :: b, h => by
    rw [List.map_cons, List.map_cons] at h
    injection h with h1 h2
    injection h1 with h1
    rw [h1, inl_inj h2]
theorem kV_inl (l : List Int) : ((l.map Sum.inl : List Key).map kV) = l.map V.int := by rw [List.map_map]; rfl
theorem getE_nil (k : List Int) : getE [] k = none := rfl
theorem getE_cons (p : List Int × List Int) (es : Es) (k : List Int) : getE (p :: es) k = if p.1 = k then some p.2 else getE es k := by
  unfold getE
  by_cases e : p.1 = k
  · rw [List.find?_cons_of_pos (by simp [e]), if_pos e]
    rfl
  · rw [List.find?_cons_of_neg (by simp [e]), if_neg e]
theorem getE_some {k d : List Int} : ∀ {es : Es}, getE es k = some d → (k, d) ∈ es
  | [], h => by cases h
  | p :: es, h => by
    rw [getE_cons] at h
    by_cases e : p.1 = k
    · rw [if_pos e] at h
      cases h
      rw [← e]
      exact List.mem_cons_self ..
    · rw [if_neg e] at h
      exact List.mem_cons_of_mem _ (getE_some h)
theorem getE_none {k : List Int} : ∀ {es : Es}, getE es k = none → ∀ p ∈ es, p.1 ≠ k
  | [], _, p, hp => absurd hp (by simp)
  | q :: es, h, p, hp => by
    rw [getE_cons] at h
    by_cases e : q.1 = k
    · rw [if_pos e] at h
      cases h
    · rw [if_neg e] at h
      rcases List.mem_cons.mp hp with z | z
      · rw [z]; exact e
      · exact getE_none h p z
theorem getE_at {k d : List Int} : ∀ {es : Es}, (es.map (·.1)).Nodup → (k, d) ∈ es → getE es k = some d
  | [], _, h => absurd h (by simp)
  | q :: es, nd, h => by
    rw [List.map_cons, List.nodup_cons] at nd
    rw [getE_cons]
    rcases List.mem_cons.mp h with z | z
    · rw [← z, if_pos rfl]
    · rw [if_neg (fun e => nd.1 (List.mem_map.mpr ⟨_, z, e.symm⟩))]
      exact getE_at nd.2 z
theorem esK_val {H : Hp} {k : List Int} : ∀ {kvs : List (List Key × V)} {es : Es}, EsK H kvs es → (getE es k = none ∧ valV kvs (k.map Sum.inl) = none) ∨ ∃ d v, getE es k = some d ∧ valV kvs (k.map Sum.inl) = some v ∧ TupI H v d
  | _, _, .nil => .inl ⟨rfl, rfl⟩
  | x :: kvs, p :: es, .cons h t => by
    rw [getE_cons]
    by_cases e : p.1 = k
    · exact .inr ⟨p.2, x.2, if_pos e, valV_pos (by rw [h.1, e]), h.2⟩
    · rw [if_neg e, valV_neg (fun z => e (inl_inj (h.1.symm.trans z)))]
      exact esK_val t
theorem putE_len (k d : List Int) : ∀ es : Es, (putE es k d).length ≤ es.length + 1
  | [] => Nat.le_refl _
  | p :: es => by
    unfold putE
    by_cases e : p.1 = k
    · rw [if_pos e, List.length_cons, List.length_cons]
      omega
    · rw [if_neg e, List.length_cons, List.length_cons]
      have := putE_len k d es
      omega
theorem putE_self (k d : List Int) : ∀ es : Es, (k, d) ∈ putE es k d
  | [] => by simp [putE]
  | p :: es => by
    unfold putE
    by_cases e : p.1 = k
    · rw [if_pos e]; exact List.mem_cons_self ..
    · rw [if_neg e]; exact List.mem_cons_of_mem _ (putE_self k d es)
theorem putE_other {k d : List Int} {p : List Int × List Int} : ∀ {es : Es}, p ∈ es → p.1 ≠ k → p ∈ putE es k d
  | q :: es, h, ne => by
    unfold putE
    rcases List.mem_cons.mp h with z | z
    · rw [if_neg (by rw [← z]; exact ne), z]
      exact List.mem_cons_self ..
    · by_cases e : q.1 = k
      · rw [if_pos e]; exact List.mem_cons_of_mem _ z
      · rw [if_neg e]; exact List.mem_cons_of_mem _ (putE_other z ne)
theorem putE_mem {k d : List Int} {p : List Int × List Int} : ∀ {es : Es}, p ∈ putE es k d → p = (k, d) ∨ p ∈ es
  | [], h => .inl (by simpa [putE] using h)
  | q :: es, h => by
    unfold putE at h
    by_cases e : q.1 = k
    · rw [if_pos e] at h
      rcases List.mem_cons.mp h with z | z
      · exact .inl z
      · exact .inr (List.mem_cons_of_mem _ z)
    · rw [if_neg e] at h
      rcases List.mem_cons.mp h with z | z
      · exact .inr (by rw [z]; exact List.mem_cons_self ..)
      · rcases putE_mem z with y | y
        · exact .inl y
        · exact .inr (List.mem_cons_of_mem _ y)
theorem putE_nd {k d : List Int} : ∀ {es : Es}, (es.map (·.1)).Nodup → ((putE es k d).map (·.1)).Nodup
  | [], _ => by simp [putE]
  | q :: es, nd => by
    rw [List.map_cons, List.nodup_cons] at nd
    unfold putE
    by_cases e : q.1 = k
    · rw [if_pos e, List.map_cons, List.nodup_cons, ← e]
      exact nd
    · rw [if_neg e, List.map_cons, List.nodup_cons]
      refine ⟨fun h => ?_, putE_nd nd.2⟩
      obtain ⟨p, hp, hq⟩ := List.mem_map.mp h
      rcases putE_mem hp with z | z
      · rw [z] at hq
        exact e hq.symm
      · exact nd.1 (List.mem_map.mpr ⟨p, z, hq⟩)
theorem putE_new {k d : List Int} : ∀ {es : Es}, (∀ p ∈ es, p.1 ≠ k) → putE es k d = es ++ [(k, d)]
  | [], _ => rfl
  | q :: es, h => by
    unfold putE
    rw [if_neg (h q (List.mem_cons_self ..)), putE_new fun p hp => h p (List.mem_cons_of_mem _ hp)]
    rfl
theorem any_keys {H : Hp} {k : List Int} : ∀ {kvs : List (List Key × V)} {es : Es}, EsK H kvs es → (∀ p ∈ es, p.1 ≠ k) → (kvs.any fun kv => decide (kv.1 = k.map Sum.inl)) = false
  | _, _, .nil, _ => rfl
  | x :: kvs, p :: es, .cons h t, nk => by
    rw [List.any_cons, any_keys t fun q hq => nk q (List.mem_cons_of_mem _ hq), decide_eq_false (fun z => nk p (List.mem_cons_self ..) (inl_inj (h.1.symm.trans z)))]
    rfl
theorem map_keys {H : Hp} {k : List Int} {v : V} : ∀ {kvs : List (List Key × V)} {es : Es}, EsK H kvs es → (∀ p ∈ es, p.1 ≠ k) → kvs.map (fun kv => if kv.1 = k.map Sum.inl then (kv.1, v) else kv) = kvs
  | _, _, .nil, _ => rfl
  | x :: kvs, p :: es, .cons h t, nk => by
    rw [List.map_cons, map_keys t fun q hq => nk q (List.mem_cons_of_mem _ hq), if_neg (fun z => nk p (List.mem_cons_self ..) (inl_inj (h.1.symm.trans z)))]
theorem esK_put {H : Hp} {k d : List Int} {v : V} (hv : TupI H v d) : ∀ {kvs : List (List Key × V)} {es : Es}, EsK H kvs es → (es.map (·.1)).Nodup → EsK H (putK kvs (k.map Sum.inl) v) (putE es k d)
  | _, _, .nil, _ => .cons ⟨rfl, hv⟩ .nil
  | x :: kvs, p :: es, .cons h t, nd => by
    rw [List.map_cons, List.nodup_cons] at nd
    unfold putE
    by_cases e : p.1 = k
    · have nk : ∀ q ∈ es, q.1 ≠ k := fun q hq z => nd.1 (List.mem_map.mpr ⟨q, hq, by rw [z, e]⟩)
      have ex : x.1 = k.map Sum.inl := by rw [h.1, e]
      rw [if_pos e]
      unfold putK
      rw [List.any_cons, decide_eq_true ex, Bool.true_or, if_pos rfl, List.map_cons, if_pos ex, map_keys t nk]
      exact .cons ⟨ex, hv⟩ t
    · have ex : ¬ x.1 = k.map Sum.inl := fun z => e (inl_inj (h.1.symm.trans z))
      have ih := esK_put hv t nd.2 (k := k)
      rw [if_neg e]
      unfold putK at ih ⊢
      rw [List.any_cons, decide_eq_false ex, Bool.false_or]
      by_cases c : (kvs.any fun kv => decide (kv.1 = k.map Sum.inl)) = true
      · rw [if_pos c] at ih ⊢
        rw [List.map_cons, if_neg ex]
        exact .cons h ih
      · rw [if_neg c] at ih ⊢
        exact .cons h ih
theorem esK_keys {H : Hp} : ∀ {kvs : List (List Key × V)} {es : Es}, EsK H kvs es → kvs.map (·.1) = es.map fun p => p.1.map Sum.inl
  | _, _, .nil => rfl
  | _, _, .cons h t => by rw [List.map_cons, List.map_cons, esK_keys t, h.1]
end K11

set_option Elab.async false
set_option linter.all false
set_option maxRecDepth 100000
set_option maxHeartbeats 1000000
/-! Walks over, sorted of and comprehensions of such a dict. -/
namespace K11
open PySem PySem.Spec PyProof.Rows L2
/-! ### the keys of a new dict, one after the other -/
def iKeysL (td : TE) : TI := fun σ H R => td σ H fun x H1 => ∃ d kvs, x = .ref d ∧ H1 d = some (.dT kvs) ∧ ∀ od, R (Itkt d od kvs) (upd H1 d (.frz od (.dT kvs)))
theorem pi_keysL {X : Cx} {tg e : Expr} {td : TE} (he : PE X e td) : PI X tg e (iKeysL td) := by
  refine ⟨fun pins s σ H R I h => ?_⟩
  refine thn (he.run pins s σ H _ I h) fun u s1 ⟨x, H1, I1, rx, d, kvs, ex, hd, q⟩ => ?_
  subst ex
  obtain rfl : u = Value.ref d := rx
  obtain ⟨od, J⟩ := I1.lock hd trivial
  obtain ⟨h1, h2, h3, es, ep, h4, h5, h6⟩ := J.frzT upd_same
  refine iter_keys h1 h2 h3 h4 (pi_one (tk := s1.toks) J _ (turn_keysT _ h4) ⟨_, Heap.get?_push_size _ rfl, rfl, ?_⟩ (q od))
  rw [h5] <;> rfl
/-! ### sorted of such a dict -/
def sh0 : Nat → Bool := fun _ => false
theorem items_ints : ∀ {us : List Value} {ns : List Int} (i : Nat), IntsAre us ns → tupItems sh0 i us = some (ns.map Sum.inl)
  | _, _, _, .nil => rfl
  | _, _, i, .cons n t r => by
    show (if sh0 i = true then none else (tupItems sh0 (i + 1) _).map (Sum.inl n :: ·)) = _
    rw [if_neg (show ¬ sh0 i = true from Bool.false_ne_true), items_ints (i + 1) r]
    rfl
def unl (l : List (Int ⊕ List Nat)) : List Int := l.filterMap fun x => match x with
  | .inl n => some n
  | .inr _ => none
theorem unl_inl : ∀ ns : List Int, unl (ns.map Sum.inl) = ns
  | [] => rfl
  | n :: ns => by
    show n :: unl (ns.map Sum.inl) = _
    rw [unl_inl ns]
/-- a comes before b -/
def lexB (a b : List Int) : Prop := lexLt itemOrd (a.map Sum.inl) (b.map Sum.inl) = true
theorem isK_of {H : Hp} : ∀ {kvs : List (List Key × V)} {ks : List (List Int)} {bs : List Addr}, kvs.map (·.1) = ks.map (·.map Sum.inl) → IsKeys H kvs bs → Paired (fun k b => H b = some (.tup (k.map V.int))) ks bs
  | [], [], _, _, h => by
    cases h
    exact .nil
  | [], _ :: _, _, e, _ => by simp at e
  | _ :: _, [], _, e, _ => by simp at e
  | x :: kvs, k :: ks, _, e, h => by
    rw [List.map_cons, List.map_cons] at e
    injection e with e1 e2
    cases h with
    | cons h1 h2 =>
      refine .cons ?_ (isK_of e2 h2)
      rw [e1, kV_inl] at h1
      exact h1
theorem firsts_are {H : Hp} {h : Heap} (F : ∀ (b : Addr) (k : List Int), H b = some (.tup (k.map V.int)) → ∃ (o : Obj) (its : List Value) (n : Nat), h.get? b = some o ∧ o.cls = .type "tuple" ∧ o.data = .seq its.toArray n ∧ IntsAre its k) :
    ∀ {ks : List (List Int)} {bs : List Addr}, Paired (fun k b => H b = some (.tup (k.map V.int))) ks bs → (∀ k ∈ ks, k ≠ []) → ∃ fs, TupsOf h sh0 (bs.map Value.ref) fs
  | _, _, .nil, _ => ⟨[], .nil⟩
  | k :: ks, b :: bs, .cons h1 h2, hk => by
    obtain ⟨fs, r⟩ := firsts_are F h2 fun q hq => hk q (List.mem_cons_of_mem _ hq)
    obtain ⟨o, its, n, g1, g2, g3, g4⟩ := F b k h1
    have ne := hk k (List.mem_cons_self ..)
    cases g4 with
    | nil => exact absurd rfl ne
    | cons m t g4 => exact ⟨_, .cons ⟨b, o, _, n, rfl, g1, g2, g3, rfl, fun _ => ⟨m, t, rfl⟩, fun z => absurd z (by decide)⟩ r⟩
def bk : Value → V
  | .ref a => .ref a
  | _ => .non
theorem bk_vals : ∀ {us : List Value}, (∀ u ∈ us, ∃ a, u = Value.ref a) → Vals (us.map bk) us
  | [], _ => .nil
  | u :: us, h => by
    obtain ⟨a, rfl⟩ := h u (List.mem_cons_self ..)
    exact .cons rfl (bk_vals fun y hy => h y (List.mem_cons_of_mem _ hy))
def rSortT : List V → Hp → VK → Prop := fun vs H Q => ∃ (a : Addr) (kvs : List (List Key × V)) (ks : List (List Int)), vs = [.ref a] ∧ Rd H a (.dT kvs) ∧ kvs.map (·.1) = ks.map (·.map Sum.inl) ∧ ks.length ≤ 100000 ∧ (∀ k ∈ ks, k ≠ []) ∧ ks.Nodup ∧
  ∀ (ys : List (List Int)) (xs : List V) (p : Addr), ys.Perm ks → ys.Pairwise lexB → H p = none → Paired (TupI H) xs ys → Q (.ref p) (upd H p (.lst xs))
theorem cr_sortedTI {X : Cx} (hc : X.calm = true) (hu : X.A.units + 64 < cLine) : CallR X (.builtin "sorted") rSortT := by
  intro pins s σ H xs us Q I r h
  obtain ⟨a, kvs, ks, rfl, hd, hks, hn, hne, nd, q⟩ := h
  obtain ⟨u, rfl, rx⟩ := vals1 r
  cases rx
  obtain ⟨z, hs, xk, pr, o, es, ep, ho, hx, hdt, he, hnd⟩ := (show ObjOk X.prog X.w H s.heap a (.dT kvs) from hd.ok I.hok)
  have l1 : es.size = xk.length := size_of_entries he
  have l2 : kvs.length = xk.length := Paired.length pr
  have l3 : kvs.length = ks.length := by
    have := congrArg List.length hks
    rw [List.length_map, List.length_map] at this
    exact this
  have big := line_big
  have pk := isK_of hks (isKeys_of pr)
  generalize hbs : (xk.map fun x => x.2.1) = bs at pk
  refine Calls.call_function_entry PyProof.Rows.kind_sorted PyProof.Rows.plain_sorted PyProof.Rows.entry_sorted (PyProof.Rows.args_sorted1 _) ?_
  unfold Builtin.«sorted»
  refine wpAny_bind (m := checkCount "sorted" 1 1 _) (wpAny_pure ?_)
  refine wpAny_bind (PySem.W.kdu_collect (A := X.A.in1) (kdl_raw hs hx hdt) (I.ok.hd hc) ho (by omega) fun h' tk acc hk hacc => ?_)
  have ea : acc.toList = bs.map Value.ref := by
    rw [← hbs, List.map_map]
    refine List.ext_getElem? fun j => ?_
    rw [List.getElem?_map]
    cases hj : acc.toList[j]? with
    | none =>
      have := List.getElem?_eq_none_iff.mp hj
      rw [Array.length_toList, hacc.1] at this
      rw [List.getElem?_eq_none (by omega)]
      rfl
    | some v =>
      obtain ⟨en, hen, hv⟩ := hacc.2 j v (by rw [← Array.getElem?_toList]; exact hj)
      have qe := entry_at he j
      rw [hen] at qe
      cases hb : xk[j]? with
      | none =>
        rw [hb] at qe
        exact nomatch (show some en = none from qe)
      | some b =>
        rw [hb] at qe
        have e2 : en = entryOfKey (tupleKind (mixKind X.prog X.w)) b := Option.some.inj qe
        rw [hv, e2]
        rfl
  have lb : bs.length = ks.length := (Paired.length pk).symm
  have I1 : Inv X pins σ H { s with heap := h', toks := tk } := I.kept hk
  rw [ea]
  refine wpAny_bind (wpAny_newList ?_ (by rw [List.length_map]; omega))
  have hoL : (h'.push (seqObj "list" (bs.map Value.ref).toArray 0)).get? h'.objs.size = some (seqObj "list" (bs.map Value.ref).toArray 0) := Heap.get?_push_size _ rfl
  show wpAny _ _ _ _ _ { s with heap := h'.push (seqObj "list" (bs.map Value.ref).toArray 0), toks := tk }
  have F : ∀ (b : Addr) (k : List Int), H b = some (.tup (k.map V.int)) → ∃ (o : Obj) (its : List Value) (n : Nat), (h'.push (seqObj "list" (bs.map Value.ref).toArray 0)).get? b = some o ∧ o.cls = .type "tuple" ∧ o.data = .seq its.toArray n ∧ IntsAre its k := fun b k hb => by
    obtain ⟨its, ⟨o, g1, g2, n, g3⟩, g4⟩ := ints_at I hb
    exact ⟨o, its, n, Heap.get?_push_of_some _ (hk _ _ g1), g2, g3, g4⟩
  have hoB : ∀ b o, h'.get? b = some o → b ≠ h'.objs.size := fun b o e => Nat.ne_of_lt (Heap.lt_size e)
  generalize hh2 : h'.push (seqObj "list" (bs.map Value.ref).toArray 0) = h2 at hoL F ⊢
  have kf : ∀ (b : Addr) (k : List Int), H b = some (.tup (k.map V.int)) → G.tupKeyC h2 sh0 (.ref b) = some (k.map Sum.inl) := fun b k hb => by
    obtain ⟨o, its, n, g1, g2, g3, g4⟩ := F b k hb
    exact G.tupKeyC_of g1 g2 g3 (items_ints 0 g4)
  obtain ⟨fs, hfs⟩ := firsts_are F pk hne
  have inb : ∀ v ∈ bs.map Value.ref, ∃ b k, v = .ref b ∧ k ∈ ks ∧ H b = some (.tup (k.map V.int)) := fun v hv => by
    obtain ⟨b, hb, rfl⟩ := List.mem_map.mp hv
    obtain ⟨j, hj⟩ := List.mem_iff_getElem?.mp hb
    obtain ⟨k, hk1, hk2⟩ := paired_get pk hj
    exact ⟨b, k, rfl, List.mem_of_getElem? hk1, hk2⟩
  refine wpAny_bind (wpAny_holding (wpAny_call_entry PyProof.Rows.slot_list_sort ⟨_, hoL, rfl⟩ PyProof.Rows.entry_list_sort
    (G.list_sort_tups (s := { s with heap := h2, toks := tk }) (shape := sh0) hoL hfs (fun v hv => by
      obtain ⟨b, k, rfl, _, hb⟩ := inb v hv
      exact ⟨_, kf b k hb⟩) (by rw [List.length_map]; omega) fun st' a1 a2 _ => ⟨_, rfl, ?_⟩) (PyProof.Rows.args_list_sort _)))
  generalize hout : (arrOf st').map (·.2) = out
  obtain ⟨e', he'⟩ := PyProof.Rows.sortedHeap_at (vs := bs.map Value.ref) (out := out) hoL
  -- the order
  let kk : Value → List Int := fun v => unl ((G.tupKeyC h2 sh0 v).getD [])
  have kkb : ∀ (b : Addr) (k : List Int), H b = some (.tup (k.map V.int)) → kk (.ref b) = k := fun b k hb => by
    show unl ((G.tupKeyC h2 sh0 (.ref b)).getD []) = k
    rw [kf b k hb]
    exact unl_inl k
  have pl : (arrOf st').toList.Perm ((bs.map Value.ref).zip (bs.map Value.ref)) := by
    have := Array.perm_iff_toList_perm.mp a1
    rwa [pairsOf_toList] at this
  have pout : out.toList.Perm (bs.map Value.ref) := by
    have := pl.map (·.2)
    rw [List.map_snd_zip (Nat.le_refl _)] at this
    rw [← hout, Array.toList_map]
    exact this
  have inO : ∀ v ∈ out.toList, ∃ b k, v = .ref b ∧ k ∈ ks ∧ H b = some (.tup (k.map V.int)) := fun v hv => inb v (pout.mem_iff.mp hv)
  have kbs : (bs.map Value.ref).map kk = ks := by
    have go : ∀ {ks : List (List Int)} {bs : List Addr}, Paired (fun k b => H b = some (.tup (k.map V.int))) ks bs → (bs.map Value.ref).map kk = ks := by
      intro ks bs p
      induction p with
      | nil => rfl
      | cons h1 _ ih => rw [List.map_cons, List.map_cons, ih, kkb _ _ h1]
    exact go pk
  have py : (out.toList.map kk).Perm ks := by
    have := pout.map kk
    rwa [kbs] at this
  have ndy : (out.toList.map kk).Nodup := py.nodup_iff.mpr nd
  have ord : (out.toList.map kk).Pairwise lexB := by
    rw [List.pairwise_iff_getElem]
    intro i j hi hj hij
    rw [List.length_map] at hi hj
    rw [List.getElem_map, List.getElem_map]
    have ne : kk out.toList[i] ≠ kk out.toList[j] := by
      have := List.pairwise_iff_getElem.mp ndy i j (by rw [List.length_map]; exact hi) (by rw [List.length_map]; exact hj) hij
      rwa [List.getElem_map, List.getElem_map] at this
    have at_ : ∀ (j : Nat) (hj : j < out.toList.length), ∃ k, kk out.toList[j] = k ∧ KK (G.tupKindC h2 sh0) (arrOf st') j = k.map Sum.inl := fun j hj => by
      obtain ⟨b, k, e, _, hb⟩ := inO _ (List.getElem_mem hj)
      have e1 : (arrOf st')[j]?.map (·.2) = some (.ref b) := by
        rw [← e, ← Array.getElem?_map, hout, ← Array.getElem?_toList, List.getElem?_eq_getElem hj]
      cases e2 : (arrOf st')[j]? with
      | none => rw [e2] at e1; cases e1
      | some p =>
        rw [e2] at e1
        have e3 : p.2 = .ref b := Option.some.inj e1
        have hm : p ∈ (bs.map Value.ref).zip (bs.map Value.ref) := pl.mem_iff.mp (Array.mem_toList_iff.mpr (Array.mem_of_getElem? e2))
        obtain ⟨e4, _⟩ := mem_zip_self hm
        refine ⟨k, by rw [e]; exact kkb b k hb, ?_⟩
        unfold KK
        rw [e2]
        show (G.tupKeyC h2 sh0 p.1).getD [] = _
        rw [e4, e3, kf b k hb]
        rfl
    obtain ⟨k1, f1, g1⟩ := at_ i hi
    obtain ⟨k2, f2, g2⟩ := at_ j hj
    have sz : (pairsOf (bs.map Value.ref)).size = out.toList.length := by rw [pairsOf_size, pout.length_eq]
    have le := a2 i j (Nat.le_of_lt hij) (by rw [sz]; exact hj)
    rw [g1, g2] at le
    rw [f1, f2] at ne ⊢
    cases c : lexLt itemOrd (k1.map Sum.inl) (k2.map Sum.inl) with
    | true => exact c
    | false =>
      have le' : lexLt itemOrd (k2.map Sum.inl) (k1.map Sum.inl) = false := le
      have := lex_total (O := itemOrd) _ _ c le'
      exact absurd (by rw [← unl_inl k1, ← unl_inl k2]; exact congrArg unl this) ne
  have pxs : Paired (TupI H) (out.toList.map bk) (out.toList.map kk) := by
    have go : ∀ l : List Value, (∀ v ∈ l, ∃ b k, v = .ref b ∧ k ∈ ks ∧ H b = some (.tup (k.map V.int))) → Paired (TupI H) (l.map bk) (l.map kk) := by
      intro l
      induction l with
      | nil => intro _; exact .nil
      | cons v l ih =>
        intro hl
        obtain ⟨b, k, rfl, _, hb⟩ := hl v (List.mem_cons_self ..)
        refine .cons ⟨b, rfl, ?_⟩ (ih fun x hx => hl x (List.mem_cons_of_mem _ hx))
        rw [kkb b k hb]
        exact hb
    exact go _ inO
  have rv : Vals (out.toList.map bk) out.toList := bk_vals fun v hv => by
    obtain ⟨b, _, e, _⟩ := inO v hv
    exact ⟨b, e⟩
  have hlen : (out.toList.map bk).length ≤ sizeLine := by
    rw [List.length_map, pout.length_eq, List.length_map]
    omega
  refine wpAny_pure ⟨_, rfl, .ref h'.objs.size, upd H h'.objs.size (.lst (out.toList.map bk)), I1.laid (t' := tk) (fun b u e => ?_) (Nat.le_refl _)
    (show ObjOk X.prog X.w _ _ _ (.lst (out.toList.map bk)) from ⟨hlen, out.toList, e', rv, by rw [Array.toArray_toList]; exact he'⟩), rfl, q _ _ _ py ord (I1.hok.fresh (Nat.le_refl _)) pxs⟩
  have hb : b < h'.objs.size := Heap.lt_size e
  show (sortedHeap h2 h'.objs.size (bs.map Value.ref) out).get? b = some u
  rw [← hh2, PyProof.Rows.sortedHeap_old (Nat.ne_of_lt hb) (by rw [size_push']; exact Nat.lt_succ_of_lt hb)]
  exact Heap.get?_push_of_some _ e
end K11

set_option Elab.async false
set_option linter.all false
set_option maxRecDepth 100000
set_option maxHeartbeats 2000000
/-! Comprehensions that make such a dict. -/
namespace K11
open PySem PySem.Spec PyProof.Rows L2
section
variable {X : Cx}
/-- the entry k: z, k a tuple of ints and texts -/
theorem put_key {pins : List (Addr × Obj)} {σ : L2.St} {H : Hp} {s : Shared} {E : Value → Shared → Prop} {D b : Addr} {kvs : List (List Key × V)} {k : List Key} {v : V} {u r : Value} {Q : Unit → Shared → Prop} (hu : X.A.units < cLine) (I : Inv X pins σ H s) (hD : H D = some (.dT kvs))
    (hb : H b = some (.tup (k.map kV))) (hz : kvs.length < sizeLine) (ry : RelV (.ref b) u) (rv : RelV v r) (q : ∀ s', Inv X pins σ (upd H D (.dT (putK kvs k v))) s' → Q () s') : wpAny (model X.prog X.w) X.A (dictSet D u r) Q E s := by
  cases (show u = Value.ref b from ry)
  obtain ⟨z, nd, xs, rel, dd⟩ := dt_of I.hok hD
  have lx : xs.length ≤ sizeLine := by rw [← Paired.length rel]; exact z
  have lp : (putK kvs k v).length ≤ sizeLine := by have := length_putK kvs k v; omega
  refine wpAny_dictSet_heap (hsz := lx) (knd := tupleKind (mixKind X.prog X.w)) hu (key_of I.hok hb) dd fun h' new sb => q _ ?_
  obtain ⟨o, es, ep, g1, g2, g3, g4, _, g5⟩ := new
  refine d_write I (by rw [hD]; trivial) sb ⟨o, g1⟩ ⟨lp, nd, _, (rel.put k hb rv).keeps fun c ys ec => ?_, o, es, ep, g1, g2, g3, g4, g5⟩
  rw [upd_ne (ne_of ec hD (fun z => nomatch z))]
  exact ec
/-- {k: v for target in iter if ..}, the keys tuples; D the new dict -/
def tDcT (wi : TI) (g : TG) (tt : TT) (tk tv : TE) (vs : List Nat) : TE := fun σ H Q => wi σ H fun J H1 => ∀ D, H1 D = none → ∃ W : Nat → Nat → Hp → Prop, (∃ m, W 0 m (upd H1 D (.dT []))) ∧ ∀ i m H, W i m H →
  (J.stop i H ∧ Q (.ref D) H) ∨ (J.go i H ∧ ∃ Nx : Hp → Prop, (∀ H', Nx H' → ∃ m', m' < m ∧ W (i + 1) m' H') ∧ ∀ x H', J.yld i H x H' → g x (wipe σ vs) H' fun σ2 H2 => wipe σ2 vs = wipe σ vs ∧ tt σ2 H2 fun b H3 =>
    if b = true then tk σ2 H3 fun y H4 => tv σ2 H4 fun z H5 => ∃ kvs k q, y = .ref q ∧ H5 q = some (.tup (k.map kV)) ∧ H5 D = some (.dT kvs) ∧ kvs.length < sizeLine ∧ Nx (upd H5 D (.dT (putK kvs k z))) else Nx H3)
theorem pe_dcT {kx vx tg iter : Expr} {ifs : List Expr} {scope : Scope} {own : List (Str × Nat)} {pos : Pos} {wi : TI} {g : TG} {tt : TT} {tk tv : TE} (hu : X.A.units + 64 < cLine) (hc : X.calm = true) (hN : X.N.Nodup) (hi : PI X tg iter wi) (ok : BlkOk X.N X.env.scope scope own)
    (hg : ∀ (s : Shared) (H : Hp) (C : Addr) (cl : List (Str × Addr)) (fp : List Addr), PG (X.blk s H scope (compEnvC scope cl C X.env) fp) tg g)
    (ht : ∀ (s : Shared) (H : Hp) (C : Addr) (cl : List (Str × Addr)) (fp : List Addr), PTs (X.blk s H scope (compEnvC scope cl C X.env) fp) ifs tt)
    (hk : ∀ (s : Shared) (H : Hp) (C : Addr) (cl : List (Str × Addr)) (fp : List Addr), PE (X.blk s H scope (compEnvC scope cl C X.env) fp) kx tk)
    (hv : ∀ (s : Shared) (H : Hp) (C : Addr) (cl : List (Str × Addr)) (fp : List Addr), PE (X.blk s H scope (compEnvC scope cl C X.env) fp) vx tv)
    (hs : ∀ x, foldedSetIterable iter X.env x = pure x := by intro _; rfl) : PE X (.DictComp kx vx [⟨tg, iter, ifs, 0⟩] scope pos) (tDcT wi g tt tk tv (own.map (·.2))) := by
  refine ⟨fun pins s σ H Q I read => ?_⟩
  rw [arm_eval_DictComp]
  have seen : ∀ y ∈ scope.names, y.2 = .free → ∃ c, X.env.cells.lookup y.1 = some c := fun y hy e => (ok.free y hy e).elim (fun z => I.ok.has _ (.inl z)) fun z => I.ok.has _ (.inr z)
  refine wpAny_comprehension_free (use := none) rfl hs (closure_ok seen) ok.kind (fun y hy e => by rw [ok.uniq y hy, e]) (thn (hi.run pins s σ H _ I read) fun xv sA iterd => thn iterd fun itv sB walk => ?_)
  obtain ⟨it, fp, tn, J, HB, rfl, IB, T, stB, fB, q⟩ := walk
  refine wpAny_newObj_type (newEnv_comp ?_)
  generalize hD : sB.heap.objs.size = D
  have noD : HB D = none := IB.hok.fresh (Nat.le_of_eq hD)
  obtain ⟨W, ⟨m0, w0⟩, turn⟩ := q D noD
  generalize hsC : ({ sB with heap := sB.heap.push { cls := .type "dict", data := .dict #[] } } : Shared) = sC
  have heapC : sC.heap = sB.heap.push { cls := .type "dict", data := .dict #[] } := by rw [← hsC]
  have IC : Inv X pins σ (upd HB D (.dT [])) sC := by
    rw [← hsC]
    refine IB.laid (t' := sB.toks) (fun b o e => Heap.get?_push_of_some _ e) (Nat.le_of_eq hD) ?_
    rw [← hD]
    exact dt_empty sB.heap IB.big
  have fC : ∀ b ∈ fp, FpOk X pins (upd HB D (.dT [])) b ∧ b < sC.heap.objs.size := fun b hb => by
    obtain ⟨o, e, _⟩ := T.obj _ _ stB b hb
    have lt := Heap.lt_size e
    obtain ⟨n1, n2⟩ := fB b hb
    exact ⟨⟨by rw [upd_ne (by rw [← hD]; exact Nat.ne_of_lt lt)]; exact n1, n2⟩, by rw [heapC, Heap.size_push]; exact Nat.lt_succ_of_lt lt⟩
  have stC : tn 0 sC.heap := T.keep _ _ _ stB fun b _ o e => by rw [heapC]; exact Heap.get?_push_of_some _ e
  have ID := block_start IC ok hN fC
  have pg := hg sC (upd HB D (.dT [])) sC.heap.objs.size (cellsFrom (sC.heap.objs.size + 1) scope.names (cloFrom X.env.cells scope.names [])) fp
  have pt := ht sC (upd HB D (.dT [])) sC.heap.objs.size (cellsFrom (sC.heap.objs.size + 1) scope.names (cloFrom X.env.cells scope.names [])) fp
  have pk := hk sC (upd HB D (.dT [])) sC.heap.objs.size (cellsFrom (sC.heap.objs.size + 1) scope.names (cloFrom X.env.cells scope.names [])) fp
  have pv := hv sC (upd HB D (.dT [])) sC.heap.objs.size (cellsFrom (sC.heap.objs.size + 1) scope.names (cloFrom X.env.cells scope.names [])) fp
  generalize hQf : EP X pins σ Q = Qf
  show codeAny _ _ (.compStart (.DictComp kx vx [⟨tg, iter, ifs, 0⟩] scope pos) 0 (.ref it) (.ref D) (compEnvC scope (cellsFrom (sC.heap.objs.size + 1) scope.names (cloFrom X.env.cells scope.names [])) sC.heap.objs.size X.env)) (compPost (model X.prog X.w) X.A X.xe none Qf (.ref D) sC.heap.objs.size) { sC with heap := pushCells (sC.heap.push { cls := .type "dict", data := .dict #[] }) scope.names }
  have none0 : ∀ b ∈ fp, (upd HB D (.dT [])) b = none := fun b hb => (fC b hb).1.1
  generalize hce : compEnvC scope (cellsFrom (sC.heap.objs.size + 1) scope.names (cloFrom X.env.cells scope.names [])) sC.heap.objs.size X.env = ce at ID pg pt pk pv ⊢
  have loc : ce.locals = sC.heap.objs.size := by subst hce; rfl
  generalize upd HB D (.dT []) = HC at IC ID pg pt pk pv w0 none0 fC
  generalize hsD : ({ sC with heap := pushCells (sC.heap.push { cls := .type "dict", data := .dict #[] }) scope.names } : Shared) = sD at ID ⊢
  have stD : tn 0 sD.heap := T.keep _ _ _ stC fun b _ o e => by rw [← hsD]; exact pushCells_keeps _ _ _ _ (Heap.get?_push_of_some _ e)
  have foot : ∀ {τ : L2.St} {G : Hp} {t : Shared}, Inv (X.blk sC HC scope ce fp) [] τ G t → (∀ b ∈ fp, G b = none) → ∀ b ∈ fp, FpOk (X.blk sC HC scope ce fp) [] G b := fun {τ G t} J' hn b hb =>
    ⟨hn b hb, (J'.ok.exf b hb).1, J'.ok.exfs b hb, .inl hb, fun x c e => (J'.ok.exf b hb).2 x c e, fun p hp => absurd (show p ∈ ([] : List (Addr × Obj)) ++ [] from hp) (by simp)⟩
  have loop : codeAny (model X.prog X.w) X.A (.compLoop (.DictComp kx vx [⟨tg, iter, ifs, 0⟩] scope pos) 0 (.ref it) (.ref D) ce) (compPost (model X.prog X.w) X.A X.xe none Qf (.ref D) sC.heap.objs.size) sD := by
    refine compLoop_anyD (fun n t => ∃ i G, Inv (X.blk sC HC scope ce fp) [] (wipe σ (own.map (·.2))) G t ∧ tn i t.heap ∧ (∀ b ∈ fp, G b = none) ∧ W i n G) ?_ m0 ⟨0, HC, ID, stD, none0, w0⟩
    rintro n t ⟨i, G, IG, stG, nG, wG⟩
    rcases turn i n G wG with ⟨stop, fin⟩ | ⟨go, Nx, less, step⟩
    · -- all walked: back to the def
      refine thnF (T.done (X.blk sC HC scope ce fp) rfl rfl rfl hc i [] t _ G (fun _ _ => False) IG (foot IG nG) stG stop) fun r t2 ⟨hr, J2⟩ => ?_
      subst hr
      have back : Inv X pins σ G t2 := IC.call' (ch := fp) J2.os J2.base J2.hok J2.bare fun b hb => let ⟨⟨_, a1, a2, a3, a4, a5⟩, _⟩ := fC b hb; ⟨a3, a1, a4, a5⟩
      have noL : G sC.heap.objs.size = none := by
        have z : G ce.locals = none := J2.free
        rwa [loc] at z
      obtain ⟨m, ns, _⟩ := J2.loc
      have ns : t2.heap.Ns ce.locals m := ns
      rw [loc] at ns
      refine ⟨m, ns, fun h2 sb => ?_⟩
      obtain ⟨a0, a1, a2, a3, a4, a5⟩ := IC.fpOk (Nat.le_refl _) noL
      rw [← hQf]
      exact ⟨.ref D, G, back.turned (t' := t2.toks) (fun b o hb e => (sb.2 b hb).trans e) a0 a1 a3 a4 a5, rfl, fin⟩
    · refine thnF (T.item (X.blk sC HC scope ce fp) rfl rfl rfl hc i [] t _ G (fun _ _ => False) IG (foot IG nG) stG go) fun r t2 ⟨u, hr, more⟩ => ?_
      subst hr
      refine thnF more fun _ t3 ⟨x, G3, I3, r3, y3, st3, n3⟩ => ?_
      refine thnF (pg.run _ t3 _ G3 x u _ (I3.pinned (foot I3 n3) (T.obj _ _ st3)) r3 (step x G3 y3)) fun _ t4 ⟨τ, G4, I4, same, q4⟩ => ?_
      refine thnF (pt.run _ t4 τ G4 _ I4 q4) fun b t5 ⟨G5, I5, q5⟩ => ?_
      have next : ∀ {t' : Shared} {G' : Hp}, Inv (X.blk sC HC scope ce fp) ([] ++ pinsAt fp t3.heap) τ G' t' → Nx G' → ∃ m, m < n ∧ ∃ i G, Inv (X.blk sC HC scope ce fp) [] (wipe σ (own.map (·.2))) G t' ∧ tn i t'.heap ∧ (∀ b ∈ fp, G b = none) ∧ W i m G := fun {t' G'} I' nx => by
        obtain ⟨m', hm, w'⟩ := less G' nx
        have held : ∀ b ∈ fp, ∀ o, t3.heap.get? b = some o → t'.heap.get? b = some o ∧ G' b = none := fun b hb o e =>
          let z := I'.pin (b, o) (List.mem_append_right _ (List.mem_append_right _ (mem_pinsAt hb e)))
          ⟨z.1, z.2.1⟩
        refine ⟨m', hm, i + 1, G', (I'.unpinned (pins := [])).weak (by rw [← same, wipe_length]) (fun j v e => ?_), T.keep _ _ _ st3 fun b hb o e => (held b hb o e).1, fun b hb => ?_, w'⟩
        · rw [← same] at e
          exact (wipe_some e).1
        · obtain ⟨o, e, _⟩ := T.obj _ _ st3 b hb
          exact (held b hb o e).2
      cases b with
      | false =>
        rw [if_neg Bool.false_ne_true] at q5 ⊢
        exact next I5 q5
      | true =>
        rw [if_pos rfl] at q5 ⊢
        refine thnF (pk.run _ t5 τ G5 _ I5 q5) fun ku t6 ⟨kv, G6, I6, r6, q6⟩ => ?_
        refine thnF (pv.run _ t6 τ G6 _ I6 q6) fun vu t7 ⟨vv, G7, I7, r7, kvs, k, p, ek, hp, hD7, lk, nx⟩ => ?_
        subst ek
        exact put_key (X := X.blk sC HC scope ce fp) (show X.A.units < cLine by omega) I7 hD7 hp lk r6 r7 fun t8 I8 => next I8 nx
  exact codeAny_compStart_dict loop (T.self X.A 0 _ _ _ stD loop)
/-- over a list that stays -/
theorem dcT_list {K : PySem.W.Frag} {a : Addr} {xs : List V} {g : TG} {tt : TT} {tk tv : TE} {vs : List Nat} {σ : L2.St} {H1 : Hp} {D : Addr} {Qd : Hp → Prop} (Pv : Nat → Hp → Prop) (h0 : Pv 0 (upd H1 D (.dT []))) (hl : ∀ i H, i ≤ xs.length → Pv i H → SqL K H a xs)
    (hs : ∀ i x H, xs[i]? = some x → Pv i H → g x (wipe σ vs) H fun σ2 H2 => wipe σ2 vs = wipe σ vs ∧ tt σ2 H2 fun b H3 =>
      if b = true then tk σ2 H3 fun y H4 => tv σ2 H4 fun z H5 => ∃ kvs k q, y = .ref q ∧ H5 q = some (.tup (k.map kV)) ∧ H5 D = some (.dT kvs) ∧ kvs.length < sizeLine ∧ Pv (i + 1) (upd H5 D (.dT (putK kvs k z))) else Pv (i + 1) H3) (hd : ∀ H, Pv xs.length H → Qd H) :
    ∃ W : Nat → Nat → Hp → Prop, (∃ m, W 0 m (upd H1 D (.dT []))) ∧ ∀ i m H, W i m H →
      ((Itl K a).stop i H ∧ Qd H) ∨ ((Itl K a).go i H ∧ ∃ Nx : Hp → Prop, (∀ H', Nx H' → ∃ m', m' < m ∧ W (i + 1) m' H') ∧ ∀ x H', (Itl K a).yld i H x H' → g x (wipe σ vs) H' fun σ2 H2 => wipe σ2 vs = wipe σ vs ∧ tt σ2 H2 fun b H3 =>
        if b = true then tk σ2 H3 fun y H4 => tv σ2 H4 fun z H5 => ∃ kvs k q, y = .ref q ∧ H5 q = some (.tup (k.map kV)) ∧ H5 D = some (.dT kvs) ∧ kvs.length < sizeLine ∧ Nx (upd H5 D (.dT (putK kvs k z))) else Nx H3) := by
  refine ⟨fun i m H => m = xs.length - i ∧ i ≤ xs.length ∧ Pv i H, ⟨xs.length, by simp, Nat.zero_le _, h0⟩, ?_⟩
  rintro i m H ⟨rfl, hi, p⟩
  have q := hl i H hi p
  by_cases lt : i < xs.length
  · refine .inr ⟨walk_list.goes i H lt q, Pv (i + 1), fun H' p' => ⟨_, by omega, rfl, lt, p'⟩, fun x H' y => ?_⟩
    obtain ⟨e, y2⟩ := walk_list.yields i H x H' lt q y
    subst e
    exact hs i x _ y2 p
  · obtain rfl : i = xs.length := by omega
    exact .inl ⟨walk_list.stops H q, hd H p⟩
end
end K11

set_option Elab.async false
set_option linter.all false
set_option maxRecDepth 100000
set_option maxHeartbeats 1000000
/-! Ends in plain terms. -/
namespace K11
open PySem PySem.Spec PyProof.Rows L2
/-- the table of ends behind the first i of what was met -/
structure EInv (M : Met) (i : Nat) (es : Es) : Prop where
  from_ : ∀ p ∈ es, ∃ q ∈ M, q.1.1 = p.1 ∧ q.2 = p.2
  all : ∀ (j : Nat) q, j < i → M[j]? = some q → ∃ e, (q.1.1, e) ∈ es ∧ e.length ≤ q.2.length
  nd : (es.map (·.1)).Nodup
  len : es.length ≤ i
theorem EInv.zero (M : Met) : EInv M 0 [] := ⟨fun p hp => by simp at hp, fun j q hj => absurd hj (Nat.not_lt_zero _), by simp, Nat.le_refl _⟩
theorem EInv.keep {M : Met} {i : Nat} {es : Es} {q : Sta × List Int} {e : List Int} (h : EInv M i es) (hq : M[i]? = some q) (he : (q.1.1, e) ∈ es) (hl : e.length ≤ q.2.length) : EInv M (i + 1) es :=
  ⟨h.from_, fun j r hj hr => by
    by_cases hji : j < i
    · exact h.all j r hji hr
    · obtain rfl : j = i := by omega
      rw [hq] at hr
      cases hr
      exact ⟨e, he, hl⟩, h.nd, Nat.le_succ_of_le h.len⟩
theorem EInv.put {M : Met} {i : Nat} {es : Es} {q : Sta × List Int} (h : EInv M i es) (hq : M[i]? = some q) (ho : ∀ e, getE es q.1.1 = some e → q.2.length ≤ e.length) : EInv M (i + 1) (putE es q.1.1 q.2) :=
  ⟨fun p hp => by
    rcases putE_mem hp with z | z
    · rw [z]
      exact ⟨q, List.mem_of_getElem? hq, rfl, rfl⟩
    · exact h.from_ p z, fun j r hj hr => by
    by_cases hji : j < i
    · obtain ⟨e, he, hl⟩ := h.all j r hji hr
      by_cases ek : r.1.1 = q.1.1
      · have := ho e (getE_at h.nd (by rw [← ek]; exact he))
        exact ⟨q.2, by rw [ek]; exact putE_self _ _ _, by omega⟩
      · exact ⟨e, putE_other he ek, hl⟩
    · obtain rfl : j = i := by omega
      rw [hq] at hr
      cases hr
      exact ⟨q.2, putE_self _ _ _, Nat.le_refl _⟩, putE_nd h.nd, by
    have := putE_len q.1.1 q.2 es
    have := h.len
    omega⟩
theorem EInv.ends {W : Wk} {s : Sta} {M : Met} {es : Es} (m : MetOk W s M) (h : EInv M M.length es) : EndsOk W s es where
  run := fun p hp => by
    obtain ⟨q, hq, e1, e2⟩ := h.from_ p hp
    exact ⟨q.1, by rw [← e2]; exact m.run q hq, e1⟩
  all := fun ds t ht => by
    obtain ⟨e, he, hl⟩ := m.all ds t ht
    obtain ⟨j, hj⟩ := List.mem_iff_getElem?.mp he
    obtain ⟨e2, h2, hl2⟩ := h.all j _ (List.getElem?_eq_some_iff.mp hj).1 hj
    exact ⟨e2, h2, Nat.le_trans hl2 hl⟩
  nd := h.nd
  short := fun p hp => by
    obtain ⟨q, hq, _, e2⟩ := h.from_ p hp
    rw [← e2]
    exact m.short q hq
theorem EndsOk.perm {W : Wk} {s : Sta} {a b : Es} (h : EndsOk W s a) (p : b.Perm a) : EndsOk W s b where
  run := fun q hq => h.run q (p.mem_iff.mp hq)
  all := fun ds t ht => let ⟨e, he, hl⟩ := h.all ds t ht; ⟨e, p.mem_iff.mpr he, hl⟩
  nd := (p.map (·.1)).nodup_iff.mpr h.nd
  short := fun q hq => h.short q (p.mem_iff.mp hq)
/-- the table in the order ys of its keys -/
def byKeys (es : Es) (ys : List (List Int)) : Es := ys.map fun k => (k, (getE es k).getD [])
theorem byKeys_fst (es : Es) (ys : List (List Int)) : (byKeys es ys).map (·.1) = ys := by
  unfold byKeys
  rw [List.map_map]
  exact List.map_id _
theorem byKeys_perm {es : Es} {ys : List (List Int)} (nd : (es.map (·.1)).Nodup) (p : ys.Perm (es.map (·.1))) : (byKeys es ys).Perm es := by
  have e : byKeys es (es.map (·.1)) = es := by
    unfold byKeys
    rw [List.map_map]
    conv => rhs; rw [← List.map_id es]
    refine List.map_congr_left fun q hq => ?_
    show (q.1, (getE es q.1).getD []) = q
    rw [getE_at nd (show (q.1, q.2) ∈ es from hq)]
    rfl
  have q : (byKeys es ys).Perm (byKeys es (es.map (·.1))) := p.map fun k => (k, (getE es k).getD [])
  rwa [e] at q
/-! ### the order of the keys and the order of heaps -/
theorem lexB_cons {x y : Int} {a b : List Int} : lexB (x :: a) (y :: b) ↔ x < y ∨ (x = y ∧ lexB a b) := by
  unfold lexB
  rw [List.map_cons, List.map_cons, lex_true]
  constructor
  · rintro (h | ⟨h1, h2⟩)
    · exact .inl (of_decide_eq_true h)
    · by_cases e : x < y
      · exact .inl e
      · have : ¬ y < x := of_decide_eq_false h1 
        exact .inr ⟨by omega, h2⟩
  · rintro (h | ⟨rfl, h2⟩)
    · exact .inl (decide_eq_true h)
    · exact .inr ⟨decide_eq_false (Int.lt_irrefl _), h2⟩
theorem lexB_irr (a : List Int) : ¬ lexB a a := fun h => by
  unfold lexB at h
  rw [lex_irrefl] at h
  cases h
theorem lexB_trans {a b c : List Int} (h1 : lexB a b) (h2 : lexB b c) : lexB a c := lex_trans _ _ _ h1 h2
theorem leL_cons {x y : Int} {a b : List Int} : leL (x :: a) (y :: b) = true ↔ x ≤ y ∧ leL a b = true := by
  unfold leL
  rw [List.zipWith_cons_cons, List.all_cons, Bool.and_eq_true]
  exact ⟨fun h => ⟨of_decide_eq_true h.1, h.2⟩, fun h => ⟨decide_eq_true h.1, h.2⟩⟩
theorem leL_refl : ∀ a : List Int, leL a a = true
  | [] => rfl
  | x :: a => leL_cons.mpr ⟨Int.le_refl _, leL_refl a⟩
theorem le_lex : ∀ {a b : List Int}, a.length = b.length → leL a b = true → a = b ∨ lexB a b
  | [], [], _, _ => .inl rfl
  | [], _ :: _, h, _ => by simp at h
  | _ :: _, [], h, _ => by simp at h
  | x :: a, y :: b, h, l => by
    obtain ⟨l1, l2⟩ := leL_cons.mp l
    by_cases e : x < y
    · exact .inr (lexB_cons.mpr (.inl e))
    · have exy : x = y := by omega
      rcases le_lex (by simpa using h) l2 with z | z
      · exact .inl (by rw [exy, z])
      · exact .inr (lexB_cons.mpr (.inr ⟨exy, z⟩))
/-- low ends: each an end, one below each end, none below another -/
structure LowOk (W : Wk) (s : Sta) (lows : List (List Int)) : Prop where
  run : ∀ l ∈ lows, ∃ ds t, runD W s ds = some t ∧ t.1 = l
  all : ∀ ds t, runD W s ds = some t → ∃ l ∈ lows, leL l t.1 = true
  apart : ∀ a ∈ lows, ∀ b ∈ lows, leL a b = true → a = b
structure LInv (ks : List (List Int)) (i : Nat) (F : List (List Int)) : Prop where
  sub : ∀ f ∈ F, ∃ j, j < i ∧ ks[j]? = some f
  all : ∀ (j : Nat) k, j < i → ks[j]? = some k → ∃ f ∈ F, leL f k = true
  apart : ∀ a ∈ F, ∀ b ∈ F, leL a b = true → a = b
  len : F.length ≤ i
theorem LInv.keep {ks : List (List Int)} {i : Nat} {F : List (List Int)} {k f : List Int} (h : LInv ks i F) (hk : ks[i]? = some k) (hf : f ∈ F) (hl : leL f k = true) : LInv ks (i + 1) F :=
  ⟨fun g hg => let ⟨j, h1, h2⟩ := h.sub g hg; ⟨j, Nat.lt_succ_of_lt h1, h2⟩, fun j r hj hr => by
    by_cases hji : j < i
    · exact h.all j r hji hr
    · obtain rfl : j = i := by omega
      rw [hk] at hr
      cases hr
      exact ⟨f, hf, hl⟩, h.apart, Nat.le_succ_of_le h.len⟩
theorem LInv.snoc {ks : List (List Int)} {i n : Nat} {F : List (List Int)} {k : List Int} (h : LInv ks i F) (hk : ks[i]? = some k) (hlen : ∀ a ∈ ks, a.length = n) (ord : ks.Pairwise lexB) (no : ∀ f ∈ F, leL f k = false) : LInv ks (i + 1) (F ++ [k]) := by
  refine ⟨fun g hg => ?_, fun j r hj hr => ?_, fun a ha b hb hl => ?_, by rw [List.length_append, List.length_singleton]; have := h.len; omega⟩
  · rcases List.mem_append.mp hg with z | z
    · obtain ⟨j, h1, h2⟩ := h.sub g z
      exact ⟨j, Nat.lt_succ_of_lt h1, h2⟩
    · rw [List.mem_singleton.mp z]
      exact ⟨i, Nat.lt_succ_self _, hk⟩
  · by_cases hji : j < i
    · obtain ⟨f, hf, hl⟩ := h.all j r hji hr
      exact ⟨f, List.mem_append_left _ hf, hl⟩
    · obtain rfl : j = i := by omega
      rw [hk] at hr
      cases hr
      exact ⟨k, by simp, leL_refl k⟩
  · rcases List.mem_append.mp ha with za | za <;> rcases List.mem_append.mp hb with zb | zb
    · exact h.apart a za b zb hl
    · rw [List.mem_singleton.mp zb] at hl
      rw [no a za] at hl
      cases hl
    · rw [List.mem_singleton.mp za] at hl ⊢
      obtain ⟨j, hj, hbj⟩ := h.sub b zb
      obtain ⟨lj, ej⟩ := List.getElem?_eq_some_iff.mp hbj
      obtain ⟨li, ei⟩ := List.getElem?_eq_some_iff.mp hk
      have lt := List.pairwise_iff_getElem.mp ord j i lj li hj
      rw [ej, ei] at lt
      rcases le_lex (by rw [hlen k (List.mem_of_getElem? hk), hlen b (List.mem_of_getElem? hbj)]) hl with z | z
      · exact z
      · exact absurd (lexB_trans lt z) (lexB_irr b)
    · rw [List.mem_singleton.mp za, List.mem_singleton.mp zb]
theorem LInv.low {W : Wk} {s : Sta} {es : Es} {F : List (List Int)} (e : EndsOk W s es) (h : LInv (es.map (·.1)) es.length F) : LowOk W s F where
  run := fun l hl => by
    obtain ⟨j, _, hj⟩ := h.sub l hl
    obtain ⟨p, hp, rfl⟩ := List.mem_map.mp (List.mem_of_getElem? hj)
    obtain ⟨t, ht, e1⟩ := e.run p hp
    exact ⟨p.2, t, ht, e1⟩
  all := fun ds t ht => by
    obtain ⟨d, hd, _⟩ := e.all ds t ht
    obtain ⟨j, hj⟩ := List.mem_iff_getElem?.mp (List.mem_map.mpr ⟨_, hd, rfl⟩ : t.1 ∈ es.map (·.1))
    have lt := (List.getElem?_eq_some_iff.mp hj).1
    rw [List.length_map] at lt
    exact h.all j _ lt hj
  apart := h.apart
theorem EndsOk.key {W : Wk} {s : Sta} {es : Es} (w : WkOk W) (so : StOk W s) (e : EndsOk W s es) : ∀ k ∈ es.map (·.1), k.length = W.kinds.length := fun k hk => by
  obtain ⟨p, hp, rfl⟩ := List.mem_map.mp hk
  obtain ⟨t, ht, e1⟩ := e.run p hp
  rw [← e1]
  exact (so.run w ht).1
theorem EndsOk.few {W : Wk} {s : Sta} {es : Es} (e : EndsOk W s es) (sm : Small W s) : es.length ≤ 5000 := by
  obtain ⟨M, m, hM⟩ := sm
  have := nodup_sub_len (a := es.map (·.1)) (b := M.map fun q => q.1.1) e.nd fun k hk => by
    obtain ⟨p, hp, rfl⟩ := List.mem_map.mp hk
    obtain ⟨t, ht, e1⟩ := e.run p hp
    obtain ⟨d, hd, _⟩ := m.all _ _ ht
    exact List.mem_map.mpr ⟨_, hd, e1⟩
  rw [List.length_map, List.length_map] at this
  omega
end K11

set_option Elab.async false
set_option linter.all false
set_option maxRecDepth 100000
set_option maxHeartbeats 1000000
namespace K11
open PySem PySem.Spec PyProof.Rows L2
abbrev sends_of : Stmt := top 22
abbrev N_ends_of : List Str := ["works", "heaps", "crew", "found", "state", "deeds", "elder", "end"]
theorem sc_ends_of : FnScope N_ends_of ["works", "heaps", "crew"] (defScope sends_of) := ⟨rfl, rfl, rfl, by decide +kernel, rfl, by decide +kernel, by decide +kernel⟩
theorem st_ends_of (x0 x1 x2 : V) : L2.start N_ends_of [x0, x1, x2] = [some x0, some x1, some x2, none, none, none, none, none] := rfl
abbrev slow_ends : Stmt := top 23
abbrev N_low_ends : List Str := ["works", "heaps", "crew", "found", "end", "other"]
theorem sc_low_ends : FnScope N_low_ends ["works", "heaps", "crew"] (defScope slow_ends) := ⟨rfl, rfl, rfl, by decide +kernel, rfl, by decide +kernel, by decide +kernel⟩
theorem st_low_ends (x0 x1 x2 : V) : L2.start N_low_ends [x0, x1, x2] = [some x0, some x1, some x2, none, none, none] := rfl
/-- a call that may let an exception out -/
theorem pe_cE {X : Cx} {E : XK} {j k : Nat} {x : Str} {ps : List Str} {sp : Sp} {p pos : Pos} {e : Expr} {es : List Expr} {t : TA} (c : Cl X.prog X.w X.K X.mg X.base (L2.CX X.prog X.w) k x ps sp) (hr : Room j X.A) (hk : k ≤ j) (hg : Gl X x) (hx : Passes (L2.CX X.prog X.w) X E) (ha : PA X (e :: es) t)
    (hdb : (x == ("__debug__" : Str)) = false := by decide) (he : starEach (e :: es) X.env = (false, eval e X.env) :: starEach es X.env := by rfl) (hpl : (backTo pos (starEach es X.env)).any (·.1) = false := by rfl) :
    PE X (.Call (.Name x p) (e :: es) [] pos) (tCall sp [] E t) := by
  obtain ⟨f, fd, F, g, kp, b⟩ := c
  exact pe_call F (hr.mono hk) hg g kp b .nil hx ha hdb he hpl
section
variable {P : Program} {w : World} {K : PySem.W.Frag} {mg : Str → Option Value} {base : Heap} {f C : Addr} {fd : FuncData}
def spEnds (C : Addr) : Sp := fun vs H Q E => ∃ wv x y W, ∃ s : Sta, vs = [wv, x, y] ∧ WkAt H wv W ∧ TupI H x s.1 ∧ TupI H y s.2 ∧ WkOk W ∧ StOk W s ∧
  (∀ d es H', Small W s → EndsOk W s es → (es.map (·.1)).Pairwise lexB → Same H H' → H d = none → EsAt H' d es → Q (.ref d) H') ∧ (¬ Small W s → ∀ d H', Same H H' → E (.ref C) d H')
theorem room1 {A : Around} (h : A.units + 64 < cLine) : A.units + 1 < cLine := by omega
theorem byKeys_take {es : Es} {ys : List (List Int)} {i : Nat} {k d : List Int} (nd : ys.Nodup) (hk : ys[i]? = some k) (hd : getE es k = some d) : putE ((byKeys es ys).take i) k d = (byKeys es ys).take (i + 1) := by
  rw [putE_new fun p hp e => ?_, List.take_succ]
  · congr 1
    unfold byKeys
    rw [List.getElem?_map, hk]
    show _ = [(k, (getE es k).getD [])]
    rw [hd]
    rfl
  · obtain ⟨j, hj⟩ := List.mem_iff_getElem?.mp hp
    rw [List.getElem?_take] at hj
    by_cases hji : j < i
    · rw [if_pos hji] at hj
      have h1 : ys[j]? = some k := by
        have := congrArg (Option.map Prod.fst) hj
        rw [← List.getElem?_map, byKeys_fst] at this
        rw [this]
        exact congrArg some e
      obtain ⟨l1, e1⟩ := List.getElem?_eq_some_iff.mp h1
      obtain ⟨l2, e2⟩ := List.getElem?_eq_some_iff.mp hk
      exact absurd (e1.trans e2.symm) (List.pairwise_iff_getElem.mp nd j i l1 l2 hji)
    · rw [if_neg hji] at hj
      cases hj
theorem tp_dT {H : Hp} {d : Addr} {kvs : List (List Key × V)} {o : HO} (h : H d = some (.dT kvs)) : Tp H (upd H d o) := tp_mut h (fun _ z => nomatch z) (fun _ _ z => nomatch z)
theorem ok_ends_of (F : FnP K "ends_of" sends_of f fd) (B : Bt mg) (C_states_behind : Cl P w K mg base (L2.CX P w) 3 "states_behind" ["works", "heaps", "crew"] (spBehind P w C)) :
    FnOk P w K mg base (L2.CX P w) 4 f fd ["works", "heaps", "crew"] (spEnds C) := by
  refine F.ok sc_ends_of (fun vs H Q E h => ?_) (fun cdv A outer s H vs Q E hr h => ?_)
  · obtain ⟨wv, x, y, W, s, rfl, _⟩ := h
    rfl
  · obtain ⟨wv, x, y, W, st, rfl, hw, hx, hy, wk, so, k, kE⟩ := h
    have hu := hr.units
    have hu1 := room1 hu
    have big := line_big
    refine ⟨_, (pss_cons (ps_set (i := 3) sc_ends_of.nd rfl (Or.inr rfl) pe_dnewT)
      (pss_cons (ps_for (passes_of rfl) rfl (pi_metitems (pe_cE (E := E) C_states_behind hr (by decide) (by rfl) (passes_call (takes_of rfl rfl rfl rfl) (fun _ _ _ _ h => h)) (pa_cons (pv 0) (pa_cons (pv 1) (pa_cons (pv 2) pa_nil))))) (pg_tup rfl (pgs_cons (pg_name (i := 4) sc_ends_of.nd rfl (Or.inl rfl)) (pgs_cons (pg_name (i := 5) sc_ends_of.nd rfl (Or.inl rfl)) pgs_nil)))
        (pss_cons (ps_set (i := 6) sc_ends_of.nd rfl (Or.inl rfl) (pe_dget1 hu1 (pv 3) (pe_ix ix_tup (pv 4) pe_int (fun _ _ => rfl)) ⟨rfl, rfl, rfl, rfl⟩))
      (pss_one (ps_if (PW.pt (pw_or (pt_cmpR op_isN (pv 6) pe_non (nomark _)) (pw_or1 (pt_cmpR (op_ltN hr.units) (pe_tup (pa_cons (pe_callB call_len_seq (by rfl) B.len (by decide +kernel) (pa_cons (pv 5) pa_nil)) (pa_cons (pv 5) pa_nil))) (pe_tup (pa_cons (pe_callB call_len_seq (by rfl) B.len (by decide +kernel) (pa_cons (pv 6) pa_nil)) (pa_cons (pv 6) pa_nil))) (nomark _))))) (pss_one (ps_dput hu1 (pv 3) (pe_ix ix_tup (pv 4) pe_int (fun _ _ => rfl)) (pv 5) rfl)) pss_nil))))
      (pss_one (ps_ret (pe_dcT (own := [("end", 7)]) (g := (gName 7)) hu rfl sc_ends_of.nd (pi_list (pe_callB (cr_sortedTI rfl hr.units) (by rfl) B.sorted (by decide +kernel) (pa_cons (pv 3) pa_nil))) (blkOk_by (own := [("end", 7)]) (N := N_ends_of) (sc := (defScope sends_of)) (by decide +kernel)) (fun _ _ _ _ _ => (pg_name (i := 7) sc_ends_of.nd rfl (Or.inl rfl))) (fun _ _ _ _ _ => pts_nil) (fun _ _ _ _ _ => (pv 7)) (fun _ _ _ _ _ => (pe_dget hu1 (pv 3) (pv 7) (fun _ _ => rfl)))))))), ?_⟩
    rw [st_ends_of]
    dsimp only [cxOf]
    refine fun p hp => ⟨_, rfl, _, rfl, _, rfl, ?_⟩
    have A1 := same_new (o := .dT []) hp
    have p0 : upd H p (.dT []) p = some (.dT []) := upd_same
    refine ⟨wv, x, y, W, st, rfl, hw.tp (tp_same A1), hx.tp (tp_same A1), hy.tp (tp_same A1), wk, so, fun d M H2 mo ml sm2 hd hM => ?_, fun ns d H' sm' => kE ns d H' (A1.trans sm')⟩
    obtain ⟨ms, hdM, hms, ndM, _⟩ := hM
    refine ⟨d, ms, M, rfl, hdM, hms, fun od => ?_⟩
    have nd : H d = none := none_back A1 hd
    have A2 : Same H H2 := A1.trans sm2
    have A3 : Same H (upd H2 d (.frz od (MetO P w d ms))) := same_mut A2 nd
    have T3 : Tp H2 (upd H2 d (.frz od (MetO P w d ms))) := tp_met hdM
    have hms3 : Paired (MPair (upd H2 d (.frz od (MetO P w d ms)))) ms M := Paired.mapP hms fun _ _ q => q.tp T3
    have pd : p ≠ d := fun e => by
      rw [← e] at hd
      rw [upd_same] at hd
      cases hd
    have hp3 : upd H2 d (.frz od (MetO P w d ms)) p = some (.dT []) := by
      rw [upd_ne pd]
      exact sm2 _ _ p0
    have hd3 : upd H2 d (.frz od (MetO P w d ms)) d = some (.frz od (MetO P w d ms)) := upd_same
    generalize upd H2 d (.frz od (MetO P w d ms)) = H3 at A3 hms3 hp3 hd3
    have lms := paired_len hms
    clear hms T3 A2 sm2 hd hdM p0
    refine for_it (walk_met (P := P) (w := w) (d := d) (od := od) (ms := ms)) (fun i σ H' => ∃ o4 o5 o6 es, σ = [some wv, some x, some y, some (.ref p), o4, o5, o6, none] ∧ Same H H' ∧ H' d = some (.frz od (MetO P w d ms)) ∧ Paired (MPair H') ms M ∧ EsAt H' p es ∧ EInv M i es) ?_ ?_ ?_ ?_
    · exact ⟨_, _, _, [], rfl, A3, hd3, hms3, ⟨[], hp3, .nil⟩, EInv.zero M⟩
    · rintro i σ H' hi ⟨_, _, _, _, _, _, h, _⟩
      exact h
    · clear A3 hms3 hp3 hd3
      rintro i z σ H4 H5 hi ⟨o4, o5, o6, es, rfl, sm, hdd, hms, ⟨kvs, hpk, hes⟩, inv⟩ ⟨T, a, b, rfl, nT, rfl, ha, hb⟩
      have hmx : ms[i]? = some ms[i] := List.getElem?_eq_getElem hi
      generalize ms[i] = mx at hmx
      obtain ⟨q, hq, e1, hst, hds⟩ := paired_getL hms hmx
      dsimp only at ha hb
      rw [hmx] at ha hb
      cases ha
      cases hb
      obtain ⟨bs, u1, u2, ebs, hbs, ⟨au, rfl, hau⟩, hu2⟩ := hst
      cases ebs
      obtain ⟨ad, ead, had⟩ := hds
      cases ead
      have B1 := same_new (o := .tup [V.ref mx.2.1, V.ref mx.2.2]) nT
      have S1 := sm.trans B1
      refine ⟨T, _, rfl, SqT.of upd_same, rfl, _, _, rfl, _, _, rfl, rfl, ?_⟩
      refine ⟨_, rfl, p, rfl, .inr ⟨kvs, .inl (B1 _ _ hpk)⟩, _, rfl, mx.2.1, _, 0, _, rfl, rfl, SqT.of (B1 _ _ hbs), rfl, ?_⟩
      have key : upd H4 T (.tup [V.ref mx.2.1, V.ref mx.2.2]) au = some (.tup ((q.1.1.map Sum.inl : List Key).map kV)) := by
        rw [kV_inl]
        exact B1 _ _ hau
      refine ⟨valV kvs (q.1.1.map Sum.inl), .inr ⟨kvs, _, au, .inl (B1 _ _ hpk), rfl, key, rfl⟩, ?_⟩
      have hes1 : EsK (upd H4 T (.tup [V.ref mx.2.1, V.ref mx.2.2])) kvs es := EsK.tp hes (tp_same B1)
      have hp1 := B1 _ _ hpk
      have hd1 := B1 _ _ hdd
      have hb1 := B1 _ _ hbs
      have hms1 : Paired (MPair (upd H4 T (.tup [V.ref mx.2.1, V.ref mx.2.2]))) ms M := Paired.mapP hms fun _ _ r => r.tp (tp_same B1)
      have had1 := B1 _ _ had
      have hau1 := B1 _ _ hau
      generalize upd H4 T (.tup [V.ref mx.2.1, V.ref mx.2.2]) = H6 at hes1 hp1 hd1 hb1 hms1 had1 hau1 key S1
      have ln : es.length ≤ i := inv.len
      have lk := paired_len hes1
      have put : ∀ (D : Ends) (o6 : Option V) (H7 : Hp), Same H6 H7 → (∀ e, getE es q.1.1 = some e → q.2.length ≤ e.length) →
          (∀ H8 es', Same H H8 → H8 d = some (.frz od (MetO P w d ms)) → Paired (MPair H8) ms M → EsAt H8 p es' → EInv M (i + 1) es' → D.nx [some wv, some x, some y, some (.ref p), some (.ref mx.2.1), some (.ref mx.2.2), o6, none] H8) →
          sDPut (tVar 3) (tOp (rIxT K) (tVar 4) (tC (V.int 0))) (tVar 5) D [some wv, some x, some y, some (.ref p), some (.ref mx.2.1), some (.ref mx.2.2), o6, none] H7 := fun D o6 H7 sm7 ho kD => by
        refine ⟨_, rfl, _, rfl, _, rfl, mx.2.1, _, 0, _, rfl, rfl, SqT.of (sm7 _ _ hb1), rfl, p, _, rfl, DPut.t (sm7 _ _ hp1) (sm7 _ _ key) (by omega), ?_⟩
        have T8 := tp_dT (o := .dT (putK kvs (q.1.1.map Sum.inl) (V.ref mx.2.2))) (sm7 _ _ hp1)
        refine kD _ _ (same_mut (S1.trans sm7) hp) ?_ (Paired.mapP hms1 fun _ _ r => (r.tp (tp_same sm7)).tp T8) ⟨_, upd_same, EsK.tp (esK_put ⟨mx.2.2, rfl, sm7 _ _ had1⟩ (EsK.tp hes1 (tp_same sm7)) inv.nd) T8⟩ (inv.put hq ho)
        rw [upd_ne (Ne.symm pd)]
        exact sm7 _ _ hd1
      rcases esK_val (k := q.1.1) hes1 with ⟨g1, g2⟩ | ⟨e, v, g1, g2, ⟨ve, rfl, hve⟩⟩
      · rw [g2]
        dsimp only [Option.getD]
        refine ⟨_, rfl, rfl, _, rfl, put _ _ _ (Same.refl _) (fun e h => by rw [g1] at h; cases h) fun H8 es' a1 a2 a3 a4 a5 => ⟨_, _, _, es', rfl, a1, a2, a3, a4, a5⟩⟩
      · rw [g2]
        dsimp only [Option.getD]
        refine ⟨_, rfl, rfl, _, rfl, ?_⟩
        refine ⟨_, rfl, _, _, rfl, .inr (SqT.of had1), _, rfl, sz2, fun t1 ht1 => ⟨_, rfl, _, _, rfl, .inr (SqT.of (same_new ht1 _ _ hve)), _, rfl, sz2, fun t2 ht2 => ?_⟩⟩
        have C1 := same_new (o := .tup [V.int ((q.2.map V.int).length : Nat), V.ref mx.2.2]) ht1
        have C2 := same_new (o := .tup [V.int ((e.map V.int).length : Nat), V.ref ve]) ht2
        refine ⟨t1, t2, _, _, _, _, q.2, e, rfl, rfl, C2 _ _ upd_same, upd_same, ⟨_, rfl, C2 _ _ (C1 _ _ had1)⟩, ⟨_, rfl, C2 _ _ (C1 _ _ hve)⟩, fun r h1 h2 => ⟨r, rfl, ?_⟩⟩
        rw [List.length_map, List.length_map] at h1 h2
        cases r with
        | true =>
          refine put _ _ _ (C1.trans C2) (fun e' h => ?_) fun H8 es' a1 a2 a3 a4 a5 => ⟨_, _, _, es', rfl, a1, a2, a3, a4, a5⟩
          rw [g1] at h
          cases h
          by_cases hh : e.length < q.2.length
          · exact absurd (h2 (by omega)) (by decide)
          · omega
        | false =>
          have C := C1.trans C2
          refine ⟨_, _, _, es, rfl, S1.trans C, C _ _ hd1, Paired.mapP hms1 fun _ _ r => r.tp (tp_same C), ⟨kvs, C _ _ hp1, EsK.tp hes1 (tp_same C)⟩, inv.keep hq (getE_some g1) ?_⟩
          by_cases hh : q.2.length < e.length
          · exact absurd (h1 (by omega)) (by decide)
          · omega
    · clear A3 hms3 hp3 hd3
      rintro σ H4 ⟨o4, o5, o6, es, rfl, sm, hdd, hms, ⟨kvs, hpk, hes⟩, inv⟩
      rw [lms] at inv
      have en := inv.ends mo
      have le : es.length ≤ 5000 := Nat.le_trans inv.len ml
      refine ⟨_, rfl, p, kvs, es.map (·.1), rfl, .inl hpk, by rw [esK_keys hes, List.map_map]; rfl, by rw [List.length_map]; omega, fun k hk => ?_, en.nd, fun ys xs q py ord hq pys => ?_⟩
      · have lk := en.key wk so k hk
        have w1 := wk.1
        intro e
        rw [e, List.length_nil] at lk
        omega
      have ndy : ys.Nodup := py.nodup_iff.mpr en.nd
      have lys := paired_len pys
      have ly2 : ys.length = es.length := by rw [py.length_eq, List.length_map]
      refine ⟨q, rfl, ⟨_, SqL.of upd_same⟩, fun D hD => ?_⟩
      have B1 := same_new (o := .lst xs) hq
      have nD : H D = none := none_back (sm.trans B1) hD
      refine dcT_list (K := K) (a := q) (xs := xs) (Qd := fun H' => Q (.ref D) H') (fun i H' => Same (upd H4 q (.lst xs)) H' ∧ ∃ kvs', H' D = some (.dT kvs') ∧ EsK H' kvs' ((byKeys es ys).take i)) ⟨same_new hD, [], upd_same, .nil⟩ (fun i H' _ h => SqL.of (h.1 _ _ upd_same)) (fun i z H' hz h => ?_) (fun H' h => ?_)
      · obtain ⟨sm5, kvs', hD5, hes5⟩ := h
        obtain ⟨kk, hkk, b, rfl, hb⟩ := paired_getL pys hz
        have S5 := B1.trans sm5
        have hb5 := S5 _ _ hb
        have key : H' b = some (.tup ((kk.map Sum.inl : List Key).map kV)) := by
          rw [kV_inl]
          exact hb5
        refine ⟨wipe1 (by decide), ?_⟩
        dsimp only [tYes]
        rw [if_pos rfl]
        rcases esK_val (k := kk) hes with ⟨g1, g2⟩ | ⟨e, v, g1, g2, hv⟩
        · obtain ⟨pp, hpp, epp⟩ := List.mem_map.mp (py.mem_iff.mp (List.mem_of_getElem? hkk))
          exact absurd epp (getE_none g1 pp hpp)
        · refine ⟨_, rfl, _, rfl, _, rfl, p, v, rfl, .inr ⟨kvs, _, b, .inl (S5 _ _ hpk), rfl, key, g2.symm⟩, ?_⟩
          have l5 := paired_len hes5
          rw [List.length_take, show (byKeys es ys).length = ys.length by unfold byKeys; rw [List.length_map]] at l5
          refine ⟨kvs', kk.map Sum.inl, b, rfl, key, hD5, by omega, same_mut sm5 hD, _, upd_same, ?_⟩
          have T := tp_dT (o := .dT (putK kvs' (kk.map Sum.inl) v)) hD5
          rw [← byKeys_take ndy hkk g1]
          refine EsK.tp (esK_put (hv.tp (tp_same S5)) hes5 ?_) T
          rw [List.map_take, byKeys_fst]
          exact ndy.sublist (List.take_sublist _ _)
      · obtain ⟨sm5, kvs', hD5, hes5⟩ := h
        rw [List.take_of_length_le (by unfold byKeys; rw [List.length_map]; omega)] at hes5
        exact k D (byKeys es ys) H' ⟨M, mo, ml⟩ (en.perm (byKeys_perm en.nd py)) (by rw [byKeys_fst]; exact ord) ((sm.trans B1).trans sm5) nD ⟨kvs', hD5, hes5⟩
end
end K11

set_option Elab.async false
set_option linter.all false
set_option maxRecDepth 100000
set_option maxHeartbeats 1000000
namespace K11
open PySem PySem.Spec PyProof.Rows L2
section
variable {P : Program} {w : World} {K : PySem.W.Frag} {mg : Str → Option Value} {base : Heap} {f C : Addr} {fd : FuncData}
def spLow : Sp := fun vs H Q _ => ∃ wv x y W, ∃ s : Sta, vs = [wv, x, y] ∧ WkAt H wv W ∧ TupI H x s.1 ∧ TupI H y s.2 ∧ WkOk W ∧ StOk W s ∧ Small W s ∧
  ∀ a xs lows H', Same H H' → H a = none → H' a = some (.lst xs) → Paired (TupI H') xs lows → LowOk W s lows → lows.length ≤ 5000 → Q (.ref a) H'
theorem ok_low_ends (F : FnP K "low_ends" slow_ends f fd) (B : Bt mg) (C_ends_of : Cl P w K mg base (L2.CX P w) 4 "ends_of" ["works", "heaps", "crew"] (spEnds C)) (C_fits : Cl P w K mg base CX0 1 "fits" ["heaps", "rooms"] (sp2B leL)) :
    FnOk P w K mg base CX0 5 f fd ["works", "heaps", "crew"] spLow := by
  refine F.ok sc_low_ends (fun vs H Q E h => ?_) (fun cdv A outer s H vs Q E hr h => ?_)
  · obtain ⟨wv, x, y, W, s, rfl, _⟩ := h
    rfl
  · obtain ⟨wv, x, y, W, st, rfl, hw, hx, hy, wk, so, small, k⟩ := h
    have big := line_big
    refine ⟨_, PSs.nox (pss_cons (ps_set (i := 3) sc_low_ends.nd rfl (Or.inl rfl) (pe_lst pa_nil))
      (pss_cons (ps_for PassesOwn.never rfl (pi_keysL (pe_cX C_ends_of hr (by decide) (by rfl) (pa_cons (pv 0) (pa_cons (pv 1) (pa_cons (pv 2) pa_nil))))) (pg_name (i := 4) sc_low_ends.nd rfl (Or.inr rfl))
        (pss_one (ps_if (pt_not (pt_val (pe_callB (cr_any rfl) (by rfl) B.any_ (by decide +kernel) (pa_cons (pe_lcx (own := [("other", 5)]) (g := (gName 5)) rfl sc_low_ends.nd (pi_list (pv 3)) (blkOk_by (own := [("other", 5)]) (N := N_low_ends) (sc := (defScope slow_ends)) (by decide +kernel)) (fun _ _ _ _ _ => (pg_name (i := 5) sc_low_ends.nd rfl (Or.inl rfl))) (fun _ _ _ _ _ => pts_nil) (fun _ _ _ _ _ => (pe_c C_fits hr (by decide) (by rfl) (pa_cons (pv 5) (pa_cons (pv 4) pa_nil))))) pa_nil)))) (pss_one (ps_expr (pe_bm PySem.F.plainAttrs_list PySem.F.slot_list_append PySem.F.type_list_append mt_append (pv 3) (pa_cons (pv 4) pa_nil)))) pss_nil)))
      (pss_one (ps_ret (pv 3))))), ?_⟩
    rw [st_low_ends]
    refine ⟨Nat.zero_le _, fun l hl => ⟨_, rfl, _, rfl, _, rfl, ?_⟩⟩
    have A1 := same_new (o := .lst []) hl
    have l0 : upd H l (.lst []) l = some (.lst []) := upd_same
    refine ⟨wv, x, y, W, st, rfl, hw.tp (tp_same A1), hx.tp (tp_same A1), hy.tp (tp_same A1), wk, so, fun d es H2 _ en ord sm2 hd hE => ?_, fun ns => absurd small ns⟩
    obtain ⟨kvs, hdk, hes⟩ := hE
    refine ⟨d, kvs, rfl, hdk, fun od => ?_⟩
    have nd : H d = none := none_back A1 hd
    have A2 : Same H H2 := A1.trans sm2
    have A3 : Same H (upd H2 d (.frz od (.dT kvs))) := same_mut A2 nd
    have T3 : Tp H2 (upd H2 d (.frz od (.dT kvs))) := tp_dT hdk
    have hes3 : EsK (upd H2 d (.frz od (.dT kvs))) kvs es := EsK.tp hes T3
    have ld : l ≠ d := fun e => by
      rw [← e, upd_same] at hd
      cases hd
    have hl3 : upd H2 d (.frz od (.dT kvs)) l = some (.lst []) := by
      rw [upd_ne ld]
      exact sm2 _ _ l0
    have hd3 : upd H2 d (.frz od (.dT kvs)) d = some (.frz od (.dT kvs)) := upd_same
    generalize upd H2 d (.frz od (.dT kvs)) = H3 at A3 hes3 hl3 hd3
    have lk := paired_len hes
    have few := en.few small
    clear T3 A2 sm2 hd hdk l0 hes
    refine for_it (walk_keysT (d := d) (o := od) (kvs := kvs)) (fun i σ H' => ∃ o4 xs Fs, σ = [some wv, some x, some y, some (.ref l), o4, none] ∧ Same H H' ∧ H' d = some (.frz od (.dT kvs)) ∧ EsK H' kvs es ∧ H' l = some (.lst xs) ∧ Paired (TupI H') xs Fs ∧ LInv (es.map (·.1)) i Fs) ?_ ?_ ?_ ?_
    · exact ⟨_, [], [], rfl, A3, hd3, hes3, hl3, .nil, ⟨fun f h => by simp at h, fun j _ h => absurd h (Nat.not_lt_zero _), fun a h => by simp at h, Nat.le_refl _⟩⟩
    · rintro i σ H' hi ⟨_, _, _, _, _, h, _⟩
      exact h
    · clear A3 hes3 hl3 hd3
      rintro i z σ H4 H5 hi ⟨o4, xs, Fs, rfl, sm, hd4, hes, hl4, hxs, inv⟩ ⟨rfl, kk, v, b, hkv, rfl, hb⟩
      obtain ⟨q, hq, ek, _⟩ := paired_getL hes hkv
      have ek : kk = q.1.map Sum.inl := ek
      rw [ek, kV_inl] at hb
      have hks : (es.map (·.1))[i]? = some q.1 := by
        rw [List.getElem?_map, hq]
        rfl
      have lq := en.key wk so q.1 (List.mem_of_getElem? hks)
      have w8 := wk.2.1
      have lf := inv.len
      have lxs := paired_len hxs
      refine ⟨_, rfl, l, rfl, ⟨_, SqL.of hl4⟩, ?_⟩
      refine lcL (SqL.of hl4) (fun _ => true) (fun j y _ => ∀ f, Fs[j]? = some f → y = .bl (leL f q.1)) (fun _ _ _ _ _ h => h) (by omega) (by decide) (fun j x H' hx sm5 => elt_yes fun Q hQ => ?_) (fun D H6 ys hD sm6 e6 pr => ?_)
      · obtain ⟨f, hf, tf⟩ := paired_getL hxs hx
        have lf : f.length = W.kinds.length := by
          obtain ⟨j2, _, hj2⟩ := inv.sub f (List.mem_of_getElem? hf)
          exact en.key wk so f (List.mem_of_getElem? hj2)
        refine ⟨_, rfl, _, rfl, x, _, f, q.1, rfl, tf.tp (tp_same sm5), ⟨b, rfl, sm5 _ _ hb⟩, by omega, fun v H7 sm7 e7 => hQ _ _ sm7 fun f' hf' => ?_⟩
        rw [hf] at hf'
        cases hf'
        exact e7
      · rw [filter_true] at pr
        have ey : ys = (Fs.map fun f => leL f q.1).map V.bl := by
          have ly := paired_len pr
          rw [List.length_range] at ly
          apply List.ext_getElem?
          intro j
          by_cases hj : j < Fs.length
          · obtain ⟨y, hy, py⟩ := paired_getL pr (i := j) (x := j) (by rw [List.getElem?_range (by omega)])
            have hd : Fs[j]? = some Fs[j] := List.getElem?_eq_getElem hj
            rw [hy, py _ hd, List.getElem?_map, List.getElem?_map, hd]
            rfl
          · rw [List.getElem?_eq_none (by omega), List.getElem?_eq_none (by simp; omega)]
        refine ⟨D, _, rfl, SqL.of (by rw [e6, ey]), _, rfl, ?_⟩
        have S6 := sm.trans sm6
        have hl6 := sm6 _ _ hl4
        have hxs6 : Paired (TupI H6) xs Fs := Paired.mapP hxs fun _ _ r => r.tp (tp_same sm6)
        cases an : (Fs.map fun f => leL f q.1).any id with
        | true =>
          obtain ⟨_, h1, h2⟩ := List.any_eq_true.mp an
          obtain ⟨f, hf, rfl⟩ := List.mem_map.mp h1
          exact ⟨_, xs, Fs, rfl, S6, sm6 _ _ hd4, EsK.tp hes (tp_same sm6), hl6, hxs6, inv.keep hks hf h2⟩
        | false =>
          have no : ∀ f ∈ Fs, leL f q.1 = false := fun f hf => by
            have := List.any_eq_false.mp an (leL f q.1) (List.mem_map.mpr ⟨f, hf, rfl⟩)
            simpa using this
          refine ⟨_, rfl, .inl ⟨rfl, _, SqL.of hl6⟩, _, rfl, l, xs, .ref b, rfl, rfl, hl6, by omega, ?_⟩
          have T7 := tp_lst (o := .lst (xs ++ [V.ref b])) hl6
          refine ⟨_, xs ++ [.ref b], Fs ++ [q.1], rfl, same_mut S6 hl, ?_, EsK.tp (EsK.tp hes (tp_same sm6)) T7, upd_same, Paired.snoc (Paired.mapP hxs6 fun _ _ r => r.tp T7) ⟨b, rfl, T7.1 _ _ (sm6 _ _ hb)⟩, inv.snoc hks (en.key wk so) ord no⟩
          rw [upd_ne (Ne.symm ld)]
          exact sm6 _ _ hd4
    · rintro σ H4 ⟨o4, xs, Fs, rfl, sm, hd4, hes, hl4, hxs, inv⟩
      rw [lk] at inv
      exact ⟨_, rfl, k l xs Fs H4 sm hl hl4 hxs (inv.low en) (Nat.le_trans inv.len few)⟩
end
end K11

set_option Elab.async false
set_option linter.all false
set_option maxRecDepth 100000
set_option maxHeartbeats 1000000
namespace K11
open PySem PySem.Spec PyProof.Rows L2
abbrev s_law_told_ends : Stmt := top 58
abbrev N_l_told_ends : List Str := ["_law_works_here", "_law_heaps", "_law_crew", "_law_found"]
theorem sc_l_told_ends : FnScope N_l_told_ends ["_law_works_here", "_law_heaps", "_law_crew"] (defScope s_law_told_ends) := ⟨rfl, rfl, rfl, by decide +kernel, rfl, by decide +kernel, by decide +kernel⟩
theorem st_l_told_ends (x0 x1 x2 : V) : L2.start N_l_told_ends [x0, x1, x2] = [some x0, some x1, some x2, none] := rfl
section
variable {P : Program} {w : World} {K : PySem.W.Frag} {mg : Str → Option Value} {base : Heap} {f C : Addr} {fd : FuncData}
def spTold : Sp := fun vs H Q _ => ∃ wv x y W, ∃ s : Sta, vs = [wv, x, y] ∧ WkAt H wv W ∧ TupI H x s.1 ∧ TupI H y s.2 ∧ WkOk W ∧ StOk W s ∧ (∀ H', Same H H' → Q .non H') ∧
  ∀ t d a es xs lows H', Same H H' → H' t = some (.tup [.ref d, .ref a]) → EsAt H' d es → EndsOk W s es → es.length ≤ 600 → H' a = some (.lst xs) → Paired (TupI H') xs lows → LowOk W s lows → lows.length ≤ 5000 → Q (.ref t) H'
theorem takes_none {X : Cx} : Takes X fun _ _ _ _ => False := fun u s' x => by
  obtain ⟨_, _, _, _, _, _, _, _, _, _, _, _, _, _, _, _, h⟩ := x
  exact h.elim
theorem ok_ltold_ends (F : FnP K "_law_told_ends" s_law_told_ends f fd) (B : Bt mg) (tm : TmC P w K mg base C) (C_ends_of : Cl P w K mg base (L2.CX P w) 4 "ends_of" ["works", "heaps", "crew"] (spEnds C)) (C_low_ends : Cl P w K mg base CX0 5 "low_ends" ["works", "heaps", "crew"] spLow) :
    FnOk P w K mg base CX0 6 f fd ["_law_works_here", "_law_heaps", "_law_crew"] spTold := by
  refine F.ok sc_l_told_ends (fun vs H Q E h => ?_) (fun cdv A outer s H vs Q E hr h => ?_)
  · obtain ⟨wv, x, y, W, s, rfl, _⟩ := h
    rfl
  · obtain ⟨wv, x, y, W, st, rfl, hw, hx, hy, wk, so, kN, k⟩ := h
    have big := line_big
    have gC := tm.g
    have one := tm.one
    refine ⟨_, PSs.nox (pss_cons (ps_try_only (c := .ref C) (Wout := fun _ _ _ _ => False) rfl rfl ⟨by rfl, by decide, .inl gC⟩ takes_none
      (fun W pn xe tkW pw => pss_one (ps_set (i := 3) sc_l_told_ends.nd rfl (Or.inl rfl) (pe_cE (E := fun cls d H => ∀ σ, W cls d σ H) C_ends_of hr (by decide) (by rfl) (passes_call tkW (fun cls d σ H h => h σ)) (pa_cons (pv 0) (pa_cons (pv 1) (pa_cons (pv 2) pa_nil))))))
      (fun a oe cls d pn _ _ => pss_one (ps_ret pe_non)))
      (pss_one (ps_ret (pe_ifExp (pt_cmpR op_le (pe_callB call_len_dT (by rfl) B.len (by decide +kernel) (pa_cons (pv 3) pa_nil)) pe_int (nomark _)) (pe_tup (pa_cons (pv 3) (pa_cons (pe_c C_low_ends hr (by decide) (by rfl) (pa_cons (pv 0) (pa_cons (pv 1) (pa_cons (pv 2) pa_nil)))) pa_nil))) pe_non)))), ?_⟩
    rw [st_l_told_ends]
    refine ⟨_, rfl, _, rfl, _, rfl, wv, x, y, W, st, rfl, hw, hx, hy, wk, so, fun d es H1 small en ord sm hd hE => ?_, fun ns d H' sm' σ => ⟨true, one, fun _ a ha => kN H' sm', fun h => nomatch h⟩⟩
    obtain ⟨kvs, hdk, hes⟩ := hE
    have lk := paired_len hes
    refine ⟨_, rfl, d, kvs, rfl, hdk, _, _, rfl, rfl, _, rfl, ?_⟩
    by_cases hl : kvs.length ≤ 600
    · dsimp only
      rw [if_pos (decide_eq_true (show ((kvs.length : Nat) : Int) ≤ 600 by omega))]
      refine ⟨_, rfl, _, rfl, _, rfl, _, rfl, wv, x, y, W, st, rfl, hw.tp (tp_same sm), hx.tp (tp_same sm), hy.tp (tp_same sm), wk, so, small, fun a xs lows H2 sm2 ha hl2 hxs lo l5 => ⟨sz2, fun t ht => ?_⟩⟩
      have B1 := same_new (o := .tup [V.ref d, V.ref a]) ht
      exact k t d a es xs lows _ ((sm.trans sm2).trans B1) upd_same (EsAt.same ⟨kvs, hdk, hes⟩ (sm2.trans B1)) en (by omega) (B1 _ _ hl2) (Paired.mapP hxs fun _ _ r => r.tp (tp_same B1)) lo l5
    · dsimp only
      rw [if_neg (by simp; omega)]
      exact kN H1 sm
end
end K11

set_option Elab.async false
set_option linter.all false
set_option maxRecDepth 100000
set_option maxHeartbeats 1000000
namespace K11
open PySem PySem.Spec PyProof.Rows L2
abbrev s_law_alike : Stmt := top 33
abbrev N_l_alike : List Str := ["_law_found", "_law_due"]
theorem sc_l_alike : FnScope N_l_alike ["_law_found", "_law_due"] (defScope s_law_alike) := ⟨rfl, rfl, rfl, by decide +kernel, rfl, by decide +kernel, by decide +kernel⟩
theorem st_l_alike (x0 x1 : V) : L2.start N_l_alike [x0, x1] = [some x0, some x1] := rfl
/-! ### texts of data -/
/-- d has a text of at most n signs -/
def Fits (n : Nat) (d : PyData) : Prop := d.showable = true ∧ d.shown.length ≤ n
theorem fits_int {i : Int} (h0 : 0 ≤ i) (h : i < 1000000000) : Fits 10 (.int i) := by
  have hn : i.natAbs < 10 ^ 9 := by omega
  refine ⟨?_, ?_⟩
  · simp only [PyData.showable, decide_eq_true_eq]
    by_cases z : i.natAbs = 0
    · rw [z]
      decide
    · exact Nat.lt_of_lt_of_le ((Nat.log2_lt z).mpr (Nat.lt_of_lt_of_le hn (show 10 ^ 9 ≤ 2 ^ 30 by decide))) (by decide)
  · rw [PyData.shown_int]
    have := int_text_length_le10 (a := i) (k := 9) (by decide) hn
    rw [PySem.ofString_length]
    exact this
theorem fits_true : Fits 10 (.bool true) := ⟨rfl, by decide⟩
theorem piled_le {n : Nat} : ∀ {ds : List PyData}, (∀ d ∈ ds, Fits n d) → piled (PyData.shownAll ds) ≤ (n + 2) * ds.length
  | [], _ => by rw [PyData.shownAll_nil]; exact Nat.zero_le _
  | d :: ds, h => by
    rw [PyData.shownAll_cons, piled_cons, List.length_cons, Nat.mul_succ]
    have := (h d (List.mem_cons_self ..)).2
    have := piled_le fun e he => h e (List.mem_cons_of_mem _ he)
    omega
theorem join_le (ts : List Str) : (Str.join ", " ts).length ≤ piled ts := by
  by_cases h : ts = []
  · subst h
    exact Nat.le_refl _
  · have := join_length_add ts h
    omega
theorem show_all {n : Nat} : ∀ {ds : List PyData}, (∀ d ∈ ds, Fits n d) → PyData.showableAll ds = true
  | [], _ => rfl
  | d :: ds, h => by
    simp only [PyData.showableAll, (h d (List.mem_cons_self ..)).1, show_all fun e he => h e (List.mem_cons_of_mem _ he), Bool.and_self]
theorem fits_lst {n m : Nat} {ds : List PyData} (h : ∀ d ∈ ds, Fits n d) (hm : (n + 2) * ds.length + 3 ≤ m) : Fits m (.list ds) := by
  refine ⟨by simp only [PyData.showable]; exact show_all h, ?_⟩
  rw [PyData.shown_list, strLen_append, strLen_append]
  have e1 : ((("[" : String) : Str)).length = 1 := rfl
  have e2 : ((("]" : String) : Str)).length = 1 := rfl
  have := piled_le h
  have := join_le (PyData.shownAll ds)
  rw [e1, e2]
  omega
theorem fits_tup {n m : Nat} {ds : List PyData} (h : ∀ d ∈ ds, Fits n d) (hm : (n + 2) * ds.length + 3 ≤ m) : Fits m (.tuple ds) := by
  refine ⟨by simp only [PyData.showable]; exact show_all h, ?_⟩
  rw [PyData.shown_tuple, strLen_append, strLen_append]
  have e1 : ((("(" : String) : Str)).length = 1 := rfl
  have e2 : (((if ds.length == 1 then ",)" else ")" : String) : Str)).length ≤ 2 := by split <;> decide
  have := piled_le h
  have := join_le (PyData.shownAll ds)
  rw [e1]
  omega
theorem fits_I {b : Nat} {ns : List Int} (h : Bd b ns) (hb : b < 1000000000) (hl : ns.length ≤ 8) : Fits 99 (dI ns) := fits_tup (n := 10) (fun d hd => by
  obtain ⟨i, hi, rfl⟩ := List.mem_map.mp hd
  have := h i hi
  exact fits_int this.1 (by omega)) (by rw [List.length_map]; omega)
/-! ### the same, and of the same text -/
def spAlike (K : PySem.W.Frag) : Sp := fun vs H Q _ => ∃ a b d, vs = [.ref a, .ref b] ∧ Dp K H (.ref a) d ∧ Dp K H (.ref b) d ∧ Lt 4 d ∧ Fits 100000 d ∧ Ret H Q fun v _ => v = .bl true
section
variable {P : Program} {w : World} {K : PySem.W.Frag} {mg : Str → Option Value} {base : Heap} {f C : Addr} {fd : FuncData}
theorem ok_lalike (F : FnP K "_law_alike" s_law_alike f fd) (B : Bt mg) : FnG P w K mg base CX0 1 f fd ["_law_found", "_law_due"] (spAlike K) := by
  refine fnG_ok F sc_l_alike (fun vs H Q E h => ?_) (fun cdv A outer s H vs Q E hgd hr h => ?_)
  · obtain ⟨a, b, d, rfl, _⟩ := h
    rfl
  · obtain ⟨a, b, d, rfl, ha, hb, lt, fit, k⟩ := h
    have big := line_big
    refine ⟨_, PSs.nox (pss_one (ps_ret (pe_and (pe_cmpR (op_eqD hr.units) (pv 0) (pv 1) (nomark _)) (pe_one (pe_cmpR op_eq (pe_callB (call_reprD hgd hr.units) (by rfl) B.repr_ (by decide +kernel) (pa_cons (pv 0) pa_nil)) (pe_callB (call_reprD hgd hr.units) (by rfl) B.repr_ (by decide +kernel) (pa_cons (pv 1) pa_nil)) (nomark _)))))), ?_⟩
    rw [st_l_alike]
    have sh := lt.shaped
    refine ⟨_, rfl, _, rfl, d, d, ha, hb, sh, sh, ?_⟩
    rw [SeqAt.eqv_refl d lt.1]
    have nd := PyData.hasDict_of_canLay d lt.1
    have l1 := lt.2
    have l2 := fit.2
    refine ⟨true, rfl, ?_⟩
    rw [if_pos rfl]
    refine ⟨_, rfl, a, d, rfl, ha, fit.1, nd, by omega, by omega, ?_⟩
    refine ⟨_, rfl, b, d, rfl, hb, fit.1, nd, by omega, by omega, ?_⟩
    refine ⟨by first | rfl | simp [scal], ?_⟩
    rw [decide_eq_true rfl]
    exact k _ _ (Same.refl _) rfl
end
end K11

set_option Elab.async false
set_option linter.all false
set_option maxRecDepth 100000
set_option maxHeartbeats 1000000
namespace K11
open PySem PySem.Spec PyProof.Rows L2
abbrev scOne : Scope := { kind := .function, names := [(".0", .local), ("_law_one_here", .cell), ("_law_low", .free)], isGenerator := false, isCoroutine := false }
abbrev scTwo : Scope := { kind := .function, names := [(".0", .local), ("_law_other", .local), ("_law_within", .globalImplicit), ("_law_one_here", .free)], isGenerator := false, isCoroutine := false }
theorem blk_two {N : List Str} {env : Env} (h : BlkOk N scOne scTwo [("_law_other", 14)]) : BlkOk N (relabel scOne env) scTwo [("_law_other", 14)] := by
  refine ⟨h.kind, h.uniq, h.ix, fun y hy e => .inl ?_, h.own⟩
  have hy' : y = ((("_law_one_here" : Str)), NameKind.free) := by
    simp only [scTwo, List.mem_cons, List.not_mem_nil, or_false] at hy
    rcases hy with z | z | z | z
    · rw [z] at e
      exact absurd e (by decide)
    · rw [z] at e
      exact absurd e (by decide)
    · rw [z] at e
      exact absurd e (by decide)
    · exact z
  rw [hy']
  rfl
abbrev s_law_ends_right : Stmt := top 59
abbrev N_l_ends_right : List Str := ["_law_bag_here", "_law_works_here", "_law_heaps", "_law_crew", "_law_ends", "_law_low", "_law_end", "_law_deeds", "_law_gone", "_law_order", "_law_some", "_law_behind", "_law_many", "_law_one_here", "_law_other", "_law_lot"]
theorem sc_l_ends_right : FnScope N_l_ends_right ["_law_bag_here", "_law_works_here", "_law_heaps", "_law_crew", "_law_ends", "_law_low"] (defScope s_law_ends_right) := ⟨rfl, rfl, rfl, by decide +kernel, rfl, by decide +kernel, by decide +kernel⟩
theorem st_l_ends_right (x0 x1 x2 x3 x4 x5 : V) : L2.start N_l_ends_right [x0, x1, x2, x3, x4, x5] = [some x0, some x1, some x2, some x3, some x4, some x5, none, none, none, none, none, none, none, none, none, none] := rfl
theorem Fits.mono {n m : Nat} {d : PyData} (h : Fits n d) (e : n ≤ m) : Fits m d := ⟨h.1, Nat.le_trans h.2 e⟩
theorem mem_of_perm {α : Type} {a b : List α} (p : a.Perm b) {x : α} (h : x ∈ a) : x ∈ b := p.mem_iff.mp h
theorem paired_memL {α β : Type} {F : α → β → Prop} {l : List α} {r : List β} {x : α} (p : Paired F l r) (h : x ∈ l) : ∃ y ∈ r, F x y := by
  obtain ⟨i, hi⟩ := List.mem_iff_getElem?.mp h
  obtain ⟨y, hy, f⟩ := paired_getL p hi
  exact ⟨y, List.mem_of_getElem? hy, f⟩
theorem ints_of {P : Int → Prop} : ∀ {ys : List V}, (∀ v ∈ ys, ∃ i, v = V.int i ∧ P i) → ∃ o : List Int, ys = o.map V.int ∧ ∀ i ∈ o, P i
  | [], _ => ⟨[], rfl, fun i h => by simp at h⟩
  | v :: ys, h => by
    obtain ⟨i, rfl, hi⟩ := h v (List.mem_cons_self ..)
    obtain ⟨o, rfl, ho⟩ := ints_of fun w hw => h w (List.mem_cons_of_mem _ hw)
    exact ⟨i :: o, rfl, fun j hj => by
      rcases List.mem_cons.mp hj with z | z
      · rw [z]; exact hi
      · exact ho j z⟩
theorem gName_cut {i : Nat} {x : V} {σ : L2.St} {H : Hp} {Q : L2.St → Hp → Prop} (h : Q (σ.set i (some x)) H) : gName i x σ H Q := h
theorem ones_all {H : Hp} {K : PySem.W.Frag} : ∀ {l : List Nat} {ys : List V}, Paired (fun (_ : Nat) (y : V) => y = V.int 1) l ys → ∃ ns : List Int, ys = ns.map V.int ∧ ys.isEmpty = l.isEmpty
  | _, _, .nil => ⟨[], rfl, rfl⟩
  | _, _, .cons h t => by
    obtain ⟨ns, e, _⟩ := ones_all (H := H) (K := K) t
    exact ⟨1 :: ns, by rw [h, e]; rfl, rfl⟩
theorem ones_eq {K : PySem.W.Frag} {H' : Hp} {D e : Addr} {ys : List V} {l : List Nat} {Q : VK} (eD : H' D = some (.lst ys)) (pr : Paired (fun (_ : Nat) (y : V) => y = V.int 1) l ys) (he : H' e = none) (q : Q (.bl l.isEmpty) (upd H' e (.lst []))) : rEqD K (.ref D) (.ref e) (upd H' e (.lst [])) Q := by
  obtain ⟨ns, rfl, em⟩ := ones_all (H := H') (K := K) pr
  refine rEq_nilL (n := 0) (same_new he _ _ eD) (dpAll_ints _) (lt_ints _) (by decide) upd_same ?_
  rw [em]
  exact q
theorem ones_ne {K : PySem.W.Frag} {H' : Hp} {D e : Addr} {ys : List V} {l : List Nat} {Q : VK} (eD : H' D = some (.lst ys)) (pr : Paired (fun (_ : Nat) (y : V) => y = V.int 1) l ys) (he : H' e = none) (q : Q (.bl (!l.isEmpty)) (upd H' e (.lst []))) : rNeD K (.ref D) (.ref e) (upd H' e (.lst [])) Q := by
  obtain ⟨ns, rfl, em⟩ := ones_all (H := H') (K := K) pr
  refine rNe_nilL (n := 0) (same_new he _ _ eD) (dpAll_ints _) (lt_ints _) (by decide) upd_same ?_
  rw [em]
  exact q
section
variable {P : Program} {w : World} {K : PySem.W.Frag} {mg : Str → Option Value} {base : Heap} {f C : Addr} {fd : FuncData}
def spRight : Sp := fun vs H Q _ => ∃ b wv x y d a W, ∃ s : Sta, ∃ es xs lows, vs = [b, wv, x, y, .ref d, .ref a] ∧ BagAt H b ∧ WkAt H wv W ∧ TupI H x s.1 ∧ TupI H y s.2 ∧ WkOk W ∧ StOk W s ∧ Bd 1000000 s.1 ∧
  EsAt H d es ∧ EndsOk W s es ∧ es.length ≤ 600 ∧ H a = some (.lst xs) ∧ Paired (TupI H) xs lows ∧ LowOk W s lows ∧ lows.length ≤ 5000 ∧ Ret H Q fun v _ => v = .bl true
theorem ok_lright (F : FnP K "_law_ends_right" s_law_ends_right f fd) (B : Bt mg) (C_l_mixed : Cl P w K mg base CX0 2 "_law_mixed" ["_law_bag_here", "_law_things"] spMixed) (C_l_alike : ClG P w K mg base CX0 1 "_law_alike" ["_law_found", "_law_due"] (spAlike K))
    (C_after : Cl P w K mg base CX0 3 "after" ["works", "heaps", "crew", "deeds"] spAf) (C_can_do : Cl P w K mg base CX0 3 "can_do" ["works", "heaps", "crew", "deeds"] spCan) (C_l_within : Cl P w K mg base CX0 1 "_law_within" ["_law_one_here", "_law_other"] (sp2B leL))
    (C_l_after : Cl P w K mg base CX0 3 "_law_after" ["_law_works_here", "_law_heaps", "_law_crew", "_law_deeds"] spLAf) (C_l_deeds_by : Cl P w K mg base CX0 3 "_law_deeds_by" ["_law_works_here", "_law_order", "_law_heaps", "_law_crew", "_law_most"] spLBy)
    (C_deeds_by : Cl P w K mg base CX0 3 "deeds_by" ["works", "order", "heaps", "crew"] spBy) (C_l_some_deeds : Cl P w K mg base CX0 4 "_law_some_deeds" ["_law_bag_here", "_law_works_here", "_law_heaps", "_law_crew", "_law_most"] spSome) :
    FnG P w K mg base CX0 5 f fd ["_law_bag_here", "_law_works_here", "_law_heaps", "_law_crew", "_law_ends", "_law_low"] spRight := by
  refine fnG_ok F sc_l_ends_right (fun vs H Q E h => ?_) (fun cdv A outer s H vs Q E hgd hr h => ?_)
  · obtain ⟨b, wv, x, y, d, a, W, s, es, xs, lows, rfl, _⟩ := h
    rfl
  · obtain ⟨b, wv, x, y, d, a, W, st, es, xl, lows, rfl, hb, hw, hx, hy, wk, so, bd, ⟨kvs, hdk, hes⟩, en, l600, ha, hlow, lo, l5, k⟩ := h
    have big := line_big
    have hu := hr.units
    have hu1 := room1 hu
    refine ⟨_, PSs.nox (pss_cons (ps_for PassesOwn.never rfl (pi_list (pe_slice sl_list (pe_c C_l_mixed hr (by decide) (by rfl) (pa_cons (pv 0) (pa_cons (pe_callB (cr_sortedTI rfl hr.units) (by rfl) B.sorted (by decide +kernel) (pa_cons (pv 4) pa_nil)) pa_nil))) po_none (po_some pe_int))) (pg_name (i := 6) sc_l_ends_right.nd rfl (Or.inr rfl))
        (pss_cons (ps_set (i := 7) sc_l_ends_right.nd rfl (Or.inr rfl) (pe_dget hu1 (pv 4) (pv 6) (fun _ _ => rfl)))
      (pss_cons (ps_if (pt_not (pt_val (pe_cG C_l_alike hgd hr (by decide) (by rfl) (pa_cons (pe_lst (pa_cons (pe_c C_after hr (by decide) (by rfl) (pa_cons (pv 1) (pa_cons (pv 2) (pa_cons (pv 3) (pa_cons (pv 7) pa_nil))))) (pa_cons (pe_c C_can_do hr (by decide) (by rfl) (pa_cons (pv 1) (pa_cons (pv 2) (pa_cons (pv 3) (pa_cons (pv 7) pa_nil))))) pa_nil))) (pa_cons (pe_lst (pa_cons (pv 6) (pa_cons pe_bl pa_nil))) pa_nil))))) (pss_one (ps_ret pe_bl)) pss_nil)
      (pss_cons (ps_if (pt_cmpR (op_eqD hr.units) (pe_lcx (own := [("_law_other", 14)]) (g := (gName 14)) rfl sc_l_ends_right.nd (pi_list (pv 5)) (blkOk_by (own := [("_law_other", 14)]) (N := N_l_ends_right) (sc := (defScope s_law_ends_right)) (by decide +kernel)) (fun _ _ _ _ _ => (pg_name (i := 14) sc_l_ends_right.nd rfl (Or.inl rfl))) (fun _ _ _ _ _ => (pts_one (pt_val (pe_c C_l_within hr (by decide) (by rfl) (pa_cons (pv 14) (pa_cons (pv 6) pa_nil)))))) (fun _ _ _ _ _ => pe_int)) (pe_lst pa_nil) (nomark _)) (pss_one (ps_ret pe_bl)) pss_nil)
      (pss_cons (ps_setLcx (i := 8) (own := [("_law_many", 12)]) (g := (gName 12)) rfl sc_l_ends_right.nd rfl rfl (sw_true rfl rfl rfl (by decide +kernel)) (pi_range1 (by rfl) B.range (pa_cons (pe_callB call_len_seq (by rfl) B.len (by decide +kernel) (pa_cons (pv 7) pa_nil)) pa_nil)) (blkOk_by (own := [("_law_many", 12)]) (N := N_l_ends_right) (sc := (defScope s_law_ends_right)) (by decide +kernel)) (fun _ _ _ _ _ => (pg_name (i := 12) sc_l_ends_right.nd rfl (Or.inl rfl))) (fun _ _ _ _ _ => pts_nil) (fun _ _ _ _ _ => (pe_ix (r := rIxT K) ix_tup (pe_c C_l_after hr (by decide) (by rfl) (pa_cons (pv 1) (pa_cons (pv 2) (pa_cons (pv 3) (pa_cons (pe_slice (r := rSlA K) sl_tupA (pv 7) po_none (po_some (pv 12))) pa_nil))))) pe_int (fun _ _ => rfl))))
      (pss_one (ps_if (pt_cmpR (op_neD hr.units) (pe_lcx (own := [("_law_lot", 15)]) (g := (gName 15)) rfl sc_l_ends_right.nd (pi_list (pv 8)) (blkOk_by (own := [("_law_lot", 15)]) (N := N_l_ends_right) (sc := (defScope s_law_ends_right)) (by decide +kernel)) (fun _ _ _ _ _ => (pg_name (i := 15) sc_l_ends_right.nd rfl (Or.inl rfl))) (fun _ _ _ _ _ => (pts_one (pt_cmpR op_gt (pe_callB (id := "len") (r := rLenSq K) call_len_sq (by rfl) B.len (by decide +kernel) (pa_cons (pe_dget hu1 (pv 4) (pv 15) (fun _ _ => rfl)) pa_nil)) (pe_callB (id := "len") (r := rLenSq K) call_len_sq (by rfl) B.len (by decide +kernel) (pa_cons (pv 7) pa_nil)) (nomark _)))) (fun _ _ _ _ _ => pe_int)) (pe_lst pa_nil) (nomark _)) (pss_one (ps_ret pe_bl)) pss_nil)))))))
      (pss_cons (ps_if (pt_cmpR (op_neD hr.units) (pe_lcx (own := [("_law_one_here", 13)]) (g := (gName 13)) rfl sc_l_ends_right.nd (pi_list (pv 5)) (blkOk_by (own := [("_law_one_here", 13)]) (N := N_l_ends_right) (sc := (defScope s_law_ends_right)) (by decide +kernel)) (fun _ _ _ _ _ => (pg_name (i := 13) sc_l_ends_right.nd rfl (Or.inr rfl))) (fun _ _ _ _ _ => (pts_one (pt_cmpR (r := rNeD K) (op_neD hr.units) (pe_lcx (wi := iList K (tVar 5)) (own := [("_law_other", 14)]) (g := (gName 14)) rfl sc_l_ends_right.nd (pi_list (pv 5)) (blk_two (N := N_l_ends_right) (blkOk_by (by decide +kernel))) (fun _ _ _ _ _ => (pg_name (i := 14) sc_l_ends_right.nd rfl (Or.inl rfl))) (fun _ _ _ _ _ => (pts_one (PW.pt (pw_and (pt_cmpR (r := rNeD K) (op_neD hr.units) (pv 14) (pv 13) (nomark _)) (pw_and1 (pt_val (pe_c C_l_within hr (by decide) (by rfl) (pa_cons (pv 14) (pa_cons (pv 13) pa_nil))))))))) (fun _ _ _ _ _ => pe_int)) (pe_lst pa_nil) (nomark _)))) (fun _ _ _ _ _ => pe_int)) (pe_lst pa_nil) (nomark _)) (pss_one (ps_ret pe_bl)) pss_nil)
      (pss_cons (ps_set (i := 9) sc_l_ends_right.nd rfl (Or.inl rfl) (pe_callTy call_tuple_of (by rfl) B.tuple (by decide +kernel) (pa_cons (pe_c C_l_mixed hr (by decide) (by rfl) (pa_cons (pv 0) (pa_cons (pe_listRg rfl (by rfl) B.list (prg_1 (by rfl) B.range (pe_callB call_len_seq (by rfl) B.len (by decide +kernel) (pa_cons (pe_ix ix_tup (pv 1) pe_int (fun _ _ => rfl)) pa_nil)))) pa_nil))) pa_nil)))
      (pss_cons (ps_set (i := 7) sc_l_ends_right.nd rfl (Or.inr rfl) (pe_ifExp (pt_cmpR op_isN (pe_c C_l_deeds_by hr (by decide) (by rfl) (pa_cons (pv 1) (pa_cons (pv 9) (pa_cons (pv 2) (pa_cons (pv 3) (pa_cons pe_int pa_nil)))))) pe_non (nomark _)) (pe_tup pa_nil) (pe_c C_deeds_by hr (by decide) (by rfl) (pa_cons (pv 1) (pa_cons (pv 9) (pa_cons (pv 2) (pa_cons (pv 3) pa_nil)))))))
      (pss_cons (ps_for PassesOwn.never rfl (pi_tup (pe_tup (pa_cons (pv 7) (pa_cons (pe_c C_l_some_deeds hr (by decide) (by rfl) (pa_cons (pv 0) (pa_cons (pv 1) (pa_cons (pv 2) (pa_cons (pv 3) (pa_cons pe_int pa_nil)))))) (pa_cons (pe_c C_l_some_deeds hr (by decide) (by rfl) (pa_cons (pv 0) (pa_cons (pv 1) (pa_cons (pv 2) (pa_cons (pv 3) (pa_cons pe_int pa_nil)))))) pa_nil))))) (pg_name (i := 10) sc_l_ends_right.nd rfl (Or.inl rfl))
        (pss_cons (ps_set (i := 11) sc_l_ends_right.nd rfl (Or.inl rfl) (pe_c C_after hr (by decide) (by rfl) (pa_cons (pv 1) (pa_cons (pv 2) (pa_cons (pv 3) (pa_cons (pv 10) pa_nil))))))
      (pss_one (ps_if (PW.pt (pw_or (pt_cmp (pc_dnotin hu1 (pv 11) (pv 4)) rfl) (pw_or1 (pt_cmpR op_gt (pe_callB call_len_seq (by rfl) B.len (by decide +kernel) (pa_cons (pe_dget hu1 (pv 4) (pv 11) (fun _ _ => rfl)) pa_nil)) (pe_callB call_len_seq (by rfl) B.len (by decide +kernel) (pa_cons (pv 10) pa_nil)) (nomark _))))) (pss_one (ps_ret pe_bl)) pss_nil))))
      (pss_one (ps_ret pe_bl))))))), ?_⟩
    rw [st_l_ends_right]
    have hne : ∀ k ∈ es.map (·.1), k ≠ [] := fun k hk e => by
      have lk := en.key wk so k hk
      have w1 := wk.1
      rw [e, List.length_nil] at lk
      omega
    refine ⟨_, rfl, _, rfl, d, kvs, es.map (·.1), rfl, .inl hdk, by rw [esK_keys hes, List.map_map]; rfl, by rw [List.length_map]; omega, hne, en.nd, fun ys xs q py ord hq pys => ?_⟩
    have B1 := same_new (o := .lst xs) hq
    have lxs : xs.length = es.length := by rw [paired_len pys, py.length_eq, List.length_map]
    refine ⟨b, q, xs, rfl, hb.same B1, upd_same, by omega, fun v H2 sm2 e2 => ?_⟩
    obtain ⟨p, zs, rfl, _, hp, pz⟩ := e2
    have S2 := B1.trans sm2
    unfold tNoPart
    refine ⟨_, rfl, p, zs, rfl, SqL.of hp, fun c hc => ⟨c, rfl, ⟨_, SqL.of upd_same⟩, ?_⟩⟩
    have S3 : Same H (upd H2 c (.lst (cutV zs none (some 12)))) := S2.trans (same_new hc)
    have hcl : upd H2 c (.lst (cutV zs none (some 12))) c = some (.lst (cutV zs none (some 12))) := upd_same
    have ents : ∀ z ∈ cutV zs none (some 12), ∃ bz kx dx v, z = .ref bz ∧ upd H2 c (.lst (cutV zs none (some 12))) bz = some (.tup (kx.map V.int)) ∧ getE es kx = some dx ∧ valV kvs (kx.map Sum.inl) = some v ∧ TupI H v dx := fun z hz => by
      have hz1 : z ∈ zs := List.mem_of_mem_drop (List.mem_of_mem_take hz)
      obtain ⟨kx, hk, bz, rfl, hbz⟩ := paired_memL pys (mem_of_perm pz hz1)
      rcases esK_val (k := kx) hes with ⟨g1, g2⟩ | ⟨dx, v, g1, g2, g3⟩
      · obtain ⟨pp, hpp, epp⟩ := List.mem_map.mp (py.mem_iff.mp hk)
        exact absurd epp (getE_none g1 pp hpp)
      · exact ⟨bz, kx, dx, v, rfl, ((sm2.trans (same_new hc)) _ _ (B1 _ _ hbz)), g1, g2, g3⟩
    have lc : (cutV zs none (some 12)).length ≤ 600 := by
      have := cutV_length zs none (some 12)
      have := pz.length_eq
      omega
    generalize cutV zs none (some 12) = cs at hcl ents S3 lc
    generalize upd H2 c (.lst cs) = H3 at hcl ents S3
    refine for_it (walk_list (xs := cs)) (fun i σ H' => ∃ o6 o7 o8, σ = [some b, some wv, some x, some y, some (.ref d), some (.ref a), o6, o7, o8, none, none, none, none, none, none, none] ∧ Same H3 H') ?_ ?_ ?_ ?_
    · exact ⟨_, _, _, rfl, Same.refl _⟩
    · rintro i σ H' hi ⟨_, _, _, _, sm⟩
      exact SqL.of (sm _ _ hcl)
    · rintro i z σ H4 H5 hi ⟨o6, o7, o8, rfl, sm⟩ ⟨rfl, hz⟩
      obtain ⟨bz, kx, dx, v, rfl, hbz, g1, g2, g3⟩ := ents z (List.mem_of_getElem? hz)
      have S5 := S3.trans sm
      have key : H5 bz = some (.tup ((kx.map Sum.inl : List Key).map kV)) := by
        rw [kV_inl]
        exact sm _ _ hbz
      obtain ⟨t, hrun, et⟩ := en.run _ (getE_some g1)
      refine ⟨_, rfl, _, rfl, d, v, rfl, .inr ⟨kvs, _, bz, .inl (S5 _ _ hdk), rfl, key, g2.symm⟩, ?_⟩
      refine ⟨_, rfl, _, rfl, _, rfl, _, rfl, wv, x, y, v, W, st, t, dx, rfl, hw.tp (tp_same S5), hx.tp (tp_same S5), hy.tp (tp_same S5), g3.tp (tp_same S5), wk, so, hrun, fun v6 H6 sm6 e6 => ?_⟩
      have S6 := S5.trans sm6
      refine ⟨_, rfl, _, rfl, _, rfl, _, rfl, wv, x, y, v, W, st, t, dx, rfl, hw.tp (tp_same S6), hx.tp (tp_same S6), hy.tp (tp_same S6), g3.tp (tp_same S6), wk, so, hrun, fun v7 H7 sm7 e7 => ?_⟩
      subst e7
      refine ⟨sz2, fun l1 hl1 => ⟨_, rfl, sz2, fun l2 hl2 => ?_⟩⟩
      have C1 := same_new (o := .lst [v6, V.bl true]) hl1
      have C2 := same_new (o := .lst [V.ref bz, V.bl true]) hl2
      have T67 := sm7.trans (C1.trans C2)
      have d60 : TupI H6 v6 kx := by
        have e6' : TupI H6 v6 t.1 := e6
        rw [et] at e6'
        exact e6'
      have dz0 : TupI H6 (.ref bz) kx := ⟨bz, rfl, sm6 _ _ (sm _ _ hbz)⟩
      have d6 := d60.tp (tp_same T67)
      have dz := dz0.tp (tp_same T67)
      have bt : Bd (1000000 + 8 * dx.length) t.1 := bd.run wk hrun
      have sh : dx.length ≤ 6000 := en.short _ (getE_some g1)
      have ltk : t.1.length = W.kinds.length := (so.run wk hrun).1
      have w8 := wk.2.1
      have ke : t.1 = kx := et
      refine ⟨l1, l2, .list [dI kx, .bool true], rfl, .lst (SqL.of (C2 _ _ upd_same)) (.cons (dp_I d6) (.cons (.bl true) .nil)), .lst (SqL.of upd_same) (.cons (dp_I dz) (.cons (.bl true) .nil)), (lt_lst (n := 3) fun e he => ?_), (fits_lst (n := 99) (fun e he => ?_) (by show (99 + 2) * 2 + 3 ≤ 100000; decide)), fun v8 H8 sm8 e8 => ?_⟩
      · simp only [List.mem_cons, List.not_mem_nil, or_false] at he
        rcases he with rfl | rfl
        · exact (lt_I _).mono (by decide)
        · exact (lt_bool _).mono (by decide)
      · simp only [List.mem_cons, List.not_mem_nil, or_false] at he
        rcases he with rfl | rfl
        · rw [ke] at bt ltk
          exact fits_I bt (by omega) (by omega)
        · exact fits_true.mono (by decide)
      subst e8
      have S8 := (S6.trans T67).trans sm8
      refine ⟨_, rfl, ?_⟩
      have hlow8 : Paired (TupI H8) xl lows := Paired.mapP hlow fun _ _ r => r.tp (tp_same S8)
      have lxl := paired_len hlow
      have dz8 : TupI H8 (.ref bz) kx := dz.tp (tp_same sm8)
      have lkx : kx.length = W.kinds.length := by rw [← ke]; exact ltk
      have lof : ∀ f ∈ lows, f.length = W.kinds.length := fun f hf => by
        obtain ⟨ds, t', h1, h2⟩ := lo.run f hf
        rw [← h2]
        exact (so.run wk h1).1
      refine ⟨_, rfl, a, rfl, ⟨_, SqL.of (S8 _ _ ha)⟩, ?_⟩
      refine lcL (SqL.of (S8 _ _ ha)) (fun j => leL (lows.getD j []) kx) (fun _ y _ => y = .int 1) (fun _ _ _ _ _ h => h) (by omega) (by decide) (fun j z H' hz sm9 => ?_) (fun D H9 ys9 hD sm9 e9 pr => ?_)
      · obtain ⟨f, hf, tf⟩ := paired_getL hlow8 hz
        have ef : lows.getD j [] = f := by rw [List.getD_eq_getElem?_getD, hf]; rfl
        intro Kc N hK hN
        rw [ef] at hK hN
        have lf := lof f (List.mem_of_getElem? hf)
        refine ⟨_, rfl, _, rfl, z, _, f, kx, rfl, tf.tp (tp_same sm9), dz8.tp (tp_same sm9), by omega, fun v10 H10 sm10 e10 => ⟨leL f kx, ?_, ?_⟩⟩
        · rw [e10]
        · dsimp only
          by_cases hl : leL f kx = true
          · rw [if_pos hl]
            exact hK hl _ _ sm10 rfl
          · rw [if_neg hl]
            exact hN (by simpa using hl) _ sm10
      refine ⟨by decide, fun e he => ?_⟩
      have ne : ((List.range xl.length).filter fun j => leL (lows.getD j []) kx).isEmpty = false := by
        obtain ⟨l, hl, hle⟩ := lo.all _ t hrun
        rw [ke] at hle
        obtain ⟨j, hj⟩ := List.mem_iff_getElem?.mp hl
        have lj := (List.getElem?_eq_some_iff.mp hj).1
        rw [← Bool.not_eq_true, List.isEmpty_iff, List.filter_eq_nil_iff]
        intro hh
        have := hh j (List.mem_range.mpr (by omega))
        rw [List.getD_eq_getElem?_getD, hj] at this
        exact this hle
      refine ones_eq e9 pr he ?_
      rw [ne]
      refine ⟨_, rfl, ?_⟩
      have S10 := (S8.trans sm9).trans (same_new (o := .lst []) he)
      have key10 := sm9.trans (same_new (o := .lst []) he)
      generalize upd H9 e (.lst []) = H10 at S10 key10
      obtain ⟨bv, rfl, hbv⟩ := g3
      have nth : ∀ (j : Nat), ∃ u, runD W st (dx.take j) = some u := fun j => runD_take hrun j
      refine ⟨_, rfl, bv, _, rfl, .inr (SqT.of (S10 _ _ hbv)), _, rfl, by omega, by rw [List.length_map]; omega, ?_⟩
      rw [Int.toNat_natCast, List.length_map]
      refine lcR (fun _ => true) (fun j z H' => ∃ u, runD W st (dx.take j) = some u ∧ TupI H' z u.1) (fun _ _ _ _ e ⟨u, q, r⟩ => ⟨u, q, r.tp e⟩) (by omega) (by decide) (fun j H' hj sm11 => elt_yes fun Q hQ => ?_) (fun D H11 ys11 hD11 sm11 e11 pr11 => ?_)
      · rw [Int.zero_add]
        have S11 := S10.trans sm11
        refine ⟨_, rfl, _, rfl, _, rfl, _, rfl, _, rfl, (j : Nat), rfl, ?_⟩
        refine sl_mk (S11 _ _ hbv) fun v12 H12 sm12 e12 => ?_
        rw [cut_to, ← List.map_take] at e12
        have S12 := S11.trans sm12
        obtain ⟨u, hu'⟩ := nth j
        refine ⟨wv, x, y, v12, W, st, u, dx.take j, rfl, hw.tp (tp_same S12), hx.tp (tp_same S12), hy.tp (tp_same S12), e12, wk, so, hu', fun v13 H13 sm13 e13 => ?_⟩
        obtain ⟨a13, x13, y13, rfl, ha13, hx13, hy13⟩ := e13
        exact ⟨a13, _, 0, _, rfl, rfl, SqT.of ha13, rfl, hQ _ _ (sm12.trans sm13) ⟨u, hu', hx13⟩⟩
      rw [filter_true] at pr11
      have S11 := S10.trans sm11
      have l11 := paired_len pr11
      rw [List.length_range] at l11
      refine ⟨_, rfl, D, rfl, ⟨_, SqL.of e11⟩, ?_⟩
      refine lcL (SqL.of e11) (fun _ => false) (fun _ y _ => y = .int 1) (fun _ _ _ _ _ h => h) (by omega) (by decide) (fun j z H' hz sm12 => ?_) (fun D2 H12 ys12 hD2 sm12 e12 pr12 => ?_)
      · have S12 := S11.trans sm12
        obtain ⟨j2, hj2, u, hu', b15, rfl, hb15⟩ := paired_get pr11 hz
        have key15 : H' b15 = some (.tup ((u.1.map Sum.inl : List Key).map kV)) := by
          rw [kV_inl]
          exact sm12 _ _ hb15
        obtain ⟨e15, he15, le15⟩ := en.all _ u hu'
        have ge := getE_at en.nd he15
        have lt15 : (dx.take j2).length ≤ dx.length := by rw [List.length_take]; omega
        rcases esK_val (k := u.1) hes with ⟨q1, q2⟩ | ⟨e', v15, q1, q2, ⟨b16, rfl, hb16⟩⟩
        · rw [ge] at q1
          cases q1
        rw [ge] at q1
        cases q1
        intro Kc N hK hN
        refine ⟨_, rfl, _, rfl, d, _, rfl, .inr ⟨kvs, _, b15, .inl (S12 _ _ hdk), rfl, key15, q2.symm⟩, ?_⟩
        refine ⟨b16, _, rfl, .inr (SqT.of (S12 _ _ hb16)), ?_⟩
        refine ⟨_, rfl, bv, _, rfl, .inr (SqT.of (S12 _ _ hbv)), ?_⟩
        refine ⟨_, _, rfl, rfl, _, rfl, ?_⟩
        dsimp only
        rw [List.length_map, List.length_map, if_neg (by simp; omega)]
        exact hN rfl _ (Same.refl _)
      rw [show (List.range ys11.length).filter (fun _ => false) = [] from List.filter_eq_nil_iff.mpr fun _ _ => Bool.false_ne_true] at pr12
      refine ⟨by decide, fun e2 he2 => ?_⟩
      refine ones_ne e12 pr12 he2 ⟨_, rfl, ?_⟩
      exact ⟨_, _, _, rfl, ((sm.trans sm6).trans T67).trans ((sm8.trans key10).trans (sm11.trans (sm12.trans (same_new he2))))⟩
    · rintro σ H4 ⟨o6, o7, o8, rfl, sm⟩
      have S4 := S3.trans sm
      have hlow4 : Paired (TupI H4) xl lows := Paired.mapP hlow fun _ _ r => r.tp (tp_same S4)
      have lxl := paired_len hlow
      have nofl : ∀ n : Nat, (List.range n).filter (fun _ => false) = [] := fun n => List.filter_eq_nil_iff.mpr fun _ _ => Bool.false_ne_true
      have lof : ∀ f ∈ lows, f.length ≤ 8 := fun f hf => by
        obtain ⟨ds, t', h1, h2⟩ := lo.run f hf
        have := (so.run wk h1).1
        have := wk.2.1
        rw [← h2]
        omega
      refine ⟨_, rfl, a, rfl, ⟨_, SqL.of (S4 _ _ ha)⟩, ?_⟩
      refine lcL (SqL.of (S4 _ _ ha)) (fun _ => false) (fun _ y _ => y = .int 1) (fun _ _ _ _ _ h => h) (by omega) (by decide) (fun j z H' hz sm5 => ?_) (fun D H5 ys5 hD5 sm5 e5 pr5 => ?_)
      · obtain ⟨f1, hf1, tf1⟩ := paired_getL hlow4 hz
        intro Kc N hK hN
        have S5 := S4.trans sm5
        refine ⟨_, rfl, a, rfl, ⟨_, SqL.of (S5 _ _ ha)⟩, ?_⟩
        refine lcL (SqL.of (S5 _ _ ha)) (fun _ => false) (fun _ y _ => y = .int 1) (fun _ _ _ _ _ h => h) (by omega) (by decide) (fun j2 z2 H'' hz2 sm6 => ?_) (fun D6 H6 ys6 hD6 sm6 e6 pr6 => ?_)
        · obtain ⟨f2, hf2, tf2⟩ := paired_getL hlow4 hz2
          intro Kc2 N2 hK2 hN2
          have t2 := tf2.tp (tp_same (sm5.trans sm6))
          have t1 := tf1.tp (tp_same (sm5.trans sm6))
          refine ⟨_, rfl, _, rfl, dI f2, dI f1, dp_I t2, dp_I t1, (lt_I _).shaped, (lt_I _).shaped, _, rfl, ?_⟩
          rw [eqv_I]
          by_cases e : f2 = f1
          · rw [decide_eq_true e]
            exact hN2 rfl _ (Same.refl _)
          · rw [decide_eq_false e]
            have nl : leL f2 f1 = false := by
              cases q : leL f2 f1 with
              | false => rfl
              | true => exact absurd (lo.apart _ (List.mem_of_getElem? hf2) _ (List.mem_of_getElem? hf1) q) e
            have lf := lof f2 (List.mem_of_getElem? hf2)
            refine ⟨_, rfl, _, rfl, z2, z, f2, f1, rfl, t2, t1, by omega, fun v7 H7 sm7 e7 => ⟨false, by rw [e7, nl], ?_⟩⟩
            exact hN2 rfl _ sm7
        · rw [nofl] at pr6
          refine ⟨by decide, fun e he => ?_⟩
          refine ones_ne e6 pr6 he ⟨_, rfl, ?_⟩
          exact hN rfl _ (sm6.trans (same_new he))
      rw [nofl] at pr5
      refine ⟨by decide, fun e he => ?_⟩
      refine ones_ne e5 pr5 he ⟨_, rfl, ?_⟩
      have S6 := (S4.trans sm5).trans (same_new (o := .lst []) he)
      generalize upd H5 e (.lst []) = H6 at S6
      dsimp only
      rw [if_neg (by decide)]
      obtain ⟨aw, xk, xh, zr, ewv, hwt, _, _, ⟨pr, rs, ezr, hpr, pp⟩⟩ := hw
      have hw : WkAt H wv W := ⟨aw, xk, xh, zr, ewv, hwt, by assumption, by assumption, ⟨pr, rs, ezr, hpr, pp⟩⟩
      have lr := paired_len pp
      have r16 := wk.2.2.2.2.1
      refine ⟨_, rfl, _, rfl, aw, _, 2, _, ewv, rfl, SqT.of (S6 _ _ hwt), rfl, pr, _, by rw [ezr], .inr (SqT.of (S6 _ _ hpr)), _, rfl, RgOk.of_le (by omega) (by omega) (by omega) (by omega), fun q2 hq2 => ?_⟩
      have lrg := rgV_length 0 (rs.length : Nat)
      refine ⟨b, q2, rgV 0 (rs.length : Nat), rfl, hb.same (S6.trans (same_new hq2)), upd_same, by omega, fun v7 H7 sm7 e7 => ?_⟩
      obtain ⟨p7, ys7, rfl, _, hp7, pm7⟩ := e7
      have S7 := (S6.trans (same_new hq2)).trans sm7
      obtain ⟨o, rfl, ho⟩ := ints_of (P := fun i => 0 ≤ i ∧ i < W.recs.length) (ys := ys7) fun v hv => by
        have := pm7.mem_iff.mp hv
        unfold rgV at this
        obtain ⟨i, hi, rfl⟩ := List.mem_map.mp this
        have := List.mem_range.mp hi
        exact ⟨_, rfl, by omega, by omega⟩
      have lo7 : o.length ≤ 16 := by
        have := pm7.length_eq
        rw [List.length_map] at this
        omega
      refine ⟨p7, _, rfl, .inl ⟨SqL.of hp7, fun l8 hl8 => ?_⟩⟩
      have S8 := S7.trans (same_new (o := .tup (o.map V.int)) hl8)
      have ho8 : upd H7 l8 (.tup (o.map V.int)) l8 = some (.tup (o.map V.int)) := upd_same
      generalize upd H7 l8 (.tup (o.map V.int)) = H8 at S8 ho8
      dsimp only
      refine gName_cut ?_
      refine seq_cut (t := tAsg _ _) (fun σ H' => ∃ v ds t, σ = [some b, some wv, some x, some y, some (.ref d), some (.ref a), o6, some v, o8, some (.ref l8), none, none, none, none, none, none] ∧ Same H H' ∧ TupI H' v ds ∧ runD W st ds = some t) ?_ ?_
      · rintro σ H9 ⟨v9, ds9, t9, rfl, S9, tv9, run9⟩
        refine ⟨_, rfl, _, rfl, _, rfl, _, rfl, _, rfl, b, wv, x, y, W, st, 6, rfl, hb.same S9, hw.tp (tp_same S9), hx.tp (tp_same S9), hy.tp (tp_same S9), wk, so, by decide, by decide, fun v10 H10 sm10 e10 => ?_⟩
        obtain ⟨ds10, t10, tv10, run10, _⟩ := e10
        have S10 := S9.trans sm10
        refine ⟨_, rfl, _, rfl, _, rfl, _, rfl, b, wv, x, y, W, st, 20, rfl, hb.same S10, hw.tp (tp_same S10), hx.tp (tp_same S10), hy.tp (tp_same S10), wk, so, by decide, by decide, fun v11 H11 sm11 e11 => ?_⟩
        obtain ⟨ds11, t11, tv11, run11, _⟩ := e11
        have S11 := S10.trans sm11
        refine ⟨by show 3 ≤ sizeLine; decide, fun q hq => ⟨q, rfl, ⟨_, SqT.of upd_same⟩, ?_⟩⟩
        have B12 := same_new (o := .tup [v9, v10, v11]) hq
        have S12 := S11.trans B12
        have hq0 : upd H11 q (.tup [v9, v10, v11]) q = some (.tup [v9, v10, v11]) := upd_same
        have three : ∀ z ∈ [v9, v10, v11], ∃ ds t, TupI (upd H11 q (.tup [v9, v10, v11])) z ds ∧ runD W st ds = some t := fun z hz => by
          simp only [List.mem_cons, List.not_mem_nil, or_false] at hz
          rcases hz with rfl | rfl | rfl
          · exact ⟨ds9, t9, ((tv9.tp (tp_same sm10)).tp (tp_same sm11)).tp (tp_same B12), run9⟩
          · exact ⟨ds10, t10, (tv10.tp (tp_same sm11)).tp (tp_same B12), run10⟩
          · exact ⟨ds11, t11, tv11.tp (tp_same B12), run11⟩
        generalize upd H11 q (.tup [v9, v10, v11]) = H12 at S12 hq0 three
        refine for_it (walk_tup (xs := [v9, v10, v11])) (fun i σ H' => ∃ o10 o11, σ = [some b, some wv, some x, some y, some (.ref d), some (.ref a), o6, some v9, o8, some (.ref l8), o10, o11, none, none, none, none] ∧ Same H12 H') ?_ ?_ ?_ ?_
        · exact ⟨_, _, rfl, Same.refl _⟩
        · rintro i σ H' hi ⟨_, _, _, sm⟩
          exact SqT.of (sm _ _ hq0)
        · rintro i z σ H13 H14 hi ⟨o10, o11, rfl, sm13⟩ ⟨rfl, hz⟩
          obtain ⟨ds, t, tz0, run⟩ := three z (List.mem_of_getElem? hz)
          have S13 := S12.trans sm13
          have tz := tz0.tp (tp_same sm13)
          refine ⟨_, rfl, _, rfl, _, rfl, _, rfl, wv, x, y, z, W, st, t, ds, rfl, hw.tp (tp_same S13), hx.tp (tp_same S13), hy.tp (tp_same S13), tz, wk, so, run, fun v15 H15 sm15 e15 => ?_⟩
          obtain ⟨b15, rfl, h15⟩ := e15
          have S15 := S13.trans sm15
          obtain ⟨bz, rfl, hbz⟩ := tz
          have key15 : H15 b15 = some (.tup ((t.1.map Sum.inl : List Key).map kV)) := by
            rw [kV_inl]
            exact h15
          obtain ⟨e16, he16, le16⟩ := en.all _ t run
          have ge := getE_at en.nd he16
          rcases esK_val (k := t.1) hes with ⟨q1, q2⟩ | ⟨e', v16, q1, q2, ⟨b16, rfl, hb16⟩⟩
          · rw [ge] at q1
            cases q1
          rw [ge] at q1
          cases q1
          refine ⟨_, rfl, _, rfl, d, some (.ref b16), rfl, .inr ⟨kvs, _, b15, .inl (S15 _ _ hdk), rfl, key15, q2.symm⟩, _, rfl, ?_⟩
          refine ⟨_, rfl, _, rfl, d, _, rfl, .inr ⟨kvs, _, b15, .inl (S15 _ _ hdk), rfl, key15, q2.symm⟩, ?_⟩
          refine ⟨b16, _, rfl, .inr (SqT.of (S15 _ _ hb16)), ?_⟩
          refine ⟨_, rfl, bz, _, rfl, .inr (SqT.of (sm15 _ _ hbz)), _, _, rfl, rfl, _, rfl, ?_⟩
          dsimp only
          rw [List.length_map, List.length_map, if_neg (by simp; omega)]
          exact ⟨_, _, rfl, sm13.trans sm15⟩
        · rintro σ H13 ⟨o10, o11, rfl, sm13⟩
          exact k _ _ (S12.trans sm13) rfl
      · intro tail
        refine ⟨_, rfl, _, rfl, _, rfl, _, rfl, wv, .ref l8, x, y, W, st, o, rfl, hw.tp (tp_same S8), ⟨l8, rfl, ho8⟩, hx.tp (tp_same S8), hy.tp (tp_same S8), wk, so, ⟨lo7, ho⟩, fun v9 H9 sm9 e9 => ?_⟩
        have S9 := S8.trans sm9
        rcases e9 with e9 | ⟨a9, ds, t, e9, gp, pn, l9⟩
        · have e9' : v9 = .non := e9
          subst e9'
          refine ⟨rfl, _, rfl, ?_⟩
          refine ⟨Nat.zero_le _, fun q hq => tail _ _ ⟨_, [], st, rfl, S9.trans (same_new hq), ⟨q, rfl, upd_same⟩, rfl⟩⟩
        · have e9' : v9 = .ref a9 := e9
          subst e9'
          refine ⟨rfl, _, rfl, ?_⟩
          refine ⟨_, rfl, _, rfl, _, rfl, _, rfl, wv, .ref l8, x, y, W, st, o, ds, t, rfl, hw.tp (tp_same S9), ⟨l8, rfl, sm9 _ _ ho8⟩, hx.tp (tp_same S9), hy.tp (tp_same S9), wk, so, ⟨lo7, ho⟩, gp, pn, l9, fun v10 H10 sm10 e10 => ?_⟩
          obtain ⟨ds', t', tv, run', _⟩ := e10
          exact tail _ _ ⟨_, ds', t', rfl, S9.trans sm10, tv, run'⟩
end
end K11

set_option Elab.async false
set_option linter.all false
set_option maxRecDepth 100000
set_option maxHeartbeats 1000000
namespace K11
open PySem PySem.Spec PyProof.Rows L2
abbrev s_law_run_right : Stmt := top 60
abbrev N_l_run_right : List Str := ["_law_bag_here", "_law_works_here", "_law_sender_here", "_law_run_here", "_law_play", "_law_chosen", "_law_heaps", "_law_index", "_law_crew", "_law_found", "_law_ends", "_law_low"]
theorem sc_l_run_right : FnScope N_l_run_right ["_law_bag_here", "_law_works_here", "_law_sender_here"] (defScope s_law_run_right) := ⟨rfl, rfl, rfl, by decide +kernel, rfl, by decide +kernel, by decide +kernel⟩
theorem st_l_run_right (x0 x1 x2 : V) : L2.start N_l_run_right [x0, x1, x2] = [some x0, some x1, some x2, none, none, none, none, none, none, none, none, none] := rfl
theorem ChOk.snoc {W : Wk} {S : Sn} {z : List Int} {ns : List Int} {dss chs : List (List Int)} {n : Int} {h ds : List Int} {A : Ar} {t : Sta} (c : ChOk W S z ns dss chs) (hh : (z :: chs)[ns.length]? = some h) (n0 : 0 ≤ n) (hA : S.arrows[n.toNat]? = some A) (hr : runD W (addL h A.am, A.cr) ds = some t) : ChOk W S z (ns ++ [n]) (dss ++ [ds]) (chs ++ [t.1]) where
  l1 := by rw [List.length_append, List.length_append, c.l1]; rfl
  l2 := by rw [List.length_append, List.length_append, c.l2]; rfl
  lz := c.lz
  at' := fun k m e c' g hm he hc hg => by
    have l1 := c.l1
    have l2 := c.l2
    by_cases hk : k < ns.length
    · rw [List.getElem?_append_left hk] at hm
      rw [List.getElem?_append_left (by omega)] at he hc
      rw [← List.cons_append, List.getElem?_append_left (by rw [List.length_cons]; omega)] at hg
      exact c.at' k m e c' g hm he hc hg
    · have hk2 : k = ns.length := by
        have := (List.getElem?_eq_some_iff.mp hm).1
        rw [List.length_append, List.length_singleton] at this
        omega
      subst hk2
      rw [List.getElem?_append_right (Nat.le_refl _), Nat.sub_self] at hm
      rw [List.getElem?_append_right (by omega), show ns.length - dss.length = 0 by omega] at he
      rw [List.getElem?_append_right (by omega), show ns.length - chs.length = 0 by omega] at hc
      rw [← List.cons_append, List.getElem?_append_left (by rw [List.length_cons]; omega), hh] at hg
      cases hm
      cases he
      cases hc
      cases hg
      exact ⟨A, t, n0, hA, hr, rfl⟩
theorem bd_mono {m n : Nat} {l : List Int} (h : Bd m l) (e : m ≤ n) : Bd n l := fun x hx => by
  have := h x hx
  omega
theorem bd_zero (n : Nat) : Bd 0 (List.replicate n 0) := fun x hx => by
  rw [(List.mem_replicate.mp hx).2]
  decide
section
variable {P : Program} {w : World} {K : PySem.W.Frag} {mg : Str → Option Value} {base : Heap} {f C : Addr} {fd : FuncData}
def spRunRight : Sp := fun vs H Q _ => ∃ b wv sv W S, vs = [b, wv, sv] ∧ BagAt H b ∧ WkAt H wv W ∧ WkOk W ∧ SnAt H sv S ∧ SnOk W S ∧ Ret H Q fun v _ => v = .bl true
theorem ok_lrunright (F : FnP K "_law_run_right" s_law_run_right f fd) (B : Bt mg) (C_l_run : Cl P w K mg base CX0 3 "_law_run" ["_law_bag_here", "_law_sender_here", "_law_many"] spRun) (C_l_nothing : Cl P w K mg base CX0 1 "_law_nothing" ["_law_works_here"] spNo)
    (C_l_sum : Cl P w K mg base CX0 1 "_law_sum" ["_law_one_here", "_law_other"] (sp2 addL)) (C_l_told_ends : Cl P w K mg base CX0 6 "_law_told_ends" ["_law_works_here", "_law_heaps", "_law_crew"] spTold)
    (C_l_ends_right : ClG P w K mg base CX0 5 "_law_ends_right" ["_law_bag_here", "_law_works_here", "_law_heaps", "_law_crew", "_law_ends", "_law_low"] spRight) (C_l_one : Cl P w K mg base CX0 2 "_law_one" ["_law_bag_here", "_law_things"] spOne)
    (C_l_alike : ClG P w K mg base CX0 1 "_law_alike" ["_law_found", "_law_due"] (spAlike K)) (C_played : Cl P w K mg base CX0 4 "played" ["works", "sender", "run", "play"] spPlayed) (C_is_play : Cl P w K mg base CX0 5 "is_play" ["works", "sender", "run", "thing"] spIsPlay) :
    FnG P w K mg base CX0 7 f fd ["_law_bag_here", "_law_works_here", "_law_sender_here"] spRunRight := by
  refine fnG_ok F sc_l_run_right (fun vs H Q E h => ?_) (fun cdv A outer s H vs Q E hgd hr h => ?_)
  · obtain ⟨b, wv, sv, W, S, rfl, _⟩ := h
    rfl
  · obtain ⟨b, wv, sv, W, S, rfl, hb, hw, wk, hs, sok, k⟩ := h
    have big := line_big
    have hu := hr.units
    have hu1 := room1 hu
    refine ⟨_, PSs.nox (pss_cons (ps_asg (pe_tup (pa_cons (pe_c C_l_run hr (by decide) (by rfl) (pa_cons (pv 0) (pa_cons (pv 2) (pa_cons pe_int pa_nil)))) (pa_cons (pe_lst pa_nil) (pa_cons (pe_lst pa_nil) (pa_cons (pe_c C_l_nothing hr (by decide) (by rfl) (pa_cons (pv 1) pa_nil)) pa_nil))))) (pg_tup rfl (pgs_cons (pg_name (i := 3) sc_l_run_right.nd rfl (Or.inl rfl)) (pgs_cons (pg_name (i := 4) sc_l_run_right.nd rfl (Or.inl rfl)) (pgs_cons (pg_name (i := 5) sc_l_run_right.nd rfl (Or.inl rfl)) (pgs_cons (pg_name (i := 6) sc_l_run_right.nd rfl (Or.inl rfl)) pgs_nil))))))
      (pss_cons (ps_for PassesOwn.never rfl (pi_tup (pv 3)) (pg_name (i := 7) sc_l_run_right.nd rfl (Or.inl rfl))
        (pss_cons (ps_par (i := 6) (j := 8) rfl sc_l_run_right.nd rfl rfl (by decide) rfl rfl (pa_cons (pe_c C_l_sum hr (by decide) (by rfl) (pa_cons (pv 6) (pa_cons (pe_ix ix_tup (pe_ix ix_tup (pe_ix ix_tup (pv 2) pe_int (fun _ _ => rfl)) (pv 7) (fun _ _ => rfl)) pe_int (fun _ _ => rfl)) pa_nil))) (pa_cons (pe_ix ix_tup (pe_ix ix_tup (pe_ix ix_tup (pv 2) pe_int (fun _ _ => rfl)) (pv 7) (fun _ _ => rfl)) pe_int (fun _ _ => rfl)) pa_nil)) (by rfl))
      (pss_cons (ps_set (i := 9) sc_l_run_right.nd rfl (Or.inl rfl) (pe_c C_l_told_ends hr (by decide) (by rfl) (pa_cons (pv 1) (pa_cons (pv 6) (pa_cons (pv 8) pa_nil)))))
      (pss_cons (ps_if (pt_cmpR op_isN (pv 9) pe_non (nomark _)) (pss_one (ps_ret pe_bl)) pss_nil)
      (pss_cons (ps_asg (pv 9) (pg_tup rfl (pgs_cons (pg_name (i := 10) sc_l_run_right.nd rfl (Or.inl rfl)) (pgs_cons (pg_name (i := 11) sc_l_run_right.nd rfl (Or.inl rfl)) pgs_nil))))
      (pss_cons (ps_if (pt_not (pt_val (pe_cG C_l_ends_right hgd hr (by decide) (by rfl) (pa_cons (pv 0) (pa_cons (pv 1) (pa_cons (pv 6) (pa_cons (pv 8) (pa_cons (pv 10) (pa_cons (pv 11) pa_nil))))))))) (pss_one (ps_ret pe_bl)) pss_nil)
      (pss_cons (ps_set (i := 6) sc_l_run_right.nd rfl (Or.inl rfl) (pe_c C_l_one hr (by decide) (by rfl) (pa_cons (pv 0) (pa_cons (pe_lst (pa_cons (pe_c C_l_one hr (by decide) (by rfl) (pa_cons (pv 0) (pa_cons (pe_callB (cr_sortedTI rfl hr.units) (by rfl) B.sorted (by decide +kernel) (pa_cons (pv 10) pa_nil)) pa_nil))) (pa_cons (pe_c C_l_one hr (by decide) (by rfl) (pa_cons (pv 0) (pa_cons (pv 11) pa_nil))) (pa_cons (pe_ix ix_list (pv 11) pe_int (fun _ _ => rfl)) pa_nil)))) pa_nil))))
      (pss_cons (ps_expr (pe_bm PySem.F.plainAttrs_list PySem.F.slot_list_append PySem.F.type_list_append mt_append (pv 4) (pa_cons (pe_dget hu1 (pv 10) (pv 6) (fun _ _ => rfl)) pa_nil)))
      (pss_one (ps_expr (pe_bm PySem.F.plainAttrs_list PySem.F.slot_list_append PySem.F.type_list_append mt_append (pv 5) (pa_cons (pv 6) pa_nil))))))))))))
      (pss_one (ps_ret (pe_cG C_l_alike hgd hr (by decide) (by rfl) (pa_cons (pe_lst (pa_cons (pe_c C_played hr (by decide) (by rfl) (pa_cons (pv 1) (pa_cons (pv 2) (pa_cons (pv 3) (pa_cons (pv 4) pa_nil))))) (pa_cons (pe_c C_is_play hr (by decide) (by rfl) (pa_cons (pv 1) (pa_cons (pv 2) (pa_cons (pv 3) (pa_cons (pv 4) pa_nil))))) pa_nil))) (pa_cons (pe_lst (pa_cons (pv 5) (pa_cons pe_bl pa_nil))) pa_nil))))))), ?_⟩
    rw [st_l_run_right]
    refine ⟨_, rfl, _, rfl, b, sv, S, 12, rfl, hb, hs, sok.1, by decide, fun v3 H3 sm3 e3 => ?_⟩
    obtain ⟨ns, ⟨p3, rfl, hp3⟩, l12, hns⟩ := e3
    refine ⟨Nat.zero_le _, fun p4 hp4 => ⟨Nat.zero_le _, fun p5 hp5 => ⟨_, rfl, wv, W, rfl, ?_⟩⟩⟩
    have A4 := same_new (o := .lst []) hp4
    have A5 := same_new (o := .lst []) hp5
    have S5 := (sm3.trans A4).trans A5
    refine ⟨hw.tp (tp_same S5), wk, fun v6 H6 sm6 e6 => ⟨by show 4 ≤ sizeLine; decide, fun T hT => ?_⟩⟩
    refine ⟨T, _, rfl, SqT.of upd_same, rfl, _, _, rfl, _, _, rfl, _, _, rfl, _, _, rfl, rfl, ?_⟩
    have A7 := sm6.trans (same_new (o := .tup [V.ref p3, V.ref p4, V.ref p5, v6]) hT)
    have S7 := S5.trans A7
    have hp37 := A7 _ _ (A5 _ _ (A4 _ _ hp3))
    have hp47 := A7 _ _ (A5 _ _ (upd_same (H := H3) (a := p4) (o := .lst [])))
    have hp57 := A7 _ _ (upd_same (H := upd H3 p4 (.lst [])) (a := p5) (o := .lst []))
    have h67 := e6.tp (tp_same (same_new (o := .tup [V.ref p3, V.ref p4, V.ref p5, v6]) hT))
    have n4 : H p4 = none := none_back sm3 hp4
    have n5 : H p5 = none := none_back (sm3.trans A4) hp5
    have p45 : p4 ≠ p5 := ne_of_none (upd_same (H := H3) (a := p4) (o := .lst [])) hp5
    generalize upd H6 T (.tup [V.ref p3, V.ref p4, V.ref p5, v6]) = H7 at S7 hp37 hp47 hp57 h67
    clear A7 S5 A5 A4 sm6 e6 hT hp3 hp4 hp5 sm3
    obtain ⟨as, ya, rfl, hsa, ⟨pa, xsA, rfl, hpa, pp⟩⟩ := hs
    refine ⟨_, rfl, p3, rfl, ⟨_, SqT.of hp37⟩, ?_⟩
    refine for_it (walk_tup (xs := ns.map V.int)) (fun i σ H' => ∃ hv o7 o8 o9 o10 o11 xs dss ys chs h, σ = [some b, some wv, some (.ref as), some (.ref p3), some (.ref p4), some (.ref p5), some hv, o7, o8, o9, o10, o11] ∧ Same H H' ∧ H' p3 = some (.tup (ns.map V.int)) ∧
      H' p4 = some (.lst xs) ∧ Paired (TupI H') xs dss ∧ H' p5 = some (.lst ys) ∧ Paired (TupI H') ys chs ∧ TupI H' hv h ∧ ChOk W S (List.replicate W.kinds.length 0) (ns.take i) dss chs ∧ (List.replicate W.kinds.length 0 :: chs)[i]? = some h ∧ Bd (i * 50000) h ∧ h.length = W.kinds.length ∧
      (∀ ds ∈ dss, ds.length ≤ 6000) ∧ ∀ c ∈ chs, Bd 600000 c ∧ c.length = W.kinds.length) ?_ ?_ ?_ ?_
    · exact ⟨_, _, _, _, _, _, [], [], [], [], _, rfl, S7, hp37, hp47, .nil, hp57, .nil, h67, ⟨rfl, rfl, by simp, fun k n ds c h hn => by simp at hn⟩, rfl, by rw [Nat.zero_mul]; exact bd_zero _, by simp, fun ds h => by simp at h, fun c h => by simp at h⟩
    · rintro i σ H' hi ⟨_, _, _, _, _, _, _, _, _, _, _, _, _, h, _⟩
      exact SqT.of h
    · clear S7 hp37 hp47 hp57 h67
      rintro i z σ H8 H9 hi ⟨hv, o7, o8, o9, o10, o11, xs, dss, ys, chs, h, rfl, sm, hp3, hp4, hxs, hp5, hys, th, ch, hh, bd, lh, ld, lc⟩ ⟨rfl, hz⟩
      obtain ⟨n, hn, rfl⟩ := at_map hz
      have hi' := (List.getElem?_eq_some_iff.mp hn).1
      obtain ⟨n0, n1⟩ := hns n (List.mem_of_getElem? hn)
      have gA : S.arrows[n.toNat]? = some (S.arrows[n.toNat]'(by omega)) := List.getElem?_eq_getElem (by omega)
      generalize (S.arrows[n.toNat]'(by omega)) = A0 at gA
      obtain ⟨va, hva, ar, xam, xcr, rfl, har, ⟨pam, rfl, hpam⟩, ⟨pcr, rfl, hpcr⟩⟩ := paired_get pp gA
      have oA := sok.2 A0 (List.mem_of_getElem? gA)
      refine ⟨_, rfl, _, rfl, as, _, 1, _, rfl, rfl, SqT.of (sm _ _ hsa), rfl, _, rfl, pa, _, n, _, rfl, rfl, SqT.of (sm _ _ hpa), atI_get n0 hva, ar, _, 2, _, rfl, rfl, SqT.of (sm _ _ har), rfl, ?_⟩
      have lam := oA.1
      have w8 := wk.2.1
      refine ⟨hv, _, h, A0.am, rfl, th, ⟨pam, rfl, sm _ _ hpam⟩, by omega, fun v10 H10 sm10 e10 => ?_⟩
      have S10 := sm.trans sm10
      refine ⟨_, rfl, as, _, 1, _, rfl, rfl, SqT.of (S10 _ _ hsa), rfl, _, rfl, pa, _, n, _, rfl, rfl, SqT.of (S10 _ _ hpa), atI_get n0 hva, ar, _, 3, _, rfl, rfl, SqT.of (S10 _ _ har), rfl, ?_⟩
      refine ⟨v10, .ref pcr, rfl, ?_⟩
      have so : StOk W (addL h A0.am, A0.cr) := stOk_add oA lh
      have i12 : i < 12 := by omega
      have cr10 : TupI H10 (.ref pcr) A0.cr := ⟨pcr, rfl, S10 _ _ hpcr⟩
      refine ⟨_, rfl, _, rfl, _, rfl, wv, v10, .ref pcr, W, (addL h A0.am, A0.cr), rfl, hw.tp (tp_same S10), e10, cr10, wk, so, fun H11 sm11 => ?_, fun t d a es xl lows H11 sm11 ht hE en l600 hl hlow lo l5 => ?_⟩
      · exact ⟨_, rfl, rfl, _, rfl, k _ _ (S10.trans sm11) rfl⟩
      · refine ⟨_, rfl, rfl, _, rfl, ?_⟩
        have S11 := S10.trans sm11
        refine ⟨_, rfl, t, _, rfl, SqT.of ht, rfl, _, _, rfl, _, _, rfl, rfl, ?_⟩
        have b6 : Bd 1000000 (addL h A0.am) := bd_mono (addL_bd bd oA.2.2.1) (by omega)
        have e11 : TupI H11 v10 (addL h A0.am) := TupI.tp e10 (tp_same sm11)
        refine ⟨_, rfl, _, rfl, _, rfl, _, rfl, _, rfl, _, rfl, b, wv, v10, .ref pcr, d, a, W, (addL h A0.am, A0.cr), es, xl, lows, rfl, hb.same S11, hw.tp (tp_same S11), e11, cr10.tp (tp_same sm11), wk, so, b6, hE, en, l600, hl, hlow, lo, l5, fun v12 H12 sm12 e12 => ⟨true, e12, ?_⟩⟩
        have S12 := S11.trans sm12
        obtain ⟨kvs, hdk, hes⟩ := hE.same sm12
        have hl12 := sm12 _ _ hl
        have hlow12 : Paired (TupI H12) xl lows := Paired.mapP hlow fun _ _ r => r.tp (tp_same sm12)
        have hne : ∀ k ∈ es.map (·.1), k ≠ [] := fun k hk e => by
          have lk := en.key wk so k hk
          have w1 := wk.1
          rw [e, List.length_nil] at lk
          omega
        obtain ⟨l0, hl0, _⟩ := lo.all [] _ rfl
        have lxl := paired_len hlow
        have xl0 : 0 < xl.length := by
          have := List.length_pos_of_mem hl0
          omega
        have es0 : 0 < es.length := by
          obtain ⟨e, he, _⟩ := en.all [] _ rfl
          exact List.length_pos_of_mem he
        refine ⟨_, rfl, _, rfl, _, rfl, d, kvs, es.map (·.1), rfl, .inl hdk, by rw [esK_keys hes, List.map_map]; rfl, by rw [List.length_map]; omega, hne, en.nd, fun yk zs q py ord hq pys => ?_⟩
        have lzs : zs.length = es.length := by rw [paired_len pys, py.length_eq, List.length_map]
        have B13 := same_new (o := .lst zs) hq
        refine ⟨b, q, zs, rfl, hb.same (S12.trans B13), upd_same, fun e => by rw [e] at lzs; simp at lzs; omega, by omega, fun v13 H13 sm13 m13 => ?_⟩
        have C13 := B13.trans sm13
        refine ⟨_, rfl, _, rfl, b, a, xl, rfl, hb.same (S12.trans C13), C13 _ _ hl12, fun e => by rw [e] at xl0; simp at xl0, by omega, fun v14 H14 sm14 m14 => ?_⟩
        have C14 := C13.trans sm14
        have hx0 : xl[0]? = some xl[0] := List.getElem?_eq_getElem xl0
        refine ⟨_, rfl, a, _, 0, _, rfl, rfl, SqL.of (C14 _ _ hl12), atI_nat hx0, ?_⟩
        refine ⟨by show 3 ≤ sizeLine; decide, fun l3 hl3 => ?_⟩
        have C15 := C14.trans (same_new (o := .lst [v13, v14, xl[0]]) hl3)
        refine ⟨b, l3, _, rfl, hb.same (S12.trans C15), upd_same, by simp, by show 3 < 100000; decide, fun v15 H15 sm15 m15 => ?_⟩
        have C := C15.trans sm15
        have S15 := S12.trans C
        have low_in : ∀ z ∈ xl, ∃ kx e, TupI H12 z kx ∧ (kx, e) ∈ es := fun z hz => by
          obtain ⟨l, hll, tl⟩ := paired_memL hlow12 hz
          obtain ⟨ds, t', r1, r2⟩ := lo.run l hll
          obtain ⟨e, he, _⟩ := en.all ds t' r1
          exact ⟨l, e, tl, by rw [← r2]; exact he⟩
        have picked : ∃ kx e, TupI H12 v15 kx ∧ (kx, e) ∈ es := by
          simp only [List.mem_cons, List.not_mem_nil, or_false] at m15
          rcases m15 with rfl | rfl | rfl
          · obtain ⟨kx, hk, tk⟩ := paired_memL pys m13
            obtain ⟨p, hp, rfl⟩ := List.mem_map.mp (py.mem_iff.mp hk)
            exact ⟨p.1, p.2, tk, hp⟩
          · exact low_in _ m14
          · exact low_in _ (List.getElem_mem xl0)
        obtain ⟨kx, e, ⟨b15, rfl, h15⟩, hin⟩ := picked
        have h15' := C _ _ h15
        have key : H15 b15 = some (.tup ((kx.map Sum.inl : List Key).map kV)) := by
          rw [kV_inl]
          exact h15'
        have ge := getE_at en.nd hin
        obtain ⟨t2, run2, et2⟩ := en.run _ hin
        rcases esK_val (k := kx) hes with ⟨q1, q2⟩ | ⟨e', v16, q1, q2, ⟨b16, rfl, hb16⟩⟩
        · rw [ge] at q1
          cases q1
        rw [ge] at q1
        cases q1
        have D15 := ((sm10.trans sm11).trans sm12).trans C
        have l1 := ch.l1
        have l2 := ch.l2
        rw [List.length_take] at l1 l2
        have lxs := paired_len hxs
        have lys := paired_len hys
        have hp4' := D15 _ _ hp4
        refine ⟨_, rfl, .inl ⟨rfl, _, SqL.of hp4'⟩, _, rfl, _, rfl, d, _, rfl, .inr ⟨kvs, _, b15, .inl (C _ _ hdk), rfl, key, q2.symm⟩, p4, xs, _, rfl, rfl, hp4', by omega, ?_⟩
        have T16 := tp_lst (o := .lst (xs ++ [V.ref b16])) hp4'
        have S16 : Same H (upd H15 p4 (.lst (xs ++ [V.ref b16]))) := same_mut S15 n4
        have hp5' : upd H15 p4 (.lst (xs ++ [V.ref b16])) p5 = some (.lst ys) := by
          rw [upd_ne (Ne.symm p45)]
          exact D15 _ _ hp5
        refine ⟨_, rfl, .inl ⟨rfl, _, SqL.of hp5'⟩, _, rfl, p5, ys, .ref b15, rfl, rfl, hp5', by omega, ?_⟩
        have T17 := tp_lst (o := .lst (ys ++ [V.ref b15])) hp5'
        have S17 := same_mut (o := .lst (ys ++ [V.ref b15])) S16 n5
        have up : ∀ {v : V} {l : List Int}, TupI H15 v l → TupI (upd (upd H15 p4 (.lst (xs ++ [V.ref b16]))) p5 (.lst (ys ++ [V.ref b15]))) v l := fun h => (h.tp T16).tp T17
        have hk : t2.1 = kx := et2
        have lk : kx.length = W.kinds.length := by
          rw [← hk]
          exact (so.run wk run2).1
        have she : e.length ≤ 6000 := en.short _ hin
        have bk : Bd (i * 50000 + 9 + 8 * e.length) kx := by
          have z := Bd.run wk (addL_bd bd oA.2.2.1) run2
          rw [hk] at z
          exact z
        have ch2 := ch.snoc (n := n) (ds := e) (t := t2) (by rw [List.length_take, Nat.min_eq_left (Nat.le_of_lt hi')]; exact hh) n0 gA run2
        rw [hk] at ch2
        refine ⟨.ref b15, _, _, _, _, _, xs ++ [.ref b16], dss ++ [e], ys ++ [.ref b15], chs ++ [kx], kx, rfl, S17, ?_, ?_, Paired.snoc (Paired.mapP hxs fun _ _ r => up (r.tp (tp_same D15))) (up ⟨b16, rfl, C _ _ hb16⟩), upd_same, Paired.snoc (Paired.mapP hys fun _ _ r => up (r.tp (tp_same D15))) (up ⟨b15, rfl, h15'⟩), up ⟨b15, rfl, h15'⟩, ?_, ?_, bd_mono bk (by omega), lk, ?_, ?_⟩
        · exact T17.1 _ _ (T16.1 _ _ (D15 _ _ hp3))
        · rw [upd_ne p45]
          exact upd_same
        · rw [List.take_succ, hn]
          exact ch2
        · rw [List.getElem?_cons_succ, List.getElem?_append_right (by omega), show i - chs.length = 0 by omega]
          rfl
        · intro ds hds
          rcases List.mem_append.mp hds with z | z
          · exact ld ds z
          · rw [List.mem_singleton.mp z]
            exact she
        · intro c hc
          rcases List.mem_append.mp hc with z | z
          · exact lc c z
          · rw [List.mem_singleton.mp z]
            exact ⟨bd_mono bk (by omega), lk⟩
    · clear S7 hp37 hp47 hp57 h67
      rintro σ H8 ⟨hv, o7, o8, o9, o10, o11, xs, dss, ys, chs, h, rfl, sm, hp3, hp4, hxs, hp5, hys, th, ch, hh, bd, lh, ld, lc⟩
      rw [List.length_map, List.take_length] at ch
      have hs0 : SnAt H (.ref as) S := ⟨as, _, rfl, hsa, ⟨pa, xsA, rfl, hpa, pp⟩⟩
      have l2 := ch.l2
      refine ⟨_, rfl, _, rfl, _, rfl, _, rfl, wv, .ref as, .ref p3, p4, W, S, ns, dss, chs, xs, rfl, hw.tp (tp_same sm), wk, hs0.tp (tp_same sm), sok, ⟨p3, rfl, hp3⟩, hp4, hxs, ch, by omega, fun v9 H9 sm9 e9 => ?_⟩
      obtain ⟨p9, ys9, rfl, hp9, hys9⟩ := e9
      have S9 := sm.trans sm9
      refine ⟨_, rfl, _, rfl, _, rfl, _, rfl, wv, .ref as, .ref p3, p4, W, S, ns, dss, chs, xs, rfl, hw.tp (tp_same S9), wk, hs0.tp (tp_same S9), sok, ⟨p3, rfl, sm9 _ _ hp3⟩, sm9 _ _ hp4, Paired.mapP hxs fun _ _ r => r.tp (tp_same sm9), ch, by omega, fun ds hds => by have := ld ds hds; omega, fun v10 H10 sm10 e10 => ?_⟩
      have e10' : v10 = .bl true := e10
      subst e10'
      refine ⟨sz2, fun l1 hl1 => ⟨_, rfl, sz2, fun l2 hl2 => ?_⟩⟩
      have C1 := same_new (o := .lst [V.ref p9, V.bl true]) hl1
      have C2 := same_new (o := .lst [V.ref p5, V.bl true]) hl2
      have D9 := sm10.trans (C1.trans C2)
      have D8 := sm9.trans D9
      have S12 := S9.trans D9
      have dy9 := Paired.mapP hys9 fun _ _ r => TupI.tp r (tp_same D9)
      have dy8 := Paired.mapP hys fun _ _ r => TupI.tp r (tp_same D8)
      have fin : Fits 3000 (.list (chs.map dI)) := fits_lst (n := 99) (fun d hd => by
        obtain ⟨c, hc, rfl⟩ := List.mem_map.mp hd
        obtain ⟨c1, c2⟩ := lc c hc
        have w8 := wk.2.1
        exact fits_I c1 (by decide) (by omega)) (by rw [List.length_map]; omega)
      have lin : Lt 3 (.list (chs.map dI)) := (lt_lst (n := 1) fun d hd => by
        obtain ⟨c, hc, rfl⟩ := List.mem_map.mp hd
        exact lt_I c).mono (by decide)
      refine ⟨l1, l2, .list [.list (chs.map dI), .bool true], rfl, .lst (SqL.of (C2 _ _ upd_same)) (.cons (.lst (SqL.of (D9 _ _ hp9)) (dpAll_paired (fun _ _ q => dp_I q) dy9)) (.cons (.bl true) .nil)), .lst (SqL.of upd_same) (.cons (.lst (SqL.of (D8 _ _ hp5)) (dpAll_paired (fun _ _ q => dp_I q) dy8)) (.cons (.bl true) .nil)), (lt_lst (n := 3) fun e he => ?_), (fits_lst (n := 3000) (fun e he => ?_) (by show (3000 + 2) * 2 + 3 ≤ 100000; decide)), fun v13 H13 sm13 e13 => k _ _ (S12.trans sm13) e13⟩
      · simp only [List.mem_cons, List.not_mem_nil, or_false] at he
        rcases he with rfl | rfl
        · exact lin
        · exact (lt_bool _).mono (by decide)
      · simp only [List.mem_cons, List.not_mem_nil, or_false] at he
        rcases he with rfl | rfl
        · exact fin
        · exact fits_true.mono (by decide)
end
end K11

set_option Elab.async false
set_option linter.all false
set_option maxRecDepth 100000
set_option maxHeartbeats 1000000
namespace K11
open PySem PySem.Spec PyProof.Rows L2
abbrev slaw : Stmt := top 61
abbrev N_law : List Str := ["_law_script", "_law_bag_here", "_law_sizes", "_law_works_here"]
theorem sc_law : FnScope N_law ["_law_script"] (defScope slaw) := ⟨rfl, rfl, rfl, by decide +kernel, rfl, by decide +kernel, by decide +kernel⟩
theorem st_law (x0 : V) : L2.start N_law [x0] = [some x0, none, none, none] := rfl
section
variable {P : Program} {w : World} {K : PySem.W.Frag} {mg : Str → Option Value} {base : Heap} {f C : Addr} {fd : FuncData}
def spLaw (K : PySem.W.Frag) : Sp := fun vs H Q _ => ∃ l, ∃ ns : List Int, vs = [.ref l] ∧ SqL K H l (ns.map V.int) ∧ Ret H Q fun v _ => v = .bl true
def Sz (z : Int × Int × Int) : Prop := 1 ≤ z.1 ∧ z.1 ≤ 4 ∧ 0 ≤ z.2.1 ∧ z.2.1 ≤ 3 ∧ 0 ≤ z.2.2 ∧ z.2.2 ≤ 7
theorem ok_law (F : FnP K "law" slaw f fd) (B : Bt mg) (C_l_bag : Cl P w K mg base CX0 1 "_law_bag" ["_law_script"] (spBagN K)) (C_l_works : Cl P w K mg base CX0 4 "_law_works" ["_law_bag_here", "_law_kinds", "_law_hands", "_law_recipes"] spWorks)
    (C_l_sender : Cl P w K mg base CX0 5 "_law_sender" ["_law_bag_here", "_law_works_here", "_law_places", "_law_more"] spSender) (C_l_run_right : ClG P w K mg base CX0 7 "_law_run_right" ["_law_bag_here", "_law_works_here", "_law_sender_here"] spRunRight) :
    FnG P w K mg base CX0 8 f fd ["_law_script"] (spLaw K) := by
  refine fnG_ok F sc_law (fun vs H Q E h => ?_) (fun cdv A outer s H vs Q E hgd hr h => ?_)
  · obtain ⟨l, ns, rfl, _⟩ := h
    rfl
  · obtain ⟨l, ns, rfl, hl, k⟩ := h
    refine ⟨_, PSs.nox (pss_cons (ps_set (i := 1) sc_law.nd rfl (Or.inl rfl) (pe_c C_l_bag hr (by decide) (by rfl) (pa_cons (pv 0) pa_nil)))
      (pss_cons (ps_for PassesOwn.never rfl (pi_tup (pe_tup (pa_cons (pe_tup (pa_cons pe_int (pa_cons pe_int (pa_cons pe_int pa_nil)))) (pa_cons (pe_tup (pa_cons pe_int (pa_cons pe_int (pa_cons pe_int pa_nil)))) (pa_cons (pe_tup (pa_cons pe_int (pa_cons pe_int (pa_cons pe_int pa_nil)))) (pa_cons (pe_tup (pa_cons pe_int (pa_cons pe_int (pa_cons pe_int pa_nil)))) pa_nil)))))) (pg_name (i := 2) sc_law.nd rfl (Or.inl rfl))
        (pss_cons (ps_set (i := 3) sc_law.nd rfl (Or.inl rfl) (pe_c C_l_works hr (by decide) (by rfl) (pa_cons (pv 1) (pa_cons (pe_ix ix_tup (pv 2) pe_int (fun _ _ => rfl)) (pa_cons (pe_ix ix_tup (pv 2) pe_int (fun _ _ => rfl)) (pa_cons (pe_ix ix_tup (pv 2) pe_int (fun _ _ => rfl)) pa_nil))))))
      (pss_one (ps_if (pt_not (pt_val (pe_cG C_l_run_right hgd hr (by decide) (by rfl) (pa_cons (pv 1) (pa_cons (pv 3) (pa_cons (pe_c C_l_sender hr (by decide) (by rfl) (pa_cons (pv 1) (pa_cons (pv 3) (pa_cons pe_int (pa_cons pe_int pa_nil))))) pa_nil)))))) (pss_one (ps_ret pe_bl)) pss_nil))))
      (pss_one (ps_ret pe_bl)))), ?_⟩
    rw [st_law]
    refine ⟨_, rfl, l, ns, rfl, hl, fun v1 H1 sm1 hb => ?_⟩
    refine ⟨by show 3 ≤ sizeLine; decide, fun a1 h1 => ⟨by show 3 ≤ sizeLine; decide, fun a2 h2 => ⟨by show 3 ≤ sizeLine; decide, fun a3 h3 => ⟨by show 3 ≤ sizeLine; decide, fun a4 h4 => ⟨by show 4 ≤ sizeLine; decide, fun a5 h5 => ?_⟩⟩⟩⟩⟩
    refine ⟨a5, rfl, ⟨_, SqT.of upd_same⟩, ?_⟩
    have B1 := same_new (o := .tup [V.int 2, V.int 2, V.int 4]) h1
    have B2 := same_new (o := .tup [V.int 3, V.int 2, V.int 5]) h2
    have B3 := same_new (o := .tup [V.int 4, V.int 2, V.int 6]) h3
    have B4 := same_new (o := .tup [V.int 1, V.int 1, V.int 3]) h4
    have B5 := same_new (o := .tup [V.ref a1, V.ref a2, V.ref a3, V.ref a4]) h5
    have four : ∀ z ∈ [V.ref a1, V.ref a2, V.ref a3, V.ref a4], ∃ q : Addr, ∃ n : Int × Int × Int, z = .ref q ∧ upd (upd (upd (upd (upd H1 a1 (.tup [V.int 2, V.int 2, V.int 4])) a2 (.tup [V.int 3, V.int 2, V.int 5])) a3 (.tup [V.int 4, V.int 2, V.int 6])) a4 (.tup [V.int 1, V.int 1, V.int 3])) a5 (.tup [V.ref a1, V.ref a2, V.ref a3, V.ref a4]) q = some (.tup [.int n.1, .int n.2.1, .int n.2.2]) ∧ Sz n := fun z hz => by
      simp only [List.mem_cons, List.not_mem_nil, or_false] at hz
      rcases hz with rfl | rfl | rfl | rfl
      · exact ⟨a1, (2, 2, 4), rfl, B5 _ _ (B4 _ _ (B3 _ _ (B2 _ _ upd_same))), by unfold Sz; decide⟩
      · exact ⟨a2, (3, 2, 5), rfl, B5 _ _ (B4 _ _ (B3 _ _ upd_same)), by unfold Sz; decide⟩
      · exact ⟨a3, (4, 2, 6), rfl, B5 _ _ (B4 _ _ upd_same), by unfold Sz; decide⟩
      · exact ⟨a4, (1, 1, 3), rfl, B5 _ _ upd_same, by unfold Sz; decide⟩
    have BB := (((B1.trans B2).trans B3).trans B4).trans B5
    have h0 : upd (upd (upd (upd (upd H1 a1 (.tup [V.int 2, V.int 2, V.int 4])) a2 (.tup [V.int 3, V.int 2, V.int 5])) a3 (.tup [V.int 4, V.int 2, V.int 6])) a4 (.tup [V.int 1, V.int 1, V.int 3])) a5 (.tup [V.ref a1, V.ref a2, V.ref a3, V.ref a4]) a5 = some (.tup [V.ref a1, V.ref a2, V.ref a3, V.ref a4]) := upd_same
    generalize upd (upd (upd (upd (upd H1 a1 (.tup [V.int 2, V.int 2, V.int 4])) a2 (.tup [V.int 3, V.int 2, V.int 5])) a3 (.tup [V.int 4, V.int 2, V.int 6])) a4 (.tup [V.int 1, V.int 1, V.int 3])) a5 (.tup [V.ref a1, V.ref a2, V.ref a3, V.ref a4]) = H6 at four BB h0
    have hb6 : BagAt H6 v1 := BagAt.same hb BB
    refine for_it (walk_tup (xs := [V.ref a1, V.ref a2, V.ref a3, V.ref a4])) (fun i σ H' => ∃ o2 o3, σ = [some (.ref l), some v1, o2, o3] ∧ Same H6 H') ?_ ?_ ?_ ?_
    · exact ⟨_, _, rfl, Same.refl _⟩
    · rintro i σ H' hi ⟨_, _, _, sm⟩
      exact SqT.of (sm _ _ h0)
    · rintro i z σ H7 H8 hi ⟨o2, o3, rfl, sm⟩ ⟨rfl, hz⟩
      obtain ⟨q, n, rfl, hq, z1, z2, z3, z4, z5, z6⟩ := four z (List.mem_of_getElem? hz)
      have hq7 := sm _ _ hq
      refine ⟨_, rfl, _, rfl, q, _, 0, _, rfl, rfl, SqT.of hq7, rfl, _, rfl, q, _, 1, _, rfl, rfl, SqT.of hq7, rfl, _, rfl, q, _, 2, _, rfl, rfl, SqT.of hq7, rfl, ?_⟩
      refine ⟨v1, n.1, n.2.1, n.2.2, rfl, hb6.same sm, z1, z2, z3, z4, z5, z6, fun v9 H9 sm9 e9 => ?_⟩
      obtain ⟨W, hw, wk⟩ := e9
      have S9 := sm.trans sm9
      refine ⟨_, rfl, _, rfl, _, rfl, _, rfl, v1, v9, W, 4, 4, rfl, hb6.same S9, hw, wk, by decide, by decide, by decide, by decide, fun v10 H10 sm10 e10 => ?_⟩
      obtain ⟨S, hs, sok⟩ := e10
      have S10 := S9.trans sm10
      refine ⟨v1, v9, v10, W, S, rfl, hb6.same S10, hw.tp (tp_same sm10), wk, hs, sok, fun v11 H11 sm11 e11 => ⟨true, e11, ?_⟩⟩
      exact ⟨_, _, rfl, S10.trans sm11⟩
    · rintro σ H7 ⟨o2, o3, rfl, sm⟩
      exact k _ _ ((sm1.trans BB).trans sm) rfl
end
end K11

set_option Elab.async false
set_option linter.all false
set_option maxRecDepth 100000
set_option maxHeartbeats 0
namespace K11
open PySem PySem.Spec PyProof.Rows L2

def dis_integer : He.DefD := ⟨("is_integer", none), "is_integer", "is_integer", defArgs sis_integer, defBody sis_integer, defScope sis_integer, [], []⟩
def dis_from : He.DefD := ⟨("is_from", none), "is_from", "is_from", defArgs sis_from, defBody sis_from, defScope sis_from, [], []⟩
def dis_index : He.DefD := ⟨("is_index", none), "is_index", "is_index", defArgs sis_index, defBody sis_index, defScope sis_index, [], []⟩
def dis_deeds : He.DefD := ⟨("is_deeds", none), "is_deeds", "is_deeds", defArgs sis_deeds, defBody sis_deeds, defScope sis_deeds, [], []⟩
def dadded : He.DefD := ⟨("added", none), "added", "added", defArgs sadded, defBody sadded, defScope sadded, [], []⟩
def dafter_deed : He.DefD := ⟨("after_deed", none), "after_deed", "after_deed", defArgs safter_deed, defBody safter_deed, defScope safter_deed, [], []⟩
def dfirst_failed : He.DefD := ⟨("first_failed", none), "first_failed", "first_failed", defArgs sfirst_failed, defBody sfirst_failed, defScope sfirst_failed, [], []⟩
def dis_play : He.DefD := ⟨("is_play", none), "is_play", "is_play", defArgs sis_play, defBody sis_play, defScope sis_play, [], []⟩
def dafter : He.DefD := ⟨("after", none), "after", "after", defArgs safter, defBody safter, defScope safter, [], []⟩
def dcan_do : He.DefD := ⟨("can_do", none), "can_do", "can_do", defArgs scan_do, defBody scan_do, defScope scan_do, [], []⟩
def dno_heaps : He.DefD := ⟨("no_heaps", none), "no_heaps", "no_heaps", defArgs sno_heaps, defBody sno_heaps, defScope sno_heaps, [], []⟩
def dplayed : He.DefD := ⟨("played", none), "played", "played", defArgs splayed, defBody splayed, defScope splayed, [], []⟩
def dfits : He.DefD := ⟨("fits", none), "fits", "fits", defArgs sfits, defBody sfits, defScope sfits, [], []⟩
def dstates_behind : He.DefD := ⟨("states_behind", none), "states_behind", "states_behind", defArgs sstates_behind, defBody sstates_behind, defScope sstates_behind, [], []⟩
def dends_of : He.DefD := ⟨("ends_of", none), "ends_of", "ends_of", defArgs sends_of, defBody sends_of, defScope sends_of, [], []⟩
def dlow_ends : He.DefD := ⟨("low_ends", none), "low_ends", "low_ends", defArgs slow_ends, defBody slow_ends, defScope slow_ends, [], []⟩
def dfirst_deed : He.DefD := ⟨("first_deed", none), "first_deed", "first_deed", defArgs sfirst_deed, defBody sfirst_deed, defScope sfirst_deed, [], []⟩
def ddeeds_by : He.DefD := ⟨("deeds_by", none), "deeds_by", "deeds_by", defArgs sdeeds_by, defBody sdeeds_by, defScope sdeeds_by, [], []⟩
def d_law_bag : He.DefD := ⟨("_law_bag", none), "_law_bag", "_law_bag", defArgs s_law_bag, defBody s_law_bag, defScope s_law_bag, [], []⟩
def d_law_take : He.DefD := ⟨("_law_take", none), "_law_take", "_law_take", defArgs s_law_take, defBody s_law_take, defScope s_law_take, [], []⟩
def d_law_one : He.DefD := ⟨("_law_one", none), "_law_one", "_law_one", defArgs s_law_one, defBody s_law_one, defScope s_law_one, [], []⟩
def d_law_mixed : He.DefD := ⟨("_law_mixed", none), "_law_mixed", "_law_mixed", defArgs s_law_mixed, defBody s_law_mixed, defScope s_law_mixed, [], []⟩
def d_law_alike : He.DefD := ⟨("_law_alike", none), "_law_alike", "_law_alike", defArgs s_law_alike, defBody s_law_alike, defScope s_law_alike, [], []⟩
def d_law_sum : He.DefD := ⟨("_law_sum", none), "_law_sum", "_law_sum", defArgs s_law_sum, defBody s_law_sum, defScope s_law_sum, [], []⟩
def d_law_less : He.DefD := ⟨("_law_less", none), "_law_less", "_law_less", defArgs s_law_less, defBody s_law_less, defScope s_law_less, [], []⟩
def d_law_within : He.DefD := ⟨("_law_within", none), "_law_within", "_law_within", defArgs s_law_within, defBody s_law_within, defScope s_law_within, [], []⟩
def d_law_names : He.DefD := ⟨("_law_names", none), "_law_names", "_law_names", defArgs s_law_names, defBody s_law_names, defScope s_law_names, [], []⟩
def d_law_recipe : He.DefD := ⟨("_law_recipe", none), "_law_recipe", "_law_recipe", defArgs s_law_recipe, defBody s_law_recipe, defScope s_law_recipe, [], []⟩
def d_law_out : He.DefD := ⟨("_law_out", none), "_law_out", "_law_out", defArgs s_law_out, defBody s_law_out, defScope s_law_out, [], []⟩
def d_law_works : He.DefD := ⟨("_law_works", none), "_law_works", "_law_works", defArgs s_law_works, defBody s_law_works, defScope s_law_works, [], []⟩
def d_law_nothing : He.DefD := ⟨("_law_nothing", none), "_law_nothing", "_law_nothing", defArgs s_law_nothing, defBody s_law_nothing, defScope s_law_nothing, [], []⟩
def d_law_done : He.DefD := ⟨("_law_done", none), "_law_done", "_law_done", defArgs s_law_done, defBody s_law_done, defScope s_law_done, [], []⟩
def d_law_after : He.DefD := ⟨("_law_after", none), "_law_after", "_law_after", defArgs s_law_after, defBody s_law_after, defScope s_law_after, [], []⟩
def d_law_can : He.DefD := ⟨("_law_can", none), "_law_can", "_law_can", defArgs s_law_can, defBody s_law_can, defScope s_law_can, [], []⟩
def d_law_some_deeds : He.DefD := ⟨("_law_some_deeds", none), "_law_some_deeds", "_law_some_deeds", defArgs s_law_some_deeds, defBody s_law_some_deeds, defScope s_law_some_deeds, [], []⟩
def d_law_wants : He.DefD := ⟨("_law_wants", none), "_law_wants", "_law_wants", defArgs s_law_wants, defBody s_law_wants, defScope s_law_wants, [], []⟩
def d_law_planted : He.DefD := ⟨("_law_planted", none), "_law_planted", "_law_planted", defArgs s_law_planted, defBody s_law_planted, defScope s_law_planted, [], []⟩
def d_law_part : He.DefD := ⟨("_law_part", none), "_law_part", "_law_part", defArgs s_law_part, defBody s_law_part, defScope s_law_part, [], []⟩
def d_law_arrow : He.DefD := ⟨("_law_arrow", none), "_law_arrow", "_law_arrow", defArgs s_law_arrow, defBody s_law_arrow, defScope s_law_arrow, [], []⟩
def d_law_links : He.DefD := ⟨("_law_links", none), "_law_links", "_law_links", defArgs s_law_links, defBody s_law_links, defScope s_law_links, [], []⟩
def d_law_held_sender : He.DefD := ⟨("_law_held_sender", none), "_law_held_sender", "_law_held_sender", defArgs s_law_held_sender, defBody s_law_held_sender, defScope s_law_held_sender, [], []⟩
def d_law_any_sender : He.DefD := ⟨("_law_any_sender", none), "_law_any_sender", "_law_any_sender", defArgs s_law_any_sender, defBody s_law_any_sender, defScope s_law_any_sender, [], []⟩
def d_law_bent_sender : He.DefD := ⟨("_law_bent_sender", none), "_law_bent_sender", "_law_bent_sender", defArgs s_law_bent_sender, defBody s_law_bent_sender, defScope s_law_bent_sender, [], []⟩
def d_law_sender : He.DefD := ⟨("_law_sender", none), "_law_sender", "_law_sender", defArgs s_law_sender, defBody s_law_sender, defScope s_law_sender, [], []⟩
def d_law_arrows_from : He.DefD := ⟨("_law_arrows_from", none), "_law_arrows_from", "_law_arrows_from", defArgs s_law_arrows_from, defBody s_law_arrows_from, defScope s_law_arrows_from, [], []⟩
def d_law_run : He.DefD := ⟨("_law_run", none), "_law_run", "_law_run", defArgs s_law_run, defBody s_law_run, defScope s_law_run, [], []⟩
def d_law_deeds_by : He.DefD := ⟨("_law_deeds_by", none), "_law_deeds_by", "_law_deeds_by", defArgs s_law_deeds_by, defBody s_law_deeds_by, defScope s_law_deeds_by, [], []⟩
def d_law_told_ends : He.DefD := ⟨("_law_told_ends", none), "_law_told_ends", "_law_told_ends", defArgs s_law_told_ends, defBody s_law_told_ends, defScope s_law_told_ends, [], []⟩
def d_law_ends_right : He.DefD := ⟨("_law_ends_right", none), "_law_ends_right", "_law_ends_right", defArgs s_law_ends_right, defBody s_law_ends_right, defScope s_law_ends_right, [], []⟩
def d_law_run_right : He.DefD := ⟨("_law_run_right", none), "_law_run_right", "_law_run_right", defArgs s_law_run_right, defBody s_law_run_right, defScope s_law_run_right, [], []⟩
def dlaw : He.DefD := ⟨("law", none), "law", "law", defArgs slaw, defBody slaw, defScope slaw, [], []⟩
def dinit : He.DefD := ⟨("TooMany", some "__init__"), "__init__", "TooMany.__init__", defArgs sinit, defBody sinit, defScope sinit, [], []⟩
def fn : List He.DefD := [dis_integer, dis_from, dis_index, dis_deeds, dadded, dafter_deed, dfirst_failed, dis_play, dafter, dcan_do, dno_heaps, dplayed, dfits, dstates_behind, dends_of, dlow_ends, dfirst_deed, ddeeds_by, d_law_bag, d_law_take, d_law_one, d_law_mixed, d_law_alike, d_law_sum, d_law_less, d_law_within, d_law_names, d_law_recipe, d_law_out, d_law_works, d_law_nothing, d_law_done, d_law_after, d_law_can, d_law_some_deeds, d_law_wants, d_law_planted, d_law_part, d_law_arrow, d_law_links, d_law_held_sender, d_law_any_sender, d_law_bent_sender, d_law_sender, d_law_arrows_from, d_law_run, d_law_deeds_by, d_law_told_ends, d_law_ends_right, d_law_run_right, dlaw, dinit]
def fa : List He.Fa := [.glo "is_integer", .glo "is_from", .glo "is_index", .glo "is_deeds", .glo "added", .glo "after_deed", .glo "first_failed", .glo "is_play", .glo "after", .glo "can_do", .glo "no_heaps", .glo "played", .glo "fits", .glo "states_behind", .glo "ends_of", .glo "low_ends", .glo "first_deed", .glo "deeds_by", .glo "_law_bag", .glo "_law_take", .glo "_law_one", .glo "_law_mixed", .glo "_law_alike", .glo "_law_sum", .glo "_law_less", .glo "_law_within", .glo "_law_names", .glo "_law_recipe", .glo "_law_out", .glo "_law_works", .glo "_law_nothing", .glo "_law_done", .glo "_law_after", .glo "_law_can", .glo "_law_some_deeds", .glo "_law_wants", .glo "_law_planted", .glo "_law_part", .glo "_law_arrow", .glo "_law_links", .glo "_law_held_sender", .glo "_law_any_sender", .glo "_law_bent_sender", .glo "_law_sender", .glo "_law_arrows_from", .glo "_law_run", .glo "_law_deeds_by", .glo "_law_told_ends", .glo "_law_ends_right", .glo "_law_run_right", .glo "law", .free "isinstance", .free "int", .free "bool", .free "tuple", .free "all", .free "zip", .free "any", .free "enumerate", .free "list", .free "len", .free "range", .free "sorted", .free "repr", .free "min", .free "max", .free "abs", .int "MOST_ENDS" 5000, .int "MOST_DEEDS" 1000, .glo "TooMany", .noat "TooMany" "most", .meth "TooMany" "__init__", .exm "TooMany" "TooMany" true, .keep "TooMany"]
def nm1 : List Str := ["HeapError", "CannotBeDone", "TooMany", "MOST_ENDS", "MOST_DEEDS", "is_integer", "is_from", "is_index", "is_deeds", "added", "after_deed", "first_failed", "is_play", "after", "can_do", "no_heaps", "played", "fits", "states_behind", "ends_of", "low_ends", "first_deed", "deeds_by", "_law_bag", "_law_take", "_law_one", "_law_mixed", "_law_alike", "_law_sum", "_law_less"]
def nm2 : List Str := ["_law_within", "_law_names", "_law_recipe", "_law_out", "_law_works", "_law_nothing", "_law_done", "_law_after", "_law_can", "_law_some_deeds", "_law_wants", "_law_planted", "_law_part", "_law_arrow", "_law_links", "_law_held_sender", "_law_any_sender", "_law_bent_sender", "_law_sender", "_law_arrows_from", "_law_run", "_law_deeds_by", "_law_told_ends", "_law_ends_right", "_law_run_right"]
abbrev R : PySem.W.OpenRow := PySem.W.OpenLaw.row PySem.Challenge.rw_neverheaps_k11_whole_ends_and_plays
def oexB (K : PySem.W.Frag) (C : Addr) : Bool := match K.lookup C with
  | some ⟨.type "type", _, .cls cd, sl⟩ => (match cd.mro, sl.toList with
    | .ref C' :: bm, [_, _, _, _, some (.builtin n), _] => C' == C && n == "ValueError.__new__" && !cd.hasDel && cd.hasDict && PySem.HandSPX.refsVE bm
    | _, _ => false)
  | _ => false
def ex (K : PySem.W.Frag) : Bool := oexB K (He.ga K "TooMany") && (He.eqO (PySem.W.findIn K (.ref (He.ga K "TooMany")) "__setattr__") (some (some (.builtin "object.__setattr__"))) &&
  (decide (PySem.W.subIn K (.ref (He.ga K "TooMany")) (.type "BaseException") = some true) && (decide (PySem.W.typeIn K (.ref (He.ga K "TooMany")) = some (.type "type")) && PySem.W.keepIn K (.ref (He.ga K "TooMany")))))
abbrev hk : PySem.W.Hook := He.hookX 5 fa fn [] [] ex
def ob (s : PySem.W.SharedT) : He.AlX := He.obsX 5 fa fn [] [] ex (HandSHeadRun.getT s)
theorem ob_eq (s : PySem.W.SharedT) : ob s = hk.obs s.abs := He.obsX_eq (HandSHeadRun.getT_eq s)
theorem run (w : World) : HandSHeadRun.RunEq R (PySem.W.view R.prog [61]) hk ob 3000 (nm1 ++ nm2) w := by
  intro os
  kernel_rfl
end K11

set_option Elab.async false
set_option linter.all false
set_option maxRecDepth 100000
set_option maxHeartbeats 4000000
namespace K11
open PySem PySem.Spec PyProof.Rows L2
theorem oex_of {K : PySem.W.Frag} (q : ex K = true) : OexC K (He.ga K "TooMany") := by
  unfold ex at q
  obtain ⟨q1, q⟩ := He.ba q
  obtain ⟨q2, q⟩ := He.ba q
  obtain ⟨q3, q⟩ := He.ba q
  obtain ⟨q4, q5⟩ := He.ba q
  refine ⟨?_, He.eqO_ok q2, of_decide_eq_true q3, of_decide_eq_true q4, q5⟩
  generalize He.ga K "TooMany" = C at q1
  unfold oexB at q1
  split at q1
  · rename_i dd cd sl ho
    split at q1
    · rename_i C1 bm k0 k1 k2 k3 n k5 hm hs
      simp only [Bool.and_eq_true, beq_iff_eq, Bool.not_eq_true'] at q1
      obtain ⟨⟨⟨⟨rfl, rfl⟩, h1⟩, h2⟩, h3⟩ := q1
      obtain ⟨nm, bs, mro, ns, qn, hd, sn, sub, ab, col, del⟩ := cd
      dsimp only at hm h1 h2
      subst hm h1 h2
      have hsl : sl = #[k0, k1, k2, k3, some (.builtin "ValueError.__new__"), k5] := by
        obtain ⟨l⟩ := sl
        simp only at hs
        rw [hs]
      subst hsl
      exact ⟨nm, qn, ns, bs, bm, sn, sub, ab, col, dd, k0, k1, k2, k3, k5, ho, h3⟩
    · cases q1
  · cases q1
theorem facts {P : Program} {w : World} {K : PySem.W.Frag} {h : Heap} {mg : Str → Option Value} {f : Addr} (X : K.In h) (G : h.Ns mainGlobals mg) (hfa : mg ("law" : Str) = some (.ref f)) (c : He.SaysX fa fn [] [] ex w h K) :
    ∃ fd : FuncData, (∀ (s : Shared) (v : Value), BindsTo s fd ⟨[v], []⟩ [("_law_script", v)]) ∧ ∀ base : Heap, K.In base → base.Ns mainGlobals mg → FnG P w K mg base CX0 8 f fd ["_law_script"] (spLaw K) := by
  have cd := c.t.d
  obtain ⟨d_is_integer, F_is_integer⟩ := cd.def_ 0 (d := dis_integer) rfl
  obtain ⟨d_is_from, F_is_from⟩ := cd.def_ 1 (d := dis_from) rfl
  obtain ⟨d_is_index, F_is_index⟩ := cd.def_ 2 (d := dis_index) rfl
  obtain ⟨d_is_deeds, F_is_deeds⟩ := cd.def_ 3 (d := dis_deeds) rfl
  obtain ⟨d_added, F_added⟩ := cd.def_ 4 (d := dadded) rfl
  obtain ⟨d_after_deed, F_after_deed⟩ := cd.def_ 5 (d := dafter_deed) rfl
  obtain ⟨d_first_failed, F_first_failed⟩ := cd.def_ 6 (d := dfirst_failed) rfl
  obtain ⟨d_is_play, F_is_play⟩ := cd.def_ 7 (d := dis_play) rfl
  obtain ⟨d_after, F_after⟩ := cd.def_ 8 (d := dafter) rfl
  obtain ⟨d_can_do, F_can_do⟩ := cd.def_ 9 (d := dcan_do) rfl
  obtain ⟨d_no_heaps, F_no_heaps⟩ := cd.def_ 10 (d := dno_heaps) rfl
  obtain ⟨d_played, F_played⟩ := cd.def_ 11 (d := dplayed) rfl
  obtain ⟨d_fits, F_fits⟩ := cd.def_ 12 (d := dfits) rfl
  obtain ⟨d_states_behind, F_states_behind⟩ := cd.def_ 13 (d := dstates_behind) rfl
  obtain ⟨d_ends_of, F_ends_of⟩ := cd.def_ 14 (d := dends_of) rfl
  obtain ⟨d_low_ends, F_low_ends⟩ := cd.def_ 15 (d := dlow_ends) rfl
  obtain ⟨d_first_deed, F_first_deed⟩ := cd.def_ 16 (d := dfirst_deed) rfl
  obtain ⟨d_deeds_by, F_deeds_by⟩ := cd.def_ 17 (d := ddeeds_by) rfl
  obtain ⟨d__law_bag, F__law_bag⟩ := cd.def_ 18 (d := d_law_bag) rfl
  obtain ⟨d__law_take, F__law_take⟩ := cd.def_ 19 (d := d_law_take) rfl
  obtain ⟨d__law_one, F__law_one⟩ := cd.def_ 20 (d := d_law_one) rfl
  obtain ⟨d__law_mixed, F__law_mixed⟩ := cd.def_ 21 (d := d_law_mixed) rfl
  obtain ⟨d__law_alike, F__law_alike⟩ := cd.def_ 22 (d := d_law_alike) rfl
  obtain ⟨d__law_sum, F__law_sum⟩ := cd.def_ 23 (d := d_law_sum) rfl
  obtain ⟨d__law_less, F__law_less⟩ := cd.def_ 24 (d := d_law_less) rfl
  obtain ⟨d__law_within, F__law_within⟩ := cd.def_ 25 (d := d_law_within) rfl
  obtain ⟨d__law_names, F__law_names⟩ := cd.def_ 26 (d := d_law_names) rfl
  obtain ⟨d__law_recipe, F__law_recipe⟩ := cd.def_ 27 (d := d_law_recipe) rfl
  obtain ⟨d__law_out, F__law_out⟩ := cd.def_ 28 (d := d_law_out) rfl
  obtain ⟨d__law_works, F__law_works⟩ := cd.def_ 29 (d := d_law_works) rfl
  obtain ⟨d__law_nothing, F__law_nothing⟩ := cd.def_ 30 (d := d_law_nothing) rfl
  obtain ⟨d__law_done, F__law_done⟩ := cd.def_ 31 (d := d_law_done) rfl
  obtain ⟨d__law_after, F__law_after⟩ := cd.def_ 32 (d := d_law_after) rfl
  obtain ⟨d__law_can, F__law_can⟩ := cd.def_ 33 (d := d_law_can) rfl
  obtain ⟨d__law_some_deeds, F__law_some_deeds⟩ := cd.def_ 34 (d := d_law_some_deeds) rfl
  obtain ⟨d__law_wants, F__law_wants⟩ := cd.def_ 35 (d := d_law_wants) rfl
  obtain ⟨d__law_planted, F__law_planted⟩ := cd.def_ 36 (d := d_law_planted) rfl
  obtain ⟨d__law_part, F__law_part⟩ := cd.def_ 37 (d := d_law_part) rfl
  obtain ⟨d__law_arrow, F__law_arrow⟩ := cd.def_ 38 (d := d_law_arrow) rfl
  obtain ⟨d__law_links, F__law_links⟩ := cd.def_ 39 (d := d_law_links) rfl
  obtain ⟨d__law_held_sender, F__law_held_sender⟩ := cd.def_ 40 (d := d_law_held_sender) rfl
  obtain ⟨d__law_any_sender, F__law_any_sender⟩ := cd.def_ 41 (d := d_law_any_sender) rfl
  obtain ⟨d__law_bent_sender, F__law_bent_sender⟩ := cd.def_ 42 (d := d_law_bent_sender) rfl
  obtain ⟨d__law_sender, F__law_sender⟩ := cd.def_ 43 (d := d_law_sender) rfl
  obtain ⟨d__law_arrows_from, F__law_arrows_from⟩ := cd.def_ 44 (d := d_law_arrows_from) rfl
  obtain ⟨d__law_run, F__law_run⟩ := cd.def_ 45 (d := d_law_run) rfl
  obtain ⟨d__law_deeds_by, F__law_deeds_by⟩ := cd.def_ 46 (d := d_law_deeds_by) rfl
  obtain ⟨d__law_told_ends, F__law_told_ends⟩ := cd.def_ 47 (d := d_law_told_ends) rfl
  obtain ⟨d__law_ends_right, F__law_ends_right⟩ := cd.def_ 48 (d := d_law_ends_right) rfl
  obtain ⟨d__law_run_right, F__law_run_right⟩ := cd.def_ 49 (d := d_law_run_right) rfl
  obtain ⟨d_law, F_law⟩ := cd.def_ 50 (d := dlaw) rfl
  obtain ⟨d_init, F_init⟩ := cd.def_ 51 (d := dinit) rfl
  have g_is_integer := He.glo_ok X G (cd.fact 0 (f := .glo "is_integer") rfl)
  have g_is_from := He.glo_ok X G (cd.fact 1 (f := .glo "is_from") rfl)
  have g_is_index := He.glo_ok X G (cd.fact 2 (f := .glo "is_index") rfl)
  have g_is_deeds := He.glo_ok X G (cd.fact 3 (f := .glo "is_deeds") rfl)
  have g_added := He.glo_ok X G (cd.fact 4 (f := .glo "added") rfl)
  have g_after_deed := He.glo_ok X G (cd.fact 5 (f := .glo "after_deed") rfl)
  have g_first_failed := He.glo_ok X G (cd.fact 6 (f := .glo "first_failed") rfl)
  have g_is_play := He.glo_ok X G (cd.fact 7 (f := .glo "is_play") rfl)
  have g_after := He.glo_ok X G (cd.fact 8 (f := .glo "after") rfl)
  have g_can_do := He.glo_ok X G (cd.fact 9 (f := .glo "can_do") rfl)
  have g_no_heaps := He.glo_ok X G (cd.fact 10 (f := .glo "no_heaps") rfl)
  have g_played := He.glo_ok X G (cd.fact 11 (f := .glo "played") rfl)
  have g_fits := He.glo_ok X G (cd.fact 12 (f := .glo "fits") rfl)
  have g_states_behind := He.glo_ok X G (cd.fact 13 (f := .glo "states_behind") rfl)
  have g_ends_of := He.glo_ok X G (cd.fact 14 (f := .glo "ends_of") rfl)
  have g_low_ends := He.glo_ok X G (cd.fact 15 (f := .glo "low_ends") rfl)
  have g_first_deed := He.glo_ok X G (cd.fact 16 (f := .glo "first_deed") rfl)
  have g_deeds_by := He.glo_ok X G (cd.fact 17 (f := .glo "deeds_by") rfl)
  have g__law_bag := He.glo_ok X G (cd.fact 18 (f := .glo "_law_bag") rfl)
  have g__law_take := He.glo_ok X G (cd.fact 19 (f := .glo "_law_take") rfl)
  have g__law_one := He.glo_ok X G (cd.fact 20 (f := .glo "_law_one") rfl)
  have g__law_mixed := He.glo_ok X G (cd.fact 21 (f := .glo "_law_mixed") rfl)
  have g__law_alike := He.glo_ok X G (cd.fact 22 (f := .glo "_law_alike") rfl)
  have g__law_sum := He.glo_ok X G (cd.fact 23 (f := .glo "_law_sum") rfl)
  have g__law_less := He.glo_ok X G (cd.fact 24 (f := .glo "_law_less") rfl)
  have g__law_within := He.glo_ok X G (cd.fact 25 (f := .glo "_law_within") rfl)
  have g__law_names := He.glo_ok X G (cd.fact 26 (f := .glo "_law_names") rfl)
  have g__law_recipe := He.glo_ok X G (cd.fact 27 (f := .glo "_law_recipe") rfl)
  have g__law_out := He.glo_ok X G (cd.fact 28 (f := .glo "_law_out") rfl)
  have g__law_works := He.glo_ok X G (cd.fact 29 (f := .glo "_law_works") rfl)
  have g__law_nothing := He.glo_ok X G (cd.fact 30 (f := .glo "_law_nothing") rfl)
  have g__law_done := He.glo_ok X G (cd.fact 31 (f := .glo "_law_done") rfl)
  have g__law_after := He.glo_ok X G (cd.fact 32 (f := .glo "_law_after") rfl)
  have g__law_can := He.glo_ok X G (cd.fact 33 (f := .glo "_law_can") rfl)
  have g__law_some_deeds := He.glo_ok X G (cd.fact 34 (f := .glo "_law_some_deeds") rfl)
  have g__law_wants := He.glo_ok X G (cd.fact 35 (f := .glo "_law_wants") rfl)
  have g__law_planted := He.glo_ok X G (cd.fact 36 (f := .glo "_law_planted") rfl)
  have g__law_part := He.glo_ok X G (cd.fact 37 (f := .glo "_law_part") rfl)
  have g__law_arrow := He.glo_ok X G (cd.fact 38 (f := .glo "_law_arrow") rfl)
  have g__law_links := He.glo_ok X G (cd.fact 39 (f := .glo "_law_links") rfl)
  have g__law_held_sender := He.glo_ok X G (cd.fact 40 (f := .glo "_law_held_sender") rfl)
  have g__law_any_sender := He.glo_ok X G (cd.fact 41 (f := .glo "_law_any_sender") rfl)
  have g__law_bent_sender := He.glo_ok X G (cd.fact 42 (f := .glo "_law_bent_sender") rfl)
  have g__law_sender := He.glo_ok X G (cd.fact 43 (f := .glo "_law_sender") rfl)
  have g__law_arrows_from := He.glo_ok X G (cd.fact 44 (f := .glo "_law_arrows_from") rfl)
  have g__law_run := He.glo_ok X G (cd.fact 45 (f := .glo "_law_run") rfl)
  have g__law_deeds_by := He.glo_ok X G (cd.fact 46 (f := .glo "_law_deeds_by") rfl)
  have g__law_told_ends := He.glo_ok X G (cd.fact 47 (f := .glo "_law_told_ends") rfl)
  have g__law_ends_right := He.glo_ok X G (cd.fact 48 (f := .glo "_law_ends_right") rfl)
  have g__law_run_right := He.glo_ok X G (cd.fact 49 (f := .glo "_law_run_right") rfl)
  have g_law := He.glo_ok X G (cd.fact 50 (f := .glo "law") rfl)
  have z_isinstance := He.free_ok X G (cd.fact 51 (f := .free "isinstance") rfl)
  have z_int := He.free_ok X G (cd.fact 52 (f := .free "int") rfl)
  have z_bool := He.free_ok X G (cd.fact 53 (f := .free "bool") rfl)
  have z_tuple := He.free_ok X G (cd.fact 54 (f := .free "tuple") rfl)
  have z_all := He.free_ok X G (cd.fact 55 (f := .free "all") rfl)
  have z_zip := He.free_ok X G (cd.fact 56 (f := .free "zip") rfl)
  have z_any := He.free_ok X G (cd.fact 57 (f := .free "any") rfl)
  have z_enumerate := He.free_ok X G (cd.fact 58 (f := .free "enumerate") rfl)
  have z_list := He.free_ok X G (cd.fact 59 (f := .free "list") rfl)
  have z_len := He.free_ok X G (cd.fact 60 (f := .free "len") rfl)
  have z_range := He.free_ok X G (cd.fact 61 (f := .free "range") rfl)
  have z_sorted := He.free_ok X G (cd.fact 62 (f := .free "sorted") rfl)
  have z_repr := He.free_ok X G (cd.fact 63 (f := .free "repr") rfl)
  have z_min := He.free_ok X G (cd.fact 64 (f := .free "min") rfl)
  have z_max := He.free_ok X G (cd.fact 65 (f := .free "max") rfl)
  have z_abs := He.free_ok X G (cd.fact 66 (f := .free "abs") rfl)
  obtain ⟨t_MOST_ENDS, g_MOST_ENDS⟩ := He.int_ok X G (cd.fact 67 (f := .int "MOST_ENDS" 5000) rfl)
  obtain ⟨t_MOST_DEEDS, g_MOST_DEEDS⟩ := He.int_ok X G (cd.fact 68 (f := .int "MOST_DEEDS" 1000) rfl)
  have g_TooMany := He.glo_ok X G (cd.fact 69 (f := .glo "TooMany") rfl)
  have no_at := He.noat_ok (cd.fact 70 (f := .noat "TooMany" "most") rfl)
  have meth := He.meth_ok (cd.fact 71 (f := .meth "TooMany" "__init__") rfl)
  have one := He.exm_ok (cd.fact 72 (f := .exm "TooMany" "TooMany" true) rfl)
  have B : Bt mg := ⟨z_isinstance, z_int, z_bool, z_tuple, z_all, z_any, z_zip, z_enumerate, z_list, z_len, z_range, z_sorted, z_repr, z_min, z_max, z_abs⟩
  have T := oex_of c.more
  have e := hfa.symm.trans g_law
  cases e
  have bl := FunD.bindsA (ps := ["_law_script"]) F_law fun _ _ _ _ _ _ us hl => match us, hl with | [_], _ => rfl
  refine ⟨d_law, fun s v => bl s [v] rfl, fun base _ _ => ?_⟩
  have bi : Binds K d_init ["self", "most"] [] := F_init.bindsN fun _ _ _ _ _ _ us hl => match us, hl with | [_, _], _ => rfl
  have tm : TmC P w K mg base (He.ga K "TooMany") := ⟨T, no_at, g_TooMany, one, _, d_init, meth.1, (by have := meth.fn; unfold PySem.W.isFn at this; exact beq_iff_eq.mp this), ok_init F_init T no_at, bi⟩
  have C_is_integer : Cl P w K mg base CX0 1 "is_integer" ["thing"] spIsInt := ⟨_, _, ok_is_integer F_is_integer B, g_is_integer, F_is_integer.kp, F_is_integer.bindsN fun _ _ _ _ _ _ us hl => match us, hl with | [_], _ => rfl⟩
  have C_is_from : Cl P w K mg base CX0 2 "is_from" ["thing", "least"] spIsFrom := ⟨_, _, ok_is_from F_is_from B C_is_integer, g_is_from, F_is_from.kp, F_is_from.bindsN fun _ _ _ _ _ _ us hl => match us, hl with | [_, _], _ => rfl⟩
  have C_is_index : Cl P w K mg base CX0 3 "is_index" ["thing", "many"] spIsIx := ⟨_, _, ok_is_index F_is_index B C_is_from, g_is_index, F_is_index.kp, F_is_index.bindsN fun _ _ _ _ _ _ us hl => match us, hl with | [_, _], _ => rfl⟩
  have C_is_deeds : Cl P w K mg base CX0 4 "is_deeds" ["works", "thing"] spIsDeeds := ⟨_, _, ok_is_deeds F_is_deeds B C_is_index, g_is_deeds, F_is_deeds.kp, F_is_deeds.bindsN fun _ _ _ _ _ _ us hl => match us, hl with | [_, _], _ => rfl⟩
  have C_added : Cl P w K mg base CX0 1 "added" ["one", "other"] (sp2 addL) := ⟨_, _, ok_added F_added B, g_added, F_added.kp, F_added.bindsN fun _ _ _ _ _ _ us hl => match us, hl with | [_, _], _ => rfl⟩
  have C_after_deed : Cl P w K mg base CX0 1 "after_deed" ["works", "heaps", "crew", "index"] spDeed := ⟨_, _, ok_after_deed F_after_deed B, g_after_deed, F_after_deed.kp, F_after_deed.bindsN fun _ _ _ _ _ _ us hl => match us, hl with | [_, _, _, _], _ => rfl⟩
  have C_first_failed : Cl P w K mg base CX0 2 "first_failed" ["works", "heaps", "crew", "deeds"] spFF := ⟨_, _, ok_first_failed F_first_failed B C_after_deed, g_first_failed, F_first_failed.kp, F_first_failed.bindsN fun _ _ _ _ _ _ us hl => match us, hl with | [_, _, _, _], _ => rfl⟩
  have C_is_play : Cl P w K mg base CX0 5 "is_play" ["works", "sender", "run", "thing"] spIsPlay := ⟨_, _, ok_is_play F_is_play B C_is_deeds C_added C_first_failed, g_is_play, F_is_play.kp, F_is_play.bindsN fun _ _ _ _ _ _ us hl => match us, hl with | [_, _, _, _], _ => rfl⟩
  have C_after : Cl P w K mg base CX0 3 "after" ["works", "heaps", "crew", "deeds"] spAf := ⟨_, _, ok_after F_after B C_first_failed, g_after, F_after.kp, F_after.bindsN fun _ _ _ _ _ _ us hl => match us, hl with | [_, _, _, _], _ => rfl⟩
  have C_can_do : Cl P w K mg base CX0 3 "can_do" ["works", "heaps", "crew", "deeds"] spCan := ⟨_, _, ok_can_do F_can_do B C_first_failed, g_can_do, F_can_do.kp, F_can_do.bindsN fun _ _ _ _ _ _ us hl => match us, hl with | [_, _, _, _], _ => rfl⟩
  have C_no_heaps : Cl P w K mg base CX0 1 "no_heaps" ["works"] spNo := ⟨_, _, ok_no_heaps F_no_heaps B, g_no_heaps, F_no_heaps.kp, F_no_heaps.bindsN fun _ _ _ _ _ _ us hl => match us, hl with | [_], _ => rfl⟩
  have C_played : Cl P w K mg base CX0 4 "played" ["works", "sender", "run", "play"] spPlayed := ⟨_, _, ok_played F_played B C_no_heaps C_added C_after, g_played, F_played.kp, F_played.bindsN fun _ _ _ _ _ _ us hl => match us, hl with | [_, _, _, _], _ => rfl⟩
  have C_fits : Cl P w K mg base CX0 1 "fits" ["heaps", "rooms"] (sp2B leL) := ⟨_, _, ok_fits F_fits B, g_fits, F_fits.kp, F_fits.bindsN fun _ _ _ _ _ _ us hl => match us, hl with | [_, _], _ => rfl⟩
  have C_states_behind : Cl P w K mg base (L2.CX P w) 3 "states_behind" ["works", "heaps", "crew"] (spBehind P w (He.ga K "TooMany")) := ⟨_, _, ok_states_behind F_states_behind B C_after_deed tm g_MOST_ENDS ⟨_, rfl⟩, g_states_behind, F_states_behind.kp, F_states_behind.bindsN fun _ _ _ _ _ _ us hl => match us, hl with | [_, _, _], _ => rfl⟩
  have C_ends_of : Cl P w K mg base (L2.CX P w) 4 "ends_of" ["works", "heaps", "crew"] (spEnds (He.ga K "TooMany")) := ⟨_, _, ok_ends_of F_ends_of B C_states_behind, g_ends_of, F_ends_of.kp, F_ends_of.bindsN fun _ _ _ _ _ _ us hl => match us, hl with | [_, _, _], _ => rfl⟩
  have C_low_ends : Cl P w K mg base CX0 5 "low_ends" ["works", "heaps", "crew"] spLow := ⟨_, _, ok_low_ends F_low_ends B C_ends_of C_fits, g_low_ends, F_low_ends.kp, F_low_ends.bindsN fun _ _ _ _ _ _ us hl => match us, hl with | [_, _, _], _ => rfl⟩
  have C_first_deed : Cl P w K mg base CX0 2 "first_deed" ["works", "order", "heaps", "crew"] spFirst := ⟨_, _, ok_first_deed F_first_deed B C_after_deed, g_first_deed, F_first_deed.kp, F_first_deed.bindsN fun _ _ _ _ _ _ us hl => match us, hl with | [_, _, _, _], _ => rfl⟩
  have C_deeds_by : Cl P w K mg base CX0 3 "deeds_by" ["works", "order", "heaps", "crew"] spBy := ⟨_, _, ok_deeds_by F_deeds_by B C_first_deed g_MOST_DEEDS ⟨_, rfl⟩, g_deeds_by, F_deeds_by.kp, F_deeds_by.bindsN fun _ _ _ _ _ _ us hl => match us, hl with | [_, _, _, _], _ => rfl⟩
  have C_l_bag : Cl P w K mg base CX0 1 "_law_bag" ["_law_script"] (spBagN K) := ⟨_, _, ok_lbag F__law_bag B, g__law_bag, F__law_bag.kp, F__law_bag.bindsN fun _ _ _ _ _ _ us hl => match us, hl with | [_], _ => rfl⟩
  have C_l_take : Cl P w K mg base CX0 1 "_law_take" ["_law_bag_here", "_law_many"] spTake := ⟨_, _, ok_ltake F__law_take B, g__law_take, F__law_take.kp, F__law_take.bindsN fun _ _ _ _ _ _ us hl => match us, hl with | [_, _], _ => rfl⟩
  have C_l_one : Cl P w K mg base CX0 2 "_law_one" ["_law_bag_here", "_law_things"] spOne := ⟨_, _, ok_lone F__law_one B C_l_take, g__law_one, F__law_one.kp, F__law_one.bindsN fun _ _ _ _ _ _ us hl => match us, hl with | [_, _], _ => rfl⟩
  have C_l_mixed : Cl P w K mg base CX0 2 "_law_mixed" ["_law_bag_here", "_law_things"] spMixed := ⟨_, _, ok_lmixed F__law_mixed B C_l_take, g__law_mixed, F__law_mixed.kp, F__law_mixed.bindsN fun _ _ _ _ _ _ us hl => match us, hl with | [_, _], _ => rfl⟩
  have C_l_alike : ClG P w K mg base CX0 1 "_law_alike" ["_law_found", "_law_due"] (spAlike K) := ⟨_, _, ok_lalike F__law_alike B, g__law_alike, F__law_alike.kp, F__law_alike.bindsN fun _ _ _ _ _ _ us hl => match us, hl with | [_, _], _ => rfl⟩
  have C_l_sum : Cl P w K mg base CX0 1 "_law_sum" ["_law_one_here", "_law_other"] (sp2 addL) := ⟨_, _, ok_lsum F__law_sum B, g__law_sum, F__law_sum.kp, F__law_sum.bindsN fun _ _ _ _ _ _ us hl => match us, hl with | [_, _], _ => rfl⟩
  have C_l_less : Cl P w K mg base CX0 1 "_law_less" ["_law_one_here", "_law_other"] (sp2 subL) := ⟨_, _, ok_lless F__law_less B, g__law_less, F__law_less.kp, F__law_less.bindsN fun _ _ _ _ _ _ us hl => match us, hl with | [_, _], _ => rfl⟩
  have C_l_within : Cl P w K mg base CX0 1 "_law_within" ["_law_one_here", "_law_other"] (sp2B leL) := ⟨_, _, ok_lwithin F__law_within B, g__law_within, F__law_within.kp, F__law_within.bindsN fun _ _ _ _ _ _ us hl => match us, hl with | [_, _], _ => rfl⟩
  have C_l_names : Cl P w K mg base CX0 3 "_law_names" ["_law_bag_here", "_law_many"] spNames := ⟨_, _, ok_lnames F__law_names B C_l_mixed, g__law_names, F__law_names.kp, F__law_names.bindsN fun _ _ _ _ _ _ us hl => match us, hl with | [_, _], _ => rfl⟩
  have C_l_recipe : Cl P w K mg base CX0 3 "_law_recipe" ["_law_bag_here", "_law_size", "_law_hands", "_law_most"] spRecipe := ⟨_, _, ok_lrecipe F__law_recipe B C_l_take C_l_one, g__law_recipe, F__law_recipe.kp, F__law_recipe.bindsN fun _ _ _ _ _ _ us hl => match us, hl with | [_, _, _, _], _ => rfl⟩
  have C_l_out : Cl P w K mg base CX0 3 "_law_out" ["_law_bag_here", "_law_size", "_law_place", "_law_hands"] spOut := ⟨_, _, ok_lout F__law_out B C_l_one, g__law_out, F__law_out.kp, F__law_out.bindsN fun _ _ _ _ _ _ us hl => match us, hl with | [_, _, _, _], _ => rfl⟩
  have C_l_works : Cl P w K mg base CX0 4 "_law_works" ["_law_bag_here", "_law_kinds", "_law_hands", "_law_recipes"] spWorks := ⟨_, _, ok_lworks F__law_works B C_l_take C_l_one C_l_mixed C_l_names C_l_recipe C_l_out, g__law_works, F__law_works.kp, F__law_works.bindsN fun _ _ _ _ _ _ us hl => match us, hl with | [_, _, _, _], _ => rfl⟩
  have C_l_nothing : Cl P w K mg base CX0 1 "_law_nothing" ["_law_works_here"] spNo := ⟨_, _, ok_lnothing F__law_nothing B, g__law_nothing, F__law_nothing.kp, F__law_nothing.bindsN fun _ _ _ _ _ _ us hl => match us, hl with | [_], _ => rfl⟩
  have C_l_done : Cl P w K mg base CX0 2 "_law_done" ["_law_works_here", "_law_heaps", "_law_crew", "_law_index"] spDeed := ⟨_, _, ok_ldone F__law_done B C_l_within C_l_sum C_l_less, g__law_done, F__law_done.kp, F__law_done.bindsN fun _ _ _ _ _ _ us hl => match us, hl with | [_, _, _, _], _ => rfl⟩
  have C_l_after : Cl P w K mg base CX0 3 "_law_after" ["_law_works_here", "_law_heaps", "_law_crew", "_law_deeds"] spLAf := ⟨_, _, ok_lafter F__law_after B C_l_done, g__law_after, F__law_after.kp, F__law_after.bindsN fun _ _ _ _ _ _ us hl => match us, hl with | [_, _, _, _], _ => rfl⟩
  have C_l_can : Cl P w K mg base CX0 3 "_law_can" ["_law_works_here", "_law_heaps", "_law_crew"] spLCan := ⟨_, _, ok_lcan F__law_can B C_l_done, g__law_can, F__law_can.kp, F__law_can.bindsN fun _ _ _ _ _ _ us hl => match us, hl with | [_, _, _], _ => rfl⟩
  have C_l_some_deeds : Cl P w K mg base CX0 4 "_law_some_deeds" ["_law_bag_here", "_law_works_here", "_law_heaps", "_law_crew", "_law_most"] spSome := ⟨_, _, ok_lsome F__law_some_deeds B C_l_done C_l_can C_l_take C_l_one, g__law_some_deeds, F__law_some_deeds.kp, F__law_some_deeds.bindsN fun _ _ _ _ _ _ us hl => match us, hl with | [_, _, _, _, _], _ => rfl⟩
  have C_l_wants : Cl P w K mg base CX0 1 "_law_wants" ["_law_works_here", "_law_counts"] spWants := ⟨_, _, ok_lwants F__law_wants B, g__law_wants, F__law_wants.kp, F__law_wants.bindsN fun _ _ _ _ _ _ us hl => match us, hl with | [_, _], _ => rfl⟩
  have C_l_planted : Cl P w K mg base CX0 3 "_law_planted" ["_law_bag_here", "_law_works_here", "_law_most"] spPlanted := ⟨_, _, ok_lplanted F__law_planted B C_l_take C_l_one C_l_wants C_l_nothing, g__law_planted, F__law_planted.kp, F__law_planted.bindsN fun _ _ _ _ _ _ us hl => match us, hl with | [_, _, _], _ => rfl⟩
  have C_l_part : Cl P w K mg base CX0 2 "_law_part" ["_law_bag_here", "_law_lot"] spPart := ⟨_, _, ok_lpart F__law_part B C_l_take, g__law_part, F__law_part.kp, F__law_part.bindsN fun _ _ _ _ _ _ us hl => match us, hl with | [_, _], _ => rfl⟩
  have C_l_arrow : Cl P w K mg base CX0 2 "_law_arrow" ["_law_works_here", "_law_source", "_law_target", "_law_total", "_law_marks"] spArrow := ⟨_, _, ok_larrow F__law_arrow B C_l_sum C_l_less, g__law_arrow, F__law_arrow.kp, F__law_arrow.bindsN fun _ _ _ _ _ _ us hl => match us, hl with | [_, _, _, _, _], _ => rfl⟩
  have C_l_links : Cl P w K mg base CX0 3 "_law_links" ["_law_bag_here", "_law_places", "_law_more"] spLinks := ⟨_, _, ok_llinks F__law_links B C_l_take C_l_one C_l_mixed, g__law_links, F__law_links.kp, F__law_links.bindsN fun _ _ _ _ _ _ us hl => match us, hl with | [_, _, _], _ => rfl⟩
  have C_l_held_sender : Cl P w K mg base CX0 4 "_law_held_sender" ["_law_bag_here", "_law_works_here", "_law_places", "_law_more"] spSender := ⟨_, _, ok_lheld F__law_held_sender B C_l_take C_l_planted C_l_nothing C_l_part C_l_links C_l_arrow, g__law_held_sender, F__law_held_sender.kp, F__law_held_sender.bindsN fun _ _ _ _ _ _ us hl => match us, hl with | [_, _, _, _], _ => rfl⟩
  have C_l_any_sender : Cl P w K mg base CX0 4 "_law_any_sender" ["_law_bag_here", "_law_works_here", "_law_places", "_law_more"] spSender := ⟨_, _, ok_lany F__law_any_sender B C_l_take C_l_one C_l_links, g__law_any_sender, F__law_any_sender.kp, F__law_any_sender.bindsN fun _ _ _ _ _ _ us hl => match us, hl with | [_, _, _, _], _ => rfl⟩
  have C_l_bent_sender : Cl P w K mg base CX0 3 "_law_bent_sender" ["_law_bag_here", "_law_works_here", "_law_sender_here"] spBent := ⟨_, _, ok_lbent F__law_bent_sender B C_l_take C_l_one, g__law_bent_sender, F__law_bent_sender.kp, F__law_bent_sender.bindsN fun _ _ _ _ _ _ us hl => match us, hl with | [_, _, _], _ => rfl⟩
  have C_l_sender : Cl P w K mg base CX0 5 "_law_sender" ["_law_bag_here", "_law_works_here", "_law_places", "_law_more"] spSender := ⟨_, _, ok_lsender F__law_sender B C_l_take C_l_any_sender C_l_held_sender C_l_bent_sender, g__law_sender, F__law_sender.kp, F__law_sender.bindsN fun _ _ _ _ _ _ us hl => match us, hl with | [_, _, _, _], _ => rfl⟩
  have C_l_arrows_from : Cl P w K mg base CX0 1 "_law_arrows_from" ["_law_sender_here", "_law_place"] spFrom := ⟨_, _, ok_lfrom F__law_arrows_from B, g__law_arrows_from, F__law_arrows_from.kp, F__law_arrows_from.bindsN fun _ _ _ _ _ _ us hl => match us, hl with | [_, _], _ => rfl⟩
  have C_l_run : Cl P w K mg base CX0 3 "_law_run" ["_law_bag_here", "_law_sender_here", "_law_many"] spRun := ⟨_, _, ok_lrun F__law_run B C_l_take C_l_one C_l_arrows_from, g__law_run, F__law_run.kp, F__law_run.bindsN fun _ _ _ _ _ _ us hl => match us, hl with | [_, _, _], _ => rfl⟩
  have C_l_deeds_by : Cl P w K mg base CX0 3 "_law_deeds_by" ["_law_works_here", "_law_order", "_law_heaps", "_law_crew", "_law_most"] spLBy := ⟨_, _, ok_lby F__law_deeds_by B C_l_done, g__law_deeds_by, F__law_deeds_by.kp, F__law_deeds_by.bindsN fun _ _ _ _ _ _ us hl => match us, hl with | [_, _, _, _, _], _ => rfl⟩
  have C_l_told_ends : Cl P w K mg base CX0 6 "_law_told_ends" ["_law_works_here", "_law_heaps", "_law_crew"] spTold := ⟨_, _, ok_ltold_ends F__law_told_ends B tm C_ends_of C_low_ends, g__law_told_ends, F__law_told_ends.kp, F__law_told_ends.bindsN fun _ _ _ _ _ _ us hl => match us, hl with | [_, _, _], _ => rfl⟩
  have C_l_ends_right : ClG P w K mg base CX0 5 "_law_ends_right" ["_law_bag_here", "_law_works_here", "_law_heaps", "_law_crew", "_law_ends", "_law_low"] spRight := ⟨_, _, ok_lright F__law_ends_right B C_l_mixed C_l_alike C_after C_can_do C_l_within C_l_after C_l_deeds_by C_deeds_by C_l_some_deeds, g__law_ends_right, F__law_ends_right.kp, F__law_ends_right.bindsN fun _ _ _ _ _ _ us hl => match us, hl with | [_, _, _, _, _, _], _ => rfl⟩
  have C_l_run_right : ClG P w K mg base CX0 7 "_law_run_right" ["_law_bag_here", "_law_works_here", "_law_sender_here"] spRunRight := ⟨_, _, ok_lrunright F__law_run_right B C_l_run C_l_nothing C_l_sum C_l_told_ends C_l_ends_right C_l_one C_l_alike C_played C_is_play, g__law_run_right, F__law_run_right.kp, F__law_run_right.bindsN fun _ _ _ _ _ _ us hl => match us, hl with | [_, _, _], _ => rfl⟩
  exact ok_law F_law B C_l_bag C_l_works C_l_sender C_l_run_right
end K11

set_option Elab.async false
set_option linter.all false
set_option maxRecDepth 100000
set_option maxHeartbeats 0
open PySem PySem.W PySem.Calls PyProof.Rows
theorem PySem.Challenge.cw_neverheaps_k11_whole_ends_and_plays_holds : PySem.Challenge.rw_neverheaps_k11_whole_ends_and_plays.Holds := by
  w_on; o_law
  refine HandSHeadRun.head_any (r := OpenLaw.row PySem.Challenge.rw_neverheaps_k11_whole_ends_and_plays) (q := view (OpenLaw.row PySem.Challenge.rw_neverheaps_k11_whole_ends_and_plays).prog [61]) (H := K11.hk) (ob := K11.ob) (M := 3000) (loose := K11.nm1 ++ K11.nm2) (d := HandSHeadRun.topDef (OpenLaw.row PySem.Challenge.rw_neverheaps_k11_whole_ends_and_plays).prog 61) (kwd := []) K11.ob_eq
    (by kernel_rfl) (fun s => by kernel_rfl) K11.run (by kernel_rfl) (by kernel_rfl) (by kernel_rfl) (by rfl) (by first | assumption | decide +kernel) (by decide +kernel) ⟨rfl, rfl, rfl, rfl, rfl, by decide +kernel⟩ ?hw ?hc
  case hw => w_witness2
  case hc =>
    refine K11.walkG (l := PySem.Challenge.rw_neverheaps_k11_whole_ends_and_plays) (n := 63) (k := 8) (x := "_law_script") rfl (by decide) (by kernel_rfl) ⟨rfl, by decide, by decide⟩ ?F
    intro w mg fa h Y G hmg0
    obtain ⟨K, KX, c⟩ := Y
    have hmg : mg ("law" : PySem.Str) = some (.ref fa) := by
      have e : (HandSHeadRun.topDef (OpenLaw.row PySem.Challenge.rw_neverheaps_k11_whole_ends_and_plays).prog 61).name = ("law" : PySem.Str) := by kernel_rfl
      rw [← e]
      exact hmg0
    obtain ⟨fd, hb, hF⟩ := K11.facts (P := (PySem.Challenge.rw_neverheaps_k11_whole_ends_and_plays).prog) (w := w) KX G hmg c
    exact ⟨K, fd, K11.spLaw K, KX, hb, fun H a ns hl _ hS => ⟨a, ns, rfl, hS, fun v _ _ e => e⟩, hF⟩

