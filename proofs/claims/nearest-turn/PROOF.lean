import PyProof.Rows.All
import Wide.All
import OpenK.AllK
import Wide.FinOn
import HandS.ForMost
import HandS.ForExc
import HandS.Walk
import HandS.Zip
import HandS.Lambda
import HandS.Defaults
import HandS.IsInst
import HandS.DictComp
import HandS.DictTup
import HandS.CallRecv
import HandS.CallLocal
import HandS.Deep
import HandS.Wide
import HandS.Conv
import HandS.Codes
import HandS.TupAny
import HandS.TupMul
import HandS.TryMany
import HandS.EndTab
import HandS.HeadWalk
import HandS.Strs
import KE.KUnpackStar
import KE.GoesZip
import KE.GoesEnum
import KE.SortData
import HandS.SetFor
import KE.DataMinMax
import KE.KIndexOf
import KE.KDictDisplayH
import KE.KDictCopyH
import KE.KDictOf
import HandS.MakeKwOnly
import KE.KNestM
import PySem.Challenge.RW_wontbooks_k36_whole_the_nearest_turn
set_option Elab.async false
set_option linter.all false
set_option maxRecDepth 100000
set_option maxHeartbeats 4000000
/-! New rules of the layer for this claim: a star among targets, fields as targets, zip and enumerate of lists and tuples. -/
namespace PySem.W
open PySem PySem.Spec PySem.Calls PyProof.Rows
theorem wb_starT {prog : Program} {w : World} {A : Around} {E : Value → Shared → Prop} {s : Shared} {l : Addr} {items : Array Value} {n i : Nat} {Q : List Value → Shared → Prop} (hl : IsTup s.heap l items) (hh : A.handled = none) (hi : i < n) (hn : n ≤ items.size + 1) (hz : items.size ≤ 16384)
    (h : ∀ (h' : Heap) (tk : Nat), (∀ b o, s.heap.get? b = some o → h'.get? b = some o) → Q (items.toList.take i ++ [.ref h'.objs.size] ++ (items.toList.drop i).drop (items.size + 1 - n)) { s with heap := h'.push { cls := .type "list", data := .seq ((items.toList.drop i).take (items.size + 1 - n)).toArray }, toks := tk }) : wpAny (model prog w) A (unpackItems (.ref l) n (some i)) Q E s := by
  have hlt : l ≠ s.heap.objs.size := by obtain ⟨o, ho, _⟩ := hl; exact Nat.ne_of_lt (Heap.lt_size ho)
  unfold unpackItems
  refine wpAny_bind ?_
  unfold notIterableAtAll
  refine wpAny_bind (wpAny_specialOf hl.typeIs slot_tuple_iter.lookup ?_)
  refine wpAny_pure ?_
  simp only [Bool.false_eq_true, if_false]
  refine wpAny_bind (wpAny_holding (iter_tuple hl ?_))
  refine wpAny_bind (wpAny_holding (draw_tuple hlt i 0 _ _ ⟨_, Heap.get?_push_size _ rfl, rfl, rfl⟩ (hl.push _) (by omega) fun h₁ hit₁ hs₁ => ?_))
  have hl₁ : IsTup h₁ l items := (hl.push _).extBut hs₁.extBut hlt
  rw [Nat.zero_add] at hit₁
  have hit₁' := hit₁
  obtain ⟨oi, hoi, _⟩ := hit₁'
  have hl₁' := hl₁
  obtain ⟨ol, hol, _⟩ := hl₁'
  rw [List.drop_zero]
  have hfl : (items.toList.take i).length = i := by rw [List.length_take, Array.length_toList]; omega
  rw [if_neg (show ¬ ((items.toList.take i).length < i) by rw [hfl]; omega)]
  refine wpAny_bind (wpAny_holding (kun_collect (s := { s with heap := h₁ }) (T := "tuple_iterator") (.inr (.inr (.inr rfl))) (Walks.tuple (A := A.in1) hh s.heap.objs.size l hlt items) (fun j u st => st.1.typeIs) (k := i) (by omega) ⟨hit₁, hl₁⟩ (Heap.lt_size hoi) (Heap.lt_size hol) (fun h₂ tk hk => ?_) (by rw [sizeLine_eq]; omega)))
  have hrl : (items.toList.drop i).length = items.size - i := by rw [List.length_drop, Array.length_toList]
  have hmid : (items.toList.drop i).length - (n - 1 - i) = items.size + 1 - n := by rw [hrl]; omega
  show wpAny _ _ (if (items.toList.drop i).length < n - 1 - i then _ else _) _ _ _
  rw [if_neg (by rw [hrl]; omega)]
  show wpAny _ _ (newList ((items.toList.drop i).take ((items.toList.drop i).length - (n - 1 - i))) >>= fun d => pure (items.toList.take i ++ [d] ++ (items.toList.drop i).drop ((items.toList.drop i).length - (n - 1 - i)))) _ _ _
  rw [hmid]
  have he : Heap.ExtBut s.heap.objs.size s.heap h₂ := fun b o hb e => hk b o hb (hs₁.extBut b o hb (Heap.get?_push_of_some _ e))
  refine wpAny_bind (wpAny_newList (s := { s with heap := h₂, toks := tk }) (wpAny_pure (h h₂ tk fun b o e => he b o (Nat.ne_of_lt (Heap.lt_size e)) e)) ?_)
  rw [List.length_take, hrl, sizeLine_eq]; omega
end PySem.W
namespace L2
open PySem PySem.Spec PyProof.Rows
/-- a, .., *m = a tuple: i names ahead of the star, n in all -/
def gStar (K : PySem.W.Frag) (n i : Nat) (t : TGs) : TG := fun v σ H Q => ∃ a xs, v = .ref a ∧ SqT K H a xs ∧ i < n ∧ n ≤ xs.length + 1 ∧ xs.length ≤ 16384 ∧
  ∀ D, H D = none → t (xs.take i ++ [.ref D] ++ (xs.drop i).drop (xs.length + 1 - n)) σ (upd H D (.lst ((xs.drop i).take (xs.length + 1 - n)))) Q
/-- several targets, a star among them -/
theorem pgs_star {X : Cx} {e : Expr} {es : List Expr} {t : TG} {u : TGs} {p : Pos} (h1 : PG X e t) (h2 : PGs X es u)
    (hs : (assignEach (.Starred e p :: es) X.env).map (·.2) = assign e X.env :: (assignEach es X.env).map (·.2) := by rfl) : PGs X (.Starred e p :: es) (gCons t u) := by
  refine ⟨fun pins s σ H vs us Q I r hw => ?_⟩
  obtain ⟨v, rr, e0, hw⟩ := hw
  subst e0
  cases r with
  | cons r1 r2 =>
    rw [hs]
    refine wpAny_bind (wpAny_holding (thn (h1.run pins s σ H v _ _ I r1 hw) fun _ s1 ⟨σ1, H1, I1, q1⟩ => ?_))
    exact h2.run pins s1 σ1 H1 rr _ Q I1 r2 q1
theorem pg_star {X : Cx} {pos : Pos} {es : List Expr} {k : Nat} {t : TGs} {n i : Nat} (hc : X.calm = true) (h : PGs X es t)
    (hn : (assignEach es X.env).length = n := by rfl) (hst : (assignEach es X.env).findIdx? (·.1) = some i := by rfl) : PG X (.Tuple es k pos) (gStar X.K n i t) := by
  refine ⟨fun pins s σ H v u Q I r hw => ?_⟩
  obtain ⟨a, xs, e1, hq, hi, hnx, hz, hw⟩ := hw
  subst e1
  cases r
  obtain ⟨its, rv, ht, _⟩ := I.tuple hq
  have hl := rv.length
  rw [assign_Tuple]
  refine wpAny_bind (wpAny_standAt ?_)
  unfold unpack
  rw [hn, hst]
  refine wpAny_bind (wpAny_holding (PySem.W.wb_starT (s := { s with toks := s.toks }) ht (I.ok.hd hc) hi (by simp [← hl]; exact hnx) (by simp [← hl]; exact hz) fun h' tk hk => ?_))
  have I1 : Inv X pins σ H { s with heap := h', toks := tk } := I.kept hk
  have hf : H h'.objs.size = none := I1.hok.fresh (Nat.le_refl _)
  have hs : its.toArray.size = xs.length := by simp [← hl]
  have rm : Vals ((xs.drop i).take (xs.length + 1 - n)) ((its.drop i).take (its.toArray.size + 1 - n)) := by rw [hs]; exact (rv.drop i).take _
  have I2 : Inv X pins σ (upd H h'.objs.size (.lst ((xs.drop i).take (xs.length + 1 - n)))) { s with heap := h'.push { cls := .type "list", data := .seq ((its.drop i).take (its.toArray.size + 1 - n)).toArray }, toks := tk } :=
    I1.laid (t' := tk) (fun b u e => Heap.get?_push_of_some _ e) (Nat.le_refl _) ⟨by rw [List.length_take, List.length_drop, sizeLine_eq]; omega, _, 0, rm, Heap.get?_push_size _ rfl⟩
  refine h.run pins _ σ _ _ _ Q I2 ?_ (hw _ hf)
  rw [hs]
  exact ((rv.take i).append (Paired.cons (show RelV (.ref _) _ from rfl) .nil)).append ((rv.drop i).drop _)
end L2

namespace L2
open PySem PySem.Spec PyProof.Rows
/-! ### o.f as a target among others -/
def gFld (K : PySem.W.Frag) (ta : TE) (f : Str) : TG := fun v σ H Q => ta σ H fun x H2 => ∃ a C dx fs, x = .ref a ∧ H2 a = some (.ins C dx fs) ∧ Cls K C ∧ NoAttr K C f ∧ fs.length < 1000 ∧
  Q σ (upd H2 a (.ins C dx (putF f v fs)))
theorem pg_fld {X : Cx} {o : Expr} {f : Str} {pos : Pos} {ta : TE} (ha : PE X o ta) : PG X (.Attribute o f pos) (gFld X.K ta f) := by
  refine ⟨fun pins s σ H v u Q I r h => ?_⟩
  rw [assign_Attribute]
  refine wpAny_bind (wpAny_holding (thn (ha.run pins s σ H _ I h) fun ov s1 ⟨x, H1, I1, rx, a, C, dx, fs, ex, ea, c, n, l, q⟩ => ?_))
  subst ex
  obtain rfl : ov = Value.ref a := rx
  refine wpAny_bind (wpAny_standAt ?_)
  refine wpAny_bind (wpAny_holding (setattr_ok I1 ea c n l r fun s3 I3 => ?_))
  exact wpAny_release ⟨σ, _, I3, q⟩
/-! ### lists and tuples alike: k tells which (true: a tuple) -/
def sqK (k : Bool) (K : PySem.W.Frag) (H : Hp) (a : Addr) (xs : List V) : Prop := match k with
  | false => SqL K H a xs
  | true => SqT K H a xs
def srcK (k : Bool) (h : Heap) (a : Addr) (items : Array Value) : Prop := match k with
  | false => h.IsList a items
  | true => h.IsTuple a items
def iterK (k : Bool) (h : Heap) (it a : Addr) (i : Nat) : Prop := match k with
  | false => h.IsListIter it a i
  | true => h.IsTupleIter it a i
def iobK (k : Bool) (a : Addr) : Obj := match k with
  | false => { cls := .type "list_iterator", data := .fields #[.ref a, .int 0 0] }
  | true => { cls := .type "tuple_iterator", data := .fields #[.ref a, .int 0 0] }
theorem srcK_lt {k : Bool} {h : Heap} {a : Addr} {items : Array Value} (x : srcK k h a items) : a < h.objs.size := by
  cases k
  · obtain ⟨o, ho, _⟩ := (show h.IsList a items from x); exact Heap.lt_size ho
  · obtain ⟨o, ho, _⟩ := (show h.IsTuple a items from x); exact Heap.lt_size ho
theorem iterK_there {k : Bool} {h : Heap} {it a : Addr} {i : Nat} (x : iterK k h it a i) : ∃ o, h.get? it = some o ∧ ∀ v, o.data ≠ .cell v := by
  cases k
  · obtain ⟨o, ho, _, d⟩ := (show h.IsListIter it a i from x); exact ⟨o, ho, fun v q => by rw [d] at q; cases q⟩
  · obtain ⟨o, ho, _, d⟩ := (show h.IsTupleIter it a i from x); exact ⟨o, ho, fun v q => by rw [d] at q; cases q⟩
theorem iterK_at {k : Bool} {h h' : Heap} {it a : Addr} {i : Nat} (x : iterK k h it a i) (e : ∀ o, h.get? it = some o → h'.get? it = some o) : iterK k h' it a i := by
  cases k
  · exact Heap.IsListIter.at (show h.IsListIter it a i from x) e
  · obtain ⟨o, ho, r⟩ := (show h.IsTupleIter it a i from x); exact ⟨o, e o ho, r⟩
theorem iterK_new {k : Bool} {h : Heap} {it a : Addr} (e : h.get? it = some (iobK k a)) : iterK k h it a 0 := by
  cases k
  · exact ⟨_, e, rfl, rfl⟩
  · exact ⟨_, e, rfl, rfl⟩
theorem draws_k {k : Bool} {prog : Program} {w : World} {A : Around} (hh : A.handled = none) (it a : Addr) (hne : a ≠ it) (items : Array Value) : Draws prog w A it [it, a] items.size (fun i v => items[i]? = some v) (fun i h => iterK k h it a i ∧ srcK k h a items) := by
  cases k
  · exact Draws.list hh it a hne items
  · exact Draws.tuple hh it a hne items
theorem begins_k {k : Bool} (a : Addr) (items : Array Value) : Begins (.ref a) (iobK k a) fun h => srcK k h a items := by
  cases k
  · exact begins_list a items
  · exact begins_tuple a items
theorem Inv.srck {X : Cx} {pins : List (Addr × Obj)} {σ : St} {H : Hp} {s : Shared} {k : Bool} {a : Addr} {xs : List V} (I : Inv X pins σ H s) (h : sqK k X.K H a xs) : ∃ its : List Value, Vals xs its ∧ srcK k s.heap a its.toArray := by
  cases k
  · obtain ⟨its, r, p, _⟩ := I.list (show SqL X.K H a xs from h); exact ⟨its, r, p.isList⟩
  · obtain ⟨its, r, p, _⟩ := I.tuple (show SqT X.K H a xs from h); exact ⟨its, r, p⟩
theorem Inv.injk {X : Cx} {pins : List (Addr × Obj)} {σ : St} {H : Hp} {s : Shared} {k : Bool} {a : Addr} {xs ys : List V} (I : Inv X pins σ H s) (h : sqK k X.K H a xs) (h' : sqK k X.K H a ys) : xs = ys := by
  cases k
  · exact I.list_inj (show SqL X.K H a xs from h) h'
  · exact I.tuple_inj (show SqT X.K H a xs from h) h'
/-! ### zip(v1, v2) -/
def ItzM (K : PySem.W.Frag) (k1 k2 : Bool) (a b : Addr) : It :=
  ⟨fun i H => ∃ (xs ys : List V) (x y : V), sqK k1 K H a xs ∧ sqK k2 K H b ys ∧ xs[i]? = some x ∧ ys[i]? = some y,
    fun i H v H' => ∃ T x y, v = .ref T ∧ H T = none ∧ H' = upd H T (.tup [x, y]) ∧ (∀ xs, sqK k1 K H a xs → xs[i]? = some x) ∧ ∀ ys, sqK k2 K H b ys → ys[i]? = some y,
    fun i H => ∃ xs ys : List V, sqK k1 K H a xs ∧ sqK k2 K H b ys ∧ i ≤ xs.length ∧ i ≤ ys.length ∧ (xs.length = i ∨ ys.length = i)⟩
theorem sep_of {z TI TO i1 i2 a b : Addr} (D : ZipApart z TI TO i1 i2 a b) : ZipSep2 z TI TO i1 i2 [i1, a] [i2, b] where
  TIz := D.TIz
  TOz := D.TOz
  TITO := D.TITO
  TIi1 := D.TIi1
  mem1 := by simp
  zf1 := by simp [D.i1z.symm, D.l1z.symm]
  Tf1 := by simp [D.TOi1, D.l1TO.symm]
  TIi2 := D.TIi2
  mem2 := by simp
  zf2 := by simp [D.i2z.symm, D.l2z.symm]
  Tf2 := by simp [D.TOi2, D.l2TO.symm]
  sep1_2 := by simp [D.i12, D.l2i1.symm]
  sep2_1 := by simp [D.i12.symm, D.l1i2.symm]
theorem turn_zipM {P : Program} {w : World} {K : PySem.W.Frag} {elts : List Expr} {kk : Nat} {tpos : Pos} {k1 k2 : Bool} {a b z TI TO i1 i2 : Addr} (D : ZipApart z TI TO i1 i2 a b) :
    Turn P w K (.Tuple elts kk tpos) (ItzM K k1 k2 a b) [z, TI, TO, i1, i2] z (fun i h => IsZip h z TI TO .none ∧ IsPair h TI (.ref i1) (.ref i2) ∧ (∃ x y, IsPair h TO x y) ∧ iterK k1 h i1 a i ∧ iterK k2 h i2 b i) where
  mem := by simp
  obj := fun i h st c hc => by
    obtain ⟨hz, hTI, ⟨x, y, hTO⟩, h1, h2⟩ := st
    have e' : c = z ∨ c = TI ∨ c = TO ∨ c = i1 ∨ c = i2 := by simpa using hc
    rcases e' with q | q | q | q | q
    · rw [q]; exact ⟨_, hz, fun v q => nomatch q⟩
    · rw [q]; exact ⟨_, hTI, fun v q => nomatch q⟩
    · rw [q]; exact ⟨_, hTO, fun v q => nomatch q⟩
    · rw [q]; exact iterK_there h1
    · rw [q]; exact iterK_there h2
  keep := fun i h h' st k => by
    obtain ⟨hz, hTI, ⟨x, y, hTO⟩, h1, h2⟩ := st
    exact ⟨k z (by simp) _ hz, k TI (by simp) _ hTI, ⟨x, y, k TO (by simp) _ hTO⟩, iterK_at h1 fun o q => k i1 (by simp) o q, iterK_at h2 fun o q => k i2 (by simp) o q⟩
  item := by
    intro X hP hw hK hc i pins s σ H E I hf st hg
    subst hP hw hK
    obtain ⟨hz, hTI, ⟨x0, y0, hTO⟩, h1, h2⟩ := st
    obtain ⟨xs, ys, x, y, hqx, hqy, hx, hy⟩ := hg
    obtain ⟨its, rv, p⟩ := I.srck hqx
    obtain ⟨its2, rv2, p2⟩ := I.srck hqy
    obtain ⟨u, hu, ru⟩ := rv.get hx
    obtain ⟨u2, hu2, ru2⟩ := rv2.get hy
    have hzl : z < s.heap.objs.size := Heap.lt_size hz
    have hlt1 : i < its.toArray.size := by have := (List.getElem?_eq_some_iff.mp hu).1; simpa using this
    have hlt2 : i < its2.toArray.size := by have := (List.getElem?_eq_some_iff.mp hu2).1; simpa using this
    refine wpAny_pyNext_zipD2_item (sep_of D) (draws_k (A := X.A.in1) (k := k1) (I.ok.hd hc) i1 a D.l1i1 its.toArray) (draws_k (A := X.A.in1) (k := k2) (I.ok.hd hc) i2 b D.l2i2 its2.toArray) hz hTI hTO ⟨h1, p⟩ ⟨h2, p2⟩ hlt1 hlt2 fun x1 x2 h' tk e1 e2 z' TO' h1' h2' hT hsz hk => ?_
    obtain rfl : x1 = u := by have : its[i]? = some x1 := by simpa using e1
                              rw [hu] at this; exact (Option.some.inj this).symm
    obtain rfl : x2 = u2 := by have : its2[i]? = some x2 := by simpa using e2
                               rw [hu2] at this; exact (Option.some.inj this).symm
    refine ⟨_, rfl, wpAny_letOwnedTupleGo_zip (s := { s with heap := h', toks := tk }) z' fun h'' z'' sb => ?_⟩
    have hT2 : h''.get? s.heap.objs.size = some { cls := .type "tuple", data := .seq #[x1, x2] } := (sb.2 _ (Nat.ne_of_gt hzl)).trans hT
    have new : ObjOk X.prog X.w (upd H s.heap.objs.size (.tup [x, y])) h'' s.heap.objs.size (.tup [x, y]) :=
      ⟨by show 2 ≤ sizeLine; decide, [x1, x2], .cons ru (.cons ru2 .nil), ⟨_, hT2, rfl, _, rfl⟩⟩
    have I1 : Inv X pins σ (upd H s.heap.objs.size (.tup [x, y])) { s with heap := h'', toks := tk } :=
      I.turnedNew (t' := tk) (ch := [z, TI, TO, i1, i2]) (fun c o hb q => (sb.2 c (fun q' => hb (by simp [q']))).trans (hk c o (fun q' => hb (by simp [q'])) (fun q' => hb (by simp [q'])) (fun q' => hb (by simp [q'])) (fun q' => hb (by simp [q'])) q)) hf (Nat.le_refl _) new
    refine ⟨.ref s.heap.objs.size, _, I1, rfl, ⟨_, x, y, rfl, I.hok.fresh (Nat.le_refl _), rfl, fun l hl => by rw [I.injk hl hqx]; exact hx, fun l hl => by rw [I.injk hl hqy]; exact hy⟩, ⟨z'', ?_, ⟨x1, x2, ?_⟩, ?_, ?_⟩, fun c hcm => ?_⟩
    · exact (sb.2 _ D.TIz).trans (hk _ _ D.TIz D.TITO D.TIi1 D.TIi2 hTI)
    · exact (sb.2 _ D.TOz).trans TO'
    · exact iterK_at h1'.1 fun o q => (sb.2 _ D.i1z).trans q
    · exact iterK_at h2'.1 fun o q => (sb.2 _ D.i2z).trans q
    · have hlt : c < s.heap.objs.size := by
        have e' : c = z ∨ c = TI ∨ c = TO ∨ c = i1 ∨ c = i2 := by simpa using hcm
        rcases e' with q | q | q | q | q
        · rw [q]; exact hzl
        · rw [q]; exact Heap.lt_size hTI
        · rw [q]; exact Heap.lt_size hTO
        · rw [q]; obtain ⟨_, e1, _⟩ := iterK_there h1; exact Heap.lt_size e1
        · rw [q]; obtain ⟨_, e2, _⟩ := iterK_there h2; exact Heap.lt_size e2
      rw [upd_ne (Nat.ne_of_lt hlt)]
      exact (hf c hcm).1
  done := by
    intro X hP hw hK hc i pins s σ H E I hf st hg
    subst hP hw hK
    obtain ⟨hz, hTI, ⟨x0, y0, hTO⟩, h1, h2⟩ := st
    obtain ⟨xs, ys, hqx, hqy, l1, l2, hend⟩ := hg
    obtain ⟨its, rv, p⟩ := I.srck hqx
    obtain ⟨its2, rv2, p2⟩ := I.srck hqy
    have e1 := rv.length
    have e2 := rv2.length
    exact wpAny_pyNext_zipD2_end (sep_of D) (draws_k (A := X.A.in1) (k := k1) (I.ok.hd hc) i1 a D.l1i1 its.toArray) (draws_k (A := X.A.in1) (k := k2) (I.ok.hd hc) i2 b D.l2i2 its2.toArray) hz hTI hTO ⟨h1, p⟩ ⟨h2, p2⟩ (by simp; omega) (by simp; omega) (by simp; omega)
      fun h' tk hk => ⟨rfl, I.turnedL (t' := tk) (ch := [z, TI, TO, i1, i2]) (fun c o hb q => hk c o (fun q' => hb (by simp [q'])) (fun q' => hb (by simp [q'])) (fun q' => hb (by simp [q'])) (fun q' => hb (by simp [q'])) q) hf⟩
  self := fun A i s Q E st h => wpAny_pyIter_zip st.1 h
def iZipM (K : PySem.W.Frag) (ta : TA) : TI := fun σ H R => ta σ H fun vs H1 => ∃ k1 k2 a b xs ys, vs = [.ref a, .ref b] ∧ sqK k1 K H1 a xs ∧ sqK k2 K H1 b ys ∧ R (ItzM K k1 k2 a b) H1
theorem pi_zipM {X : Cx} {e e2 : Expr} {ta : TA} {p pos tpos : Pos} {elts : List Expr} {kk : Nat} (hg : Gl X "zip") (hm : X.mg "zip" = none) (ha : PA X [e, e2] ta)
    (hs : starEach [e, e2] X.env = (false, eval e X.env) :: starEach [e2] X.env := by rfl) (hpl : (backTo pos (starEach [e2] X.env)).any (·.1) = false := by rfl) :
    PI X (.Tuple elts kk tpos) (.Call (.Name "zip" p) [e, e2] [] pos) (iZipM X.K ta) := by
  refine ⟨fun pins s σ H R I h => ?_⟩
  refine Call_ (ld_blt I hg hm PyProof.Rows.boot_zip (PyProof.Rows.callWith_type1 (thn (ha.run pos pins s σ H _ I h) fun us s1 ⟨vs, H1, I1, r1, q1⟩ => ?_) hs hpl))
  obtain ⟨k1, k2, a, b, xs, ys, ex, hqx, hqy, q⟩ := q1
  subst ex
  cases r1 with
  | cons r rr =>
    cases rr with
    | cons r' rr =>
      cases rr
      cases r
      cases r'
      have fresh5 : ∀ c, c ∈ [s1.heap.objs.size + 4, s1.heap.objs.size + 2, s1.heap.objs.size + 3, s1.heap.objs.size, s1.heap.objs.size + 1] → FpOk X pins H1 c := fun c hcm => by
        have e' : c = s1.heap.objs.size + 4 ∨ c = s1.heap.objs.size + 2 ∨ c = s1.heap.objs.size + 3 ∨ c = s1.heap.objs.size ∨ c = s1.heap.objs.size + 1 := by simpa using hcm
        have hle : s1.heap.objs.size ≤ c := by
          rcases e' with z | z | z | z | z
          · rw [z]; exact Nat.le_add_right _ _
          · rw [z]; exact Nat.le_add_right _ _
          · rw [z]; exact Nat.le_add_right _ _
          · rw [z]; exact Nat.le_refl _
          · rw [z]; exact Nat.le_add_right _ _
        exact I1.fpOk hle (I1.hok.fresh hle)
      obtain ⟨its, rv, p1⟩ := I1.srck hqx
      obtain ⟨its2, rv2, p2⟩ := I1.srck hqy
      refine zip_begins2 (begins_k a its.toArray) (begins_k b its2.toArray) p1 p2 fun h' hz hTI hTO h1 h2 hsz hk => wpAny_pyIter_zip hz ?_
      have I2 : Inv X pins σ H1 { s1 with heap := h' } := I1.kept (t' := s1.toks) hk
      exact ⟨s1.heap.objs.size + 4, [s1.heap.objs.size + 4, s1.heap.objs.size + 2, s1.heap.objs.size + 3, s1.heap.objs.size, s1.heap.objs.size + 1], _, _, H1, rfl, I2, turn_zipM (k1 := k1) (k2 := k2) (PySem.W.ktu_apart s1.heap.objs.size a b (srcK_lt p1) (srcK_lt p2)), ⟨hz, hTI, ⟨_, _, hTO⟩, iterK_new h1, iterK_new h2⟩, fresh5, q⟩
theorem sqK_inj_none : True := trivial
theorem walk_zipM {K : PySem.W.Frag} {k1 k2 : Bool} {a b : Addr} {xs ys : List V} (hn : xs.length = ys.length) : Walk (ItzM K k1 k2 a b) xs.length (fun H => sqK k1 K H a xs ∧ sqK k2 K H b ys) (YPair (fun i => xs[i]?) (fun i => ys[i]?)) where
  goes := fun i H hi g => ⟨xs, ys, xs[i], ys[i]'(by omega), g.1, g.2, List.getElem?_eq_getElem _, List.getElem?_eq_getElem _⟩
  stops := fun H g => ⟨xs, ys, g.1, g.2, Nat.le_refl _, by omega, .inl rfl⟩
  yields := fun i H v H' hi g ⟨T, x, y, e1, e2, e3, e4, e5⟩ => ⟨T, x, y, e1, e2, e3, e4 _ g.1, e5 _ g.2⟩
end L2

namespace PySem
open Sem (wp)
open AutoSeq1 (wpAny_loadPart')
/-! ### enumerate(t), t a tuple -/
theorem wb_enum_newT (l : Addr) (items : Array Value) (n : Nat) (dct : Option Addr) (sl : Array (Option Value)) :
    Meets (Builtin.«enumerate.__new__» ⟨[.type "enumerate", .ref l], []⟩) (fun _ R s => s.heap.get? l = some { cls := .type "tuple", dict := dct, data := .seq items n, slots := sl } ∧
      R (.ok (.ret (.ref (s.heap.push { cls := .type "tuple_iterator", data := .fields #[.ref l, .int 0 0] }).objs.size)))
        { s with heap := (s.heap.push { cls := .type "tuple_iterator", data := .fields #[.ref l, .int 0 0] }).push { cls := .type "enumerate", data := .fields #[.none, .bool false, .ref s.heap.objs.size, rawInt 0, .none, .none] } }) :=
  .of_wp fun prog w A R s h => by
    obtain ⟨hp, g, d, tk, os⟩ := s; obtain ⟨hl, h⟩ := h
    have hsub := sub_enumerate
    have hL : Heap.IsTuple (Shared.heap ⟨hp, g, d, tk, os⟩) l items := ⟨_, hl, rfl, n, rfl⟩
    wp_walk using wpAny_loadPart' hl
    refine wpAny_stack_any fun st => wpAny_pure ?_
    split
    · rename_i c _ _ _ _ _
      cases (c == Value.type "enumerate")
      · wp_walk using wpAny_loadPart' hl, wpAny_pyIter_tuple hL
        exact ⟨_, rfl, h⟩
      · wp_walk using wpAny_loadPart' hl, wpAny_pyIter_tuple hL
        exact ⟨_, rfl, h⟩
    · wp_walk using wpAny_loadPart' hl, wpAny_pyIter_tuple hL
      exact ⟨_, rfl, h⟩
section
variable {prog : Program} {w : World} {A : Around} {E : Value → Shared → Prop} {s : Shared}
theorem wb_enum_tuple {l : Addr} {items : Array Value} {Q : Value → Shared → Prop} (hL : s.heap.IsTuple l items)
    (h : ∀ h', IsEnum h' (s.heap.objs.size + 1) s.heap.objs.size 0 .none → h'.IsTupleIter s.heap.objs.size l 0 → h'.objs.size = s.heap.objs.size + 2 →
      (∀ b o, s.heap.get? b = some o → h'.get? b = some o) → Q (.ref (s.heap.objs.size + 1)) { s with heap := h' }) :
    wpAny (model prog w) A (call (.type "enumerate") [.ref l]) Q E s := by
  obtain ⟨⟨c, dct, dt, sl⟩, hl, hc, n, hd⟩ := hL
  replace hc : c = .type "tuple" := hc
  replace hd : dt = .seq items n := hd
  subst hc hd
  refine callType_new F.called_enumerate (by decide) (F.typeCall_enumerate_1 _) (F.newCall_enumerate_1 _) (fun obj => F.args_object_init_2 obj _) F.entry_enumerate_new
    (wb_enum_newT l items n dct sl) ⟨hl, ?_⟩
  have hz : (s.heap.push { cls := .type "tuple_iterator", data := .fields #[.ref l, .int 0 0] }).objs.size = s.heap.objs.size + 1 := Heap.size_push ..
  show _ ∧ _
  rw [hz]
  have he : IsEnum ((s.heap.push { cls := .type "tuple_iterator", data := .fields #[.ref l, .int 0 0] }).push
      { cls := .type "enumerate", data := .fields #[.none, .bool false, .ref s.heap.objs.size, rawInt 0, .none, .none] }) (s.heap.objs.size + 1) s.heap.objs.size 0 .none := by
    have := Heap.get?_push_size (s.heap.push { cls := .type "tuple_iterator", data := .fields #[.ref l, .int 0 0] })
      (o := { cls := .type "enumerate", data := .fields #[.none, .bool false, .ref s.heap.objs.size, rawInt 0, .none, .none] }) rfl
    rw [hz] at this; exact this
  refine ⟨⟨_, he, rfl⟩, h _ he ⟨_, Heap.get?_push_of_some _ (Heap.get?_push_size _ rfl), rfl, rfl⟩ (by rw [Heap.size_push, hz]) fun b o x => Heap.get?_push_of_some _ (Heap.get?_push_of_some _ x)⟩
/-- an enumerate whose own tuple may be out -/
abbrev IsEnumG (h : Heap) (e it : Addr) (i : Int) (f0 f1 old : Value) : Prop :=
  h.get? e = some { cls := .type "enumerate", dict := none, data := .fields #[f0, f1, .ref it, rawInt i, .none, old], slots := #[] }
def FreeOr (f0 : Value) : Prop := f0 = .none ∨ ∃ a : Addr, f0 = rawInt a
theorem wb_alive {a : Addr} {Q : Option Obj → Shared → Prop} (h : Q (s.heap.get? a) s) : wpAny (model prog w) A (loadIfAlive a) Q E s := fun _ _ _ => h
theorem wb_enum_nextG {e it : Addr} {fp : List Addr} {n i : Nat} {P : Nat → Value → Prop} {St : Nat → Heap → Prop} {f0 f1 old : Value} {Q : Value → Shared → Prop}
    (D : Draws prog w A it fp n P St) (he : IsEnumG s.heap e it i f0 f1 old) (hf0 : FreeOr f0) (hst : St i s.heap) (hlt : i < n) (hne : e ≠ it) (hef : e ∉ fp)
    (hQ : ∀ x h' tk g0 g1 old', P i x → IsEnumG h' e it ((i : Int) + 1) g0 g1 old' → FreeOr g0 → St (i + 1) h' →
      h'.get? s.heap.objs.size = some { cls := .type "tuple", data := .seq #[.int i tk, x] } → h'.objs.size = s.heap.objs.size + 1 →
      (∀ b o, b ≠ e → b ≠ it → s.heap.get? b = some o → h'.get? b = some o) → Q (.ref s.heap.objs.size) { s with heap := h', toks := tk + 1 }) :
    wpAny (model prog w) A (Builtin.«enumerate.__next__» ⟨[.ref e], []⟩) (fun fin s' => ∃ v, fin = .done (.ret v) ∧ Q v s') E s := by
  obtain ⟨hp, g, d, tk₀, os⟩ := s
  show wpAny _ _ (field (.ref e) 2 >>= _) _ _ _
  refine wpAny_bind (wpAny_field he rfl (x := .ref it) rfl ?_)
  refine wpAny_bind (D.item i _ _ _ hlt hst fun x h₁ tk hPx hit₁ hs₁ => ?_)
  replace hs₁ : Heap.SameBut it hp h₁ := hs₁
  have he₁ : IsEnumG h₁ e it i f0 f1 old := (hs₁.2 e hne).trans he
  show wpAny _ _ (field (.ref e) 3 >>= _) _ _ ⟨h₁, g, d, tk, os⟩
  refine wpAny_bind (wpAny_field he₁ rfl (x := rawInt i) rfl ?_)
  show wpAny _ _ (field (.ref e) 4 >>= _) _ _ ⟨h₁, g, d, tk, os⟩
  refine wpAny_bind (wpAny_field he₁ rfl (x := .none) rfl ?_)
  show wpAny _ _ (mkInt i >>= _) _ _ ⟨h₁, g, d, tk, os⟩
  refine wpAny_bind (wpAny_mkInt ?_)
  show wpAny _ _ (setField (.ref e) 3 (rawInt ((i : Int) + 1)) >>= _) _ _ ⟨h₁, g, d, tk + 1, os⟩
  refine wpAny_bind (wpAny_setField_rec he₁ (by simp) fun h₂ he₂ hs₂ => ?_)
  replace hs₂ : Heap.SameBut e h₁ h₂ := hs₂
  replace he₂ : IsEnumG h₂ e it ((i : Int) + 1) f0 f1 old := he₂
  show wpAny _ _ (setField (.ref e) 4 .none >>= _) _ _ ⟨h₂, g, d, tk + 1, os⟩
  refine wpAny_bind (wpAny_setField_rec he₂ (by simp) fun h₃ he₃ hs₃ => ?_)
  replace hs₃ : Heap.SameBut e h₂ h₃ := hs₃
  replace he₃ : IsEnumG h₃ e it ((i : Int) + 1) f0 f1 old := he₃
  show wpAny _ _ (newTuple [.int i tk, x] >>= _) _ _ ⟨h₃, g, d, tk + 1, os⟩
  refine wpAny_bind (wpAny_newTuple ?_)
  have he₄ : IsEnumG (h₃.push { cls := .type "tuple", data := .seq #[.int i tk, x] }) e it ((i : Int) + 1) f0 f1 old := Heap.get?_push_of_some _ he₃
  generalize hh₄ : h₃.push { cls := .type "tuple", data := .seq #[.int i tk, x] } = h₄ at he₄
  have hsz : h₃.objs.size = hp.objs.size := by rw [hs₃.1, hs₂.1, hs₁.1]
  have hel : e < hp.objs.size := Heap.lt_size he
  have ht₄ : h₄.get? hp.objs.size = some { cls := .type "tuple", data := .seq #[.int i tk, x] } := by rw [← hh₄, ← hsz]; exact Heap.get?_push_size _ rfl
  have hz₄ : h₄.objs.size = hp.objs.size + 1 := by rw [← hh₄, Heap.size_push, hsz]
  have hk₄ : ∀ b o, b ≠ e → b ≠ it → hp.get? b = some o → h₄.get? b = some o := fun b o hbe hbi hb => by
    rw [← hh₄]; exact Heap.get?_push_of_some _ (hs₃.extBut b o hbe (hs₂.extBut b o hbe (hs₁.extBut b o hbi hb)))
  have hit₄ : St (i + 1) h₄ := D.frame _ _ _ hit₁ fun b hb o y => by
    have hbe : b ≠ e := fun q => hef (q ▸ hb)
    rw [← hh₄]; exact Heap.get?_push_of_some _ (hs₃.extBut b o hbe (hs₂.extBut b o hbe y))
  show wpAny _ _ (Builtin.SmallTypes.ownedTupleIsFree (.ref e) >>= _) _ _ ⟨h₄, g, d, tk + 1, os⟩
  rw [hsz]
  clear hh₄ he₃ hs₃ he₂ hs₂ he₁ hs₁ hit₁ hsz h₃ h₂ h₁
  have fin : ∀ (h₇ : Heap) (g0 g1 o' : Value), IsEnumG h₇ e it ((i : Int) + 1) g0 g1 o' → FreeOr g0 → Heap.SameBut e h₄ h₇ → Q (.ref hp.objs.size) ⟨h₇, g, d, tk + 1, os⟩ := fun h₇ g0 g1 o' a1 a2 a3 =>
    hQ x h₇ tk g0 g1 o' hPx a1 a2 (D.frame _ _ _ hit₄ fun b hb o y => a3.extBut b o (fun q => hef (q ▸ hb)) y) (a3.extBut _ _ (Nat.ne_of_gt hel) ht₄) (by show h₇.objs.size = hp.objs.size + 1; rw [a3.1, hz₄]) fun b o hbe hbi hb => a3.extBut b o hbe (hk₄ b o hbe hbi hb)
  have yes : wpAny (model prog w) A (do
      rule "enumerate.__next__.owned-tuple-again"
      let old ← field (.ref e) 5
      setField (.ref e) 5 x
      Builtin.SmallTypes.ownedTupleHandOut (.ref e) (.ref hp.objs.size)
      letGo [old] [.ref hp.objs.size]
      ret (.ref hp.objs.size)) (fun fin s' => ∃ v, fin = .done (.ret v) ∧ Q v s') E ⟨h₄, g, d, tk + 1, os⟩ := by
    refine wpAny_bind (wpAny_rule ?_)
    refine wpAny_bind (wpAny_field he₄ rfl (x := old) rfl ?_)
    refine wpAny_bind (wpAny_setField_rec he₄ (by simp) fun h₅ he₅ hs₅ => ?_)
    replace hs₅ : Heap.SameBut e h₄ h₅ := hs₅
    replace he₅ : IsEnumG h₅ e it ((i : Int) + 1) f0 f1 x := he₅
    show wpAny _ _ (Builtin.SmallTypes.ownedTupleHandOut (.ref e) (.ref hp.objs.size) >>= _) _ _ ⟨h₅, g, d, tk + 1, os⟩
    refine wpAny_bind ?_
    unfold Builtin.SmallTypes.ownedTupleHandOut
    refine wpAny_bind (wpAny_setField_rec he₅ (by simp) fun h₆ he₆ hs₆ => ?_)
    replace hs₆ : Heap.SameBut e h₅ h₆ := hs₆
    replace he₆ : IsEnumG h₆ e it ((i : Int) + 1) (rawInt hp.objs.size) f1 x := he₆
    refine wpAny_setField_rec he₆ (by simp) fun h₇ he₇ hs₇ => ?_
    replace hs₇ : Heap.SameBut e h₆ h₇ := hs₇
    replace he₇ : IsEnumG h₇ e it ((i : Int) + 1) (rawInt hp.objs.size) (.bool false) x := he₇
    exact wpAny_bind (wpAny_letGo (wpAny_pure ⟨_, rfl, fin h₇ _ _ _ he₇ (.inr ⟨_, rfl⟩) ((hs₅.trans hs₆).trans hs₇)⟩))
  refine wpAny_bind ?_
  unfold Builtin.SmallTypes.ownedTupleIsFree
  rcases hf0 with rfl | ⟨a, rfl⟩
  · refine wpAny_bind (wpAny_field he₄ rfl (x := .none) rfl (wpAny_pure ?_))
    simp only [if_true]
    exact yes
  · refine wpAny_bind (wpAny_field he₄ rfl (x := rawInt a) rfl ?_)
    show wpAny _ _ (loadIfAlive ((a : Int).toNat) >>= _) _ _ _
    refine wpAny_bind (wb_alive ?_)
    cases hal : h₄.get? ((a : Int).toNat) with
    | none =>
      show wpAny _ _ (if (none : Option Obj).isNone = true then _ else _) _ _ _
      simp only [Option.isNone_none, if_true]
      exact wpAny_pure yes
    | some oa =>
      show wpAny _ _ (if (some oa : Option Obj).isNone = true then _ else _) _ _ _
      simp only [Option.isNone_some, Bool.false_eq_true, if_false]
      refine wpAny_bind (wpAny_field he₄ rfl (x := f1) rfl ?_)
      by_cases hf : (f1 != Value.bool true) = true
      · rw [if_pos hf]
        refine wpAny_bind (wpAny_setField_rec he₄ (by simp) fun h₅ he₅ hs₅ => ?_)
        replace hs₅ : Heap.SameBut e h₄ h₅ := hs₅
        replace he₅ : IsEnumG h₅ e it ((i : Int) + 1) (rawInt a) (.bool true) old := he₅
        refine wpAny_pure ?_
        simp only [Bool.false_eq_true, if_false]
        exact wpAny_pure ⟨_, rfl, fin h₅ _ _ _ he₅ (.inr ⟨_, rfl⟩) hs₅⟩
      · rw [if_neg hf]
        refine wpAny_pure ?_
        simp only [Bool.false_eq_true, if_false]
        exact wpAny_pure ⟨_, rfl, fin h₄ _ _ _ he₄ (.inr ⟨_, rfl⟩) (Heap.SameBut.refl _ _)⟩
theorem wb_pyNext_enumG {e it : Addr} {fp : List Addr} {n i : Nat} {P : Nat → Value → Prop} {St : Nat → Heap → Prop} {f0 f1 old : Value} {Q : Option Value → Shared → Prop}
    (D : Draws prog w A.in1 it fp n P St) (he : IsEnumG s.heap e it i f0 f1 old) (hf0 : FreeOr f0) (hst : St i s.heap) (hlt : i < n) (hne : e ≠ it) (hef : e ∉ fp)
    (hQ : ∀ x h' tk g0 g1 old', P i x → IsEnumG h' e it ((i : Int) + 1) g0 g1 old' → FreeOr g0 → St (i + 1) h' →
      h'.get? s.heap.objs.size = some { cls := .type "tuple", data := .seq #[.int i tk, x] } → h'.objs.size = s.heap.objs.size + 1 →
      (∀ b o, b ≠ e → b ≠ it → s.heap.get? b = some o → h'.get? b = some o) → Q (some (.ref s.heap.objs.size)) { s with heap := h', toks := tk + 1 }) :
    wpAny (model prog w) A (pyNext (.ref e)) Q E s := by
  have hT : s.TypeIs (.ref e) "enumerate" := ⟨_, he, rfl⟩
  unfold pyNext
  exact wpAny_bind (wpAny_attempt (wpAny_callSpecial?_slot (name := Str.ofString "__next__") hT F.slot_enumerate_next
    (wpAny_call_entry F.slot_enumerate_next hT F.entry_enumerate_next
      (wb_enum_nextG D he hf0 hst hlt hne hef fun x h' tk g0 g1 o' a b c d k q r => wpAny_pure (hQ x h' tk g0 g1 o' a b c d k q r)) (F.args_enumerate_next_1 _))))
theorem wb_pyNext_enumG_end {e it : Addr} {fp : List Addr} {n : Nat} {P : Nat → Value → Prop} {St : Nat → Heap → Prop} {i : Int} {f0 f1 old : Value} {Q : Option Value → Shared → Prop}
    (D : Draws prog w A.in1 it fp n P St) (he : IsEnumG s.heap e it i f0 f1 old) (hst : St n s.heap)
    (hQ : ∀ h', Heap.ExtBut it s.heap h' → Q none { s with heap := h' }) : wpAny (model prog w) A (pyNext (.ref e)) Q E s := by
  have hT : s.TypeIs (.ref e) "enumerate" := ⟨_, he, rfl⟩
  unfold pyNext
  refine wpAny_bind (wpAny_attempt (wpAny_callSpecial?_slot (name := Str.ofString "__next__") hT F.slot_enumerate_next
    (wpAny_call_entry F.slot_enumerate_next hT F.entry_enumerate_next ?_ (F.args_enumerate_next_1 _))))
  show wpAny _ _ (field (.ref e) 2 >>= _) _ _ _
  refine wpAny_bind (wpAny_field he rfl (x := .ref it) rfl ?_)
  refine wpAny_bind (D.done _ _ _ hst fun h₁ x hs hx => ?_)
  obtain ⟨o, ho, hc⟩ := hx
  refine wpAny_bind (wpAny_isInstance (T := "StopIteration") (b := true) ⟨o, ho, hc⟩ isSubtype_stop ?_)
  exact wpAny_pure (hQ _ hs)
theorem wb_iter_enumG {e it : Addr} {i : Int} {f0 f1 old : Value} {Q : Value → Shared → Prop} (he : IsEnumG s.heap e it i f0 f1 old) (h : Q (.ref e) s) : wpAny (model prog w) A (pyIter (.ref e)) Q E s := by
  have hT : s.TypeIs (.ref e) "enumerate" := ⟨_, he, rfl⟩
  refine wpAny_pyIter_slot hT F.slot_enumerate_iter (wpAny_call_entry F.slot_enumerate_iter hT F.entry_enumerate_iter ?_ (F.args_enumerate_iter_1 _))
  show wpAny _ _ (ret (.ref e)) _ _ s
  exact wpAny_pure ⟨_, rfl, "enumerate", _, hT, F.slot_enumerate_next.lookup, h⟩
theorem wb_go_enumG {tg : Expr} {e it a : Addr} {i : Int} {f0 f1 old : Value} {Q : Unit → Shared → Prop} (he : IsEnumG s.heap e it i f0 f1 old) (hf : FreeOr f0)
    (hQ : ∀ h' g0, IsEnumG h' e it i g0 f1 old → FreeOr g0 → Heap.SameBut e s.heap h' → Q () { s with heap := h' }) :
    wpAny (model prog w) A (letOwnedTupleGo tg (.ref e) (.ref a)) Q E s := by
  have stay : Q () s := hQ s.heap f0 he hf (Heap.SameBut.refl _ _)
  have two : wpAny (model prog w) A (do
      let o ← load e
      match o.cls, o.data with
      | .type n, .fields vs =>
        if ["enumerate", "zip", "dict_itemiterator", "dict_reverseitemiterator", "odict_iterator", "itertools.zip_longest", "itertools.pairwise"].contains n && vs[0]? == some (rawInt a) then
          rule "for.unpacks-the-owned-tuple"
          updateField e 0 .none
      | _, _ => pure ()) Q E s := by
    refine wpAny_bind (wpAny_load he ?_)
    show wpAny _ A (if (["enumerate", "zip", "dict_itemiterator", "dict_reverseitemiterator", "odict_iterator", "itertools.zip_longest", "itertools.pairwise"].contains "enumerate" &&
        (#[f0, f1, .ref it, rawInt i, .none, old] : Array Value)[0]? == some (rawInt a)) = true then _ else _) Q E s
    split
    · refine wpAny_bind (wpAny_rule ?_)
      show wpAny _ A (setField (.ref e) 0 .none) Q E s
      exact wpAny_setField_rec he (by simp) fun h' he' hs' => hQ h' .none he' (.inl rfl) hs'
    · exact wpAny_pure stay
  unfold letOwnedTupleGo
  split
  · exact two
  · exact two
  · exact wpAny_pure stay
end
end PySem

namespace L2
open PySem PySem.Spec PyProof.Rows
/-! ### enumerate(v), v a list or a tuple, to any target -/
def IteM (K : PySem.W.Frag) (k : Bool) (a : Addr) : It :=
  ⟨fun i H => ∃ (xs : List V) (x : V), sqK k K H a xs ∧ xs[i]? = some x, fun i H v H' => ∃ T x, v = .ref T ∧ H T = none ∧ H' = upd H T (.tup [.int (i : Nat), x]) ∧ ∀ xs, sqK k K H a xs → xs[i]? = some x, fun i H => ∃ xs : List V, sqK k K H a xs ∧ xs.length = i⟩
theorem turn_enumM {P : Program} {w : World} {K : PySem.W.Frag} {k : Bool} {tg : Expr} (a e it : Addr) (hea : e ≠ a) (hia : a ≠ it) :
    Turn P w K tg (IteM K k a) [e, it] e (fun i h => (∃ f0 f1 old, IsEnumG h e it ((i : Nat) : Int) f0 f1 old ∧ FreeOr f0) ∧ iterK k h it a i ∧ e ≠ it) where
  mem := by simp
  obj := fun i h st b hb => by
    obtain ⟨⟨f0, f1, old, he, _⟩, hi, _⟩ := st
    have e' : b = e ∨ b = it := by simpa using hb
    rcases e' with z | z
    · rw [z]; exact ⟨_, he, fun v q => nomatch q⟩
    · rw [z]; exact iterK_there hi
  keep := fun i h h' st kp => let ⟨⟨f0, f1, old, he, hf⟩, hi, hne⟩ := st; ⟨⟨f0, f1, old, kp e (by simp) _ he, hf⟩, iterK_at hi fun o q => kp it (by simp) o q, hne⟩
  item := by
    intro X hP hw hK hc i pins s σ H E I hf st hg
    subst hP hw hK
    obtain ⟨⟨f0, f1, old, he, hfo⟩, hit, hne⟩ := st
    obtain ⟨xs, x, hq, hx⟩ := hg
    obtain ⟨its, rv, p⟩ := I.srck hq
    obtain ⟨u, hu, ru⟩ := rv.get hx
    have hel : e < s.heap.objs.size := Heap.lt_size he
    have hil : it < s.heap.objs.size := by obtain ⟨_, q, _⟩ := iterK_there hit; exact Heap.lt_size q
    have hlt : i < its.toArray.size := by have := (List.getElem?_eq_some_iff.mp hu).1; simpa using this
    refine wb_pyNext_enumG (draws_k (A := X.A.in1) (k := k) (I.ok.hd hc) it a hia its.toArray) he hfo ⟨hit, p⟩ hlt hne (by simp [hne, hea]) fun y h' tk g0 g1 o' e1 ho hg0 hit' hT hsz hk => ?_
    obtain rfl : y = u := by have : its[i]? = some y := by simpa using e1
                             rw [hu] at this; exact (Option.some.inj this).symm
    refine ⟨_, rfl, wb_go_enumG (s := { s with heap := h', toks := tk + 1 }) ho hg0 fun h'' g2 he' hg2 sb => ?_⟩
    have hT2 : h''.get? s.heap.objs.size = some { cls := .type "tuple", data := .seq #[.int i tk, y] } := (sb.2 _ (Nat.ne_of_gt hel)).trans hT
    have new : ObjOk X.prog X.w (upd H s.heap.objs.size (.tup [.int (i : Nat), x])) h'' s.heap.objs.size (.tup [.int (i : Nat), x]) :=
      ⟨by show 2 ≤ sizeLine; decide, [.int i tk, y], .cons ⟨_, rfl⟩ (.cons ru .nil), ⟨_, hT2, rfl, _, rfl⟩⟩
    have I1 : Inv X pins σ (upd H s.heap.objs.size (.tup [.int (i : Nat), x])) { s with heap := h'', toks := tk + 1 } :=
      I.turnedNew (ch := [e, it]) (fun b ob hb q => (sb.2 b (fun z => hb (by simp [z]))).trans (hk b ob (fun z => hb (by simp [z])) (fun z => hb (by simp [z])) q)) hf (Nat.le_refl _) new
    refine ⟨.ref s.heap.objs.size, _, I1, rfl, ⟨_, x, rfl, I.hok.fresh (Nat.le_refl _), rfl, fun ys hy => by rw [I.injk hy hq]; exact hx⟩, ⟨⟨g2, g1, o', ?_, hg2⟩, iterK_at hit'.1 fun o q => (sb.2 it (Ne.symm hne)).trans q, hne⟩, fun b hb => ?_⟩
    · have e1 : ((i + 1 : Nat) : Int) = (i : Int) + 1 := by omega
      rw [e1]; exact he'
    · have hb' : b < s.heap.objs.size := by
        have e' : b = e ∨ b = it := by simpa using hb
        rcases e' with z | z
        · rw [z]; exact hel
        · rw [z]; exact hil
      rw [upd_ne (Nat.ne_of_lt hb')]
      exact (hf b hb).1
  done := by
    intro X hP hw hK hc i pins s σ H E I hf st hg
    subst hP hw hK
    obtain ⟨⟨f0, f1, old, he, hfo⟩, hit, hne⟩ := st
    obtain ⟨xs, hq, hx⟩ := hg
    obtain ⟨its, rv, p⟩ := I.srck hq
    obtain ⟨c0, c1, c2, c3, c4, c5⟩ := hf it (by simp)
    have hl := rv.length
    have hn : its.toArray.size = i := by simp; omega
    exact wb_pyNext_enumG_end (draws_k (A := X.A.in1) (k := k) (I.ok.hd hc) it a hia its.toArray) he ⟨by rw [hn]; exact hit, p⟩ fun h' eb => ⟨rfl, I.turned (t' := s.toks) (fun b o hb q => eb b o hb q) c0 c1 c3 c4 c5⟩
  self := fun A i s Q E st h => let ⟨⟨_, _, _, he, _⟩, _⟩ := st; wb_iter_enumG he h
def iEnumM (K : PySem.W.Frag) (ta : TA) : TI := fun σ H R => ta σ H fun vs H1 => ∃ k a xs, vs = [.ref a] ∧ sqK k K H1 a xs ∧ R (IteM K k a) H1
theorem pi_enumM {X : Cx} {tg e : Expr} {ta : TA} {p pos : Pos} (hg : Gl X "enumerate") (hm : X.mg "enumerate" = none) (ha : PA X [e] ta) (hs : starEach [e] X.env = [(false, eval e X.env)] := by rfl) :
    PI X tg (.Call (.Name "enumerate" p) [e] [] pos) (iEnumM X.K ta) := by
  refine ⟨fun pins s σ H R I h => ?_⟩
  refine Call_ (ld_blt I hg hm boot_enumerate (PyProof.Rows.callWith_type1 (thn (ha.run pos pins s σ H _ I h) fun us s1 ⟨vs, H1, I1, r1, q1⟩ => ?_) hs rfl))
  obtain ⟨k, a, xs, ex, hq, q⟩ := q1
  subst ex
  cases r1 with
  | cons r rr =>
    cases rr
    cases r
    obtain ⟨its, rv, p'⟩ := I1.srck hq
    have hla := srcK_lt p'
    have fp2 : ∀ b ∈ [s1.heap.objs.size + 1, s1.heap.objs.size], FpOk X pins H1 b := fun b hb => by
      have e' : b = s1.heap.objs.size + 1 ∨ b = s1.heap.objs.size := by simpa using hb
      have hle : s1.heap.objs.size ≤ b := by
        rcases e' with z | z
        · rw [z]; exact Nat.le_add_right _ _
        · rw [z]; exact Nat.le_refl _
      exact I1.fpOk hle (I1.hok.fresh hle)
    have tn := fun (tg : Expr) => turn_enumM (P := X.prog) (w := X.w) (K := X.K) (k := k) (tg := tg) a (s1.heap.objs.size + 1) s1.heap.objs.size (Ne.symm (Nat.ne_of_lt (Nat.lt_succ_of_lt hla))) (Nat.ne_of_lt hla)
    cases k with
    | false =>
      refine call_enumerate_list (show s1.heap.IsList a its.toArray from p') fun h' he hit hsz hk => wpAny_pyIter_enum he ?_
      have I2 : Inv X pins σ H1 { s1 with heap := h' } := I1.kept (t' := s1.toks) hk
      exact ⟨s1.heap.objs.size + 1, [s1.heap.objs.size + 1, s1.heap.objs.size], _, _, H1, rfl, I2, tn tg, ⟨⟨_, _, _, he, .inl rfl⟩, hit, Nat.succ_ne_self _⟩, fp2, q⟩
    | true =>
      refine wb_enum_tuple (show s1.heap.IsTuple a its.toArray from p') fun h' he hit hsz hk => wpAny_pyIter_enum he ?_
      have I2 : Inv X pins σ H1 { s1 with heap := h' } := I1.kept (t' := s1.toks) hk
      exact ⟨s1.heap.objs.size + 1, [s1.heap.objs.size + 1, s1.heap.objs.size], _, _, H1, rfl, I2, tn tg, ⟨⟨_, _, _, he, .inl rfl⟩, hit, Nat.succ_ne_self _⟩, fp2, q⟩
theorem walk_enumM {K : PySem.W.Frag} {k : Bool} {a : Addr} {xs : List V} : Walk (IteM K k a) xs.length (fun H => sqK k K H a xs) (YPair (fun i => some (.int (i : Nat))) (fun i => xs[i]?)) where
  goes := fun i H hi g => ⟨xs, xs[i], g, List.getElem?_eq_getElem _⟩
  stops := fun H g => ⟨xs, g, rfl⟩
  yields := fun i H v H' hi g ⟨T, x, e1, e2, e3, e4⟩ => ⟨T, _, x, e1, e2, e3, rfl, e4 _ g⟩
end L2

namespace L2
open PySem PySem.Spec PyProof.Rows
/-! ### dict(d), the keys tuples -/
section
variable {prog : Program} {w : World} {A : Around} {E : Value → Shared → Prop} {s : Shared} {K : Type} [DecidableEq K] {knd : HeapKind prog w K}
theorem wb_call_dictH {o : Addr} {more : List (K × Addr × Value)} {Q : Value → Shared → Prop} (hu : knd.room A.in1.in1) (hoS : (o == sysModules) = false) (ho : s.heap.DictOfH knd o more)
    (hpush : (s.heap.push { cls := .type "dict", data := .dict #[] }).DictOfH knd o more)
    (hty : ∀ x ∈ more, (Shared.mk (s.heap.push { cls := .type "dict", data := .dict #[] }) s.gens s.drawn s.toks s.os).TypeIs (.ref x.2.1) "tuple") (hap : (more.map fun x => knd.hash x.1).Nodup) (hsz : more.length ≤ sizeLine)
    (h : ∀ h', h'.DictOfH knd s.heap.objs.size more → Heap.SameBut s.heap.objs.size (s.heap.push { cls := .type "dict", data := .dict #[] }) h' → Q (.ref s.heap.objs.size) { s with heap := h' }) :
    wpAny (model prog w) A (call (.type "dict") [.ref o]) Q E s := by
  refine callType_codes (Q₁ := fun obj s₁ => obj = .ref s.heap.objs.size ∧ s₁ = { s with heap := s.heap.push { cls := .type "dict", data := .dict #[] } }) F.kt_called_dict (F.kt_typeCall_dict_1 _) F.entry_dict_init (PySem.kt_code_dict_new _ ⟨rfl, rfl⟩) ?_
  rintro obj s₁ ⟨rfl, rfl⟩
  have hnew : (s.heap.push { cls := .type "dict", data := .dict #[] }).DictOfH knd s.heap.objs.size [] := ⟨_, #[], 0, Heap.get?_push_size _ rfl, ⟨rfl, rfl, rfl⟩, rfl, rfl, by simp, List.nodup_nil⟩
  have hdo : s.heap.objs.size ≠ o := by
    obtain ⟨_, _, _, hg, _⟩ := ho
    exact fun e => absurd (Heap.lt_size hg) (by rw [e]; exact Nat.lt_irrefl _)
  have hT : (Shared.mk (s.heap.push { cls := .type "dict", data := .dict #[] }) s.gens s.drawn s.toks s.os).TypeIs (.ref s.heap.objs.size) "dict" := ⟨_, Heap.get?_push_size _ rfl, rfl⟩
  refine ⟨hT, F.args_dict_init_2 _ _, ?_⟩
  unfold Builtin.«dict.__init__»
  refine wpAny_bind ?_
  unfold Builtin.Dict.selfAndRest
  refine wpAny_bind (wpAny_notOrdered_dict hT ?_)
  show wpAny _ _ (pure (s.heap.objs.size, [Value.ref o])) _ _ _
  refine wpAny_pure ?_
  show wpAny _ _ (Builtin.Dict.updateFrom "dict.__init__" s.heap.objs.size (.ref o) [] .none) _ _ _
  have hn := hpush.nodup
  refine PySem.updateFrom_dictH (A := A.in1) .none hu hdo hoS hnew hpush (.inr ⟨hty, hap⟩) (by simpa using hsz) fun h' hd' ho' hs' => ?_
  rw [PySem.storedAllH_nil_of_nodup more hn] at hd'
  exact ⟨rfl, h h' hd' hs'⟩
end
/-- the keys' hashes differ -/
def Apart (w : World) (kvs : List (List Key × V)) : Prop := (kvs.map fun p => reduceHash (Builtin.Tuple.tupleHashOf (p.1.map (keyH w)))).Nodup
def rDictT (w : World) : List V → Hp → VK → Prop := fun xs H Q => ∃ (a : Addr) (kvs : List (List Key × V)), xs = [.ref a] ∧ H a = some (.dT kvs) ∧ Apart w kvs ∧ ∀ p, H p = none → Q (.ref p) (upd H p (.dT kvs))
theorem KT.map_fst {H : Hp} : ∀ {kvs : List (List Key × V)} {xs : List (List Key × Addr × Value)}, KT H kvs xs → kvs.map (·.1) = xs.map (·.1)
  | _, _, .nil => rfl
  | _, _, .cons r t => by rw [List.map_cons, List.map_cons, r.1, KT.map_fst t]
theorem KT.tups {H : Hp} : ∀ {kvs : List (List Key × V)} {xs : List (List Key × Addr × Value)}, KT H kvs xs → ∀ x ∈ xs, H x.2.1 = some (.tup (x.1.map kV))
  | _, _, .nil, _, hm => by simp at hm
  | _, _, .cons r t, x, hm => by
    rcases List.mem_cons.mp hm with rfl | hm
    · rw [← r.1]; exact r.2.1
    · exact KT.tups t x hm
theorem KT.inj {P : Program} {w : World} {H H' : Hp} : ∀ {kvs : List (List Key × V)} {xs ys : List (List Key × Addr × Value)}, KT H kvs xs → KT H' kvs ys → xs.map (entryOfKey (tupleKind (mixKind P w))) = ys.map (entryOfKey (tupleKind (mixKind P w))) → xs = ys
  | _, _, _, .nil, .nil, _ => rfl
  | _, _, _, .cons r t, .cons r1 t1, e => by
    simp only [List.map_cons, List.cons.injEq] at e
    have e4 := KT.inj t t1 e.2
    have e5 := e.1
    unfold entryOfKey at e5
    injection e5 with f1 f2 f3
    injection f2 with f2
    rw [e4]
    congr 1
    exact Prod.ext (r.1.symm.trans r1.1) (Prod.ext f2 f3)
theorem call_dictT {X : Cx} (hu : X.A.units + 16 < cLine) : CallR X (.type "dict") (rDictT X.w) := by
  intro pins s σ H xs us Q I r q
  obtain ⟨a, kvs, ex, hd, hap, q⟩ := q
  subst ex
  obtain ⟨u, eu, rx⟩ := vals1 r
  subst eu
  cases rx
  obtain ⟨z, lo, vs, rel, dd⟩ := dt_of I.hok hd
  have hl : kvs.length = vs.length := Paired.length rel
  have hk : ∀ b o, s.heap.get? b = some o → (s.heap.push { cls := .type "dict", data := .dict #[] }).get? b = some o := fun b o e => Heap.get?_push_of_some _ e
  have I1 : Inv X pins σ H { s with heap := s.heap.push { cls := .type "dict", data := .dict #[] } } := I.kept (t' := s.toks) hk
  obtain ⟨z1, lo1, vs1, rel1, dd1⟩ := dt_of I1.hok hd
  have ev : vs1 = vs := by
    obtain ⟨o, es, ep, ho, hc, hdt, he, _⟩ := dd
    obtain ⟨o1, es1, ep1, ho1, hc1, hdt1, he1, _⟩ := dd1
    have q1 := hk _ _ ho
    rw [show (Shared.heap { s with heap := s.heap.push { cls := .type "dict", data := .dict #[] } }).get? a = some o from q1] at ho1
    cases ho1
    rw [hdt] at hdt1
    injection hdt1 with e1 e2
    subst e1
    have e3 := he.symm.trans he1
    exact (KT.inj rel rel1 e3).symm
  subst ev
  have hty : ∀ x ∈ vs1, (Shared.mk (s.heap.push { cls := .type "dict", data := .dict #[] }) s.gens s.drawn s.toks s.os).TypeIs (.ref x.2.1) "tuple" := fun x hm => by
    obtain ⟨_, its, _, ob, e, c, _⟩ := I1.hok _ _ (KT.tups rel x hm)
    exact ⟨ob, e, c⟩
  have hap' : (vs1.map fun x => (tupleKind (mixKind X.prog X.w)).hash x.1).Nodup := by
    have : (vs1.map fun x => (tupleKind (mixKind X.prog X.w)).hash x.1) = kvs.map fun p => reduceHash (Builtin.Tuple.tupleHashOf (p.1.map (keyH X.w))) := by
      have e := KT.map_fst rel
      have h1 : (vs1.map fun x => (tupleKind (mixKind X.prog X.w)).hash x.1) = (vs1.map (·.1)).map fun k => reduceHash (Builtin.Tuple.tupleHashOf (k.map (keyH X.w))) := by rw [List.map_map]; rfl
      rw [h1, ← e, List.map_map]; rfl
    rw [this]; exact hap
  refine wb_call_dictH (tupleKind_room_in1 (by show X.A.units + 1 + 1 < cLine; omega)) lo dd dd1 hty hap' (by rw [← hl]; exact z) fun h' d' hs => ?_
  have hm : (s.heap.objs.size == sysModules) = false := beq_eq_false_iff_ne.mpr (Nat.ne_of_gt I.big)
  have hf : H s.heap.objs.size = none := I.hok.fresh (Nat.le_refl _)
  obtain ⟨o, es, ep, ho, hc, hdt, he, _, hn⟩ := d'
  exact ⟨.ref s.heap.objs.size, upd H s.heap.objs.size (.dT kvs), I.laid (t' := s.toks) (fun b u e => (hs.2 b (Nat.ne_of_lt (Heap.lt_size e))).trans (Heap.get?_push_of_some _ e)) (Nat.le_refl _)
    ⟨z, hm, vs1, rel.keeps fun b ys e => by rw [upd_ne (ne_of_none e hf)]; exact e, o, es, ep, ho, hc, hdt, he, hn⟩, rfl, q _ hf⟩
end L2

namespace PySem
section
variable {prog : Program} {w : World} {A : Around} {E : Value → Shared → Prop} {s : Shared} {K : Type} [DecidableEq K] {knd : HeapKind prog w K}
theorem wb_Dict_pairsH {env : Env} {keys : List (Option Expr)} {values : List Expr} {pos : Pos} {pairs : List (Sem Value × Sem Value)} {Q : Value → Shared → Prop} (hu : knd.room A)
    (hshape : (evalEachOpt keys env).zip ((evalEach values env).map fun v => do let x ← v; standAt pos; pure x) = pairs.map fun p => (some p.1, p.2)) (h0 : pairs ≠ []) (hlen : pairs.length ≤ 15)
    (h : wpAny (model prog w) A (evalPairs pairs) (fun vs s₁ => ∃ ps, CarriesH knd s₁.heap vs ps ∧ s₁.heap.DictOfH knd s.heap.objs.size [] ∧
      ∀ h' tk, h'.DictOfH knd s.heap.objs.size (storedAllH [] ps) → Heap.SameBut s.heap.objs.size s₁.heap h' → Q (.ref s.heap.objs.size) { s₁ with heap := h', toks := tk }) E
      { s with heap := s.heap.push { cls := .type "dict", data := .dict #[] } }) :
    wpAny (model prog w) A (eval (.Dict keys values pos) env) Q E s := by
  rw [arm_eval_Dict, hshape, dictDisplay_pairs pairs h0 (by omega)]
  exact wpAny_bind (wpAny_standAt (wpAny_bind (wpAny_subDictH (knd := knd) (Q := fun d s' => wpAny (model prog w) A (pure (Value.ref d)) Q E s') hu hlen
    (wpAny_mono h (fun vs s₁ h₁ => by obtain ⟨ps, hc, hm, hq⟩ := h₁; exact ⟨ps, hc, hm, fun h' tk a b => wpAny_pure (hq h' tk a b)⟩) fun _ _ e => e))))
end
end PySem
namespace L2
open PySem PySem.Spec PyProof.Rows
/-! ### {t: v}, one pair whose key is a tuple -/
def tDisp1 (tk tv : TE) : TE := fun σ H Q => ∀ p, H p = none → tk σ (upd H p (.dT [])) fun y H1 => tv σ H1 fun z H2 => ∃ (b : Addr) (k : List Key), y = .ref b ∧ H2 b = some (.tup (k.map kV)) ∧ H2 p = some (.dT []) ∧ Q (.ref p) (upd H2 p (.dT [(k, z)]))
theorem pe_disp1T {X : Cx} {pos : Pos} {k v : Expr} {tk tv : TE} (hu : X.A.units + 1 < cLine) (hk : PE X k tk) (hv : PE X v tv) : PE X (.Dict [some k] [v] pos) (tDisp1 tk tv) := by
  refine ⟨fun pins s σ H Q I q => ?_⟩
  have hn := I.hok.fresh (Nat.le_refl s.heap.objs.size)
  have I1 := I.laid (a := s.heap.objs.size) (o := .dT []) (h' := s.heap.push { cls := .type "dict", data := .dict #[] }) (t' := s.toks) (fun _ _ q => Heap.get?_push_of_some _ q) (Nat.le_refl _) (dt_empty s.heap I.big)
  refine wb_Dict_pairsH (knd := tupleKind (mixKind X.prog X.w)) (pairs := pairTrees [some k] [v] X.env pos) (by show X.A.units < cLine; omega) (zip_pairTrees [some k] [v] X.env pos rfl rfl) (by simp [pairTrees]) (by simp [pairTrees]) ?_
  refine pairTrees_cons_walk (thn (hk.run pins _ σ _ _ I1 (q _ hn)) fun kv s2 ⟨y, H2, I2, ry, q2⟩ => thn (hv.run pins s2 σ H2 _ I2 q2) fun vv s3 ⟨z, H3, I3, rz, b, ks, ey, hb, hp, q3⟩ => ?_)
  subst ey
  cases (show kv = Value.ref b from ry)
  refine wpAny_pure ⟨[(ks, b, vv)], ⟨rfl, rfl, key_of I3.hok hb, trivial⟩, ?_, fun h' tk d' hs => ?_⟩
  · obtain ⟨zz, hd, xs, rel, dd⟩ := dt_of I3.hok hp
    cases rel
    exact dd
  · obtain ⟨zz, hd, xs, rel, dd⟩ := dt_of I3.hok hp
    have he : ∃ q, h'.get? s.heap.objs.size = some q := let ⟨q, _, _, hq, _⟩ := d'; ⟨q, hq⟩
    have d1 : h'.DictOfH (tupleKind (mixKind X.prog X.w)) s.heap.objs.size [(ks, b, vv)] := d'
    obtain ⟨o, es, ep, ho, hc, hdt, he2, his, hnd⟩ := d1
    have hpb : b ≠ s.heap.objs.size := ne_of hb hp (by intro z; cases z)
    exact ⟨.ref s.heap.objs.size, upd H3 s.heap.objs.size (.dT [(ks, z)]), d_write (ob := .dT [(ks, z)]) I3 (by rw [hp]; exact True.intro) hs he ⟨by show 1 ≤ sizeLine; decide, hd, [(ks, b, vv)], .cons ⟨rfl, by show upd H3 _ _ b = _; rw [upd_ne hpb]; exact hb, rz⟩ .nil, o, es, ep, ho, hc, hdt, he2, hnd⟩, rfl, q3⟩
/-! ### for t, v in d.items(), the keys tuples -/
def ItiT (d : Addr) (o : Obj) (kvs : List (List Key × V)) : It :=
  ⟨fun i H => H d = some (.frz o (.dT kvs)) ∧ i < kvs.length, fun i H x H' => ∃ T k v q, kvs[i]? = some (k, v) ∧ x = .ref T ∧ H T = none ∧ H q = some (.tup (k.map kV)) ∧ H' = upd H T (.tup [.ref q, v]), fun i H => H d = some (.frz o (.dT kvs)) ∧ kvs.length = i⟩
theorem Inv.frzTV {X : Cx} {pins : List (Addr × Obj)} {σ : St} {H : Hp} {s : Shared} {d : Addr} {o : Obj} {kvs : List (List Key × V)} (I : Inv X pins σ H s) (h : H d = some (.frz o (.dT kvs))) :
    (d == sysModules) = false ∧ s.heap.get? d = some o ∧ o.ExactDict ∧ ∃ (es : Array DictEntry) (ep : Nat), o.data = .dict es ep ∧ es.size = kvs.length ∧
      ∀ (i : Nat) (k : List Key) (v : V), kvs[i]? = some (k, v) → ∃ (en : DictEntry) (q : Addr), es[i]? = some en ∧ en.key = .ref q ∧ H q = some (.tup (k.map kV)) ∧ RelV v en.val := by
  obtain ⟨e0, z, hd, xs, rel, o', es, ep, ho, hc, hdt, he, hn⟩ := I.hok d _ h
  rw [ho] at e0
  cases e0
  have hl : kvs.length = xs.length := Paired.length rel
  refine ⟨hd, ho, hc, es, ep, hdt, ?_, fun i k v hi => ?_⟩
  · rw [← Array.length_toList, he, List.length_map, hl]
  · obtain ⟨⟨k', q, u⟩, hx, r1, r2, r3⟩ := paired_get rel hi
    refine ⟨entryOfKey (tupleKind (mixKind X.prog X.w)) (k', q, u), q, ?_, rfl, r2, r3⟩
    rw [← Array.getElem?_toList, he, List.getElem?_map, hx]
    rfl
theorem turn_itemsT {P : Program} {w : World} {K : PySem.W.Frag} {d : Addr} {o : Obj} {es : Array DictEntry} {ep : Nat} {kvs : List (List Key × V)} {elts : List Expr} {kk : Nat} {tpos : Pos} (it : Addr) (hod : o.data = .dict es ep) :
    Turn P w K (.Tuple elts kk tpos) (ItiT d o kvs) [it] it (fun i h => ∃ ok ov, IsItemIter h it d i kvs.length ep ok ov) where
  mem := by simp
  obj := fun i h st b hb => by
    have e : b = it := by simpa using hb
    subst e
    obtain ⟨ok, ov, e⟩ := st
    exact ⟨_, e, fun v z => nomatch z⟩
  keep := fun i h h' st k => let ⟨ok, ov, e⟩ := st; ⟨ok, ov, k it (by simp) _ e⟩
  item := by
    intro X hP hw hK hc i pins s σ H E I hf st hg
    subst hP hw hK
    obtain ⟨hd, hi⟩ := hg
    obtain ⟨hs, hgd, hx, es', ep', hdt, hsz, kv⟩ := I.frzTV hd
    obtain ⟨rfl, rfl⟩ := dict_ep hod hdt
    obtain ⟨⟨k, v⟩, hkv⟩ : ∃ p, kvs[i]? = some p := ⟨kvs[i], List.getElem?_eq_getElem hi⟩
    obtain ⟨en, q, hen, hkey, hq, rv⟩ := kv i k v hkv
    obtain ⟨ok, ov, he⟩ := st
    rw [← hsz] at he
    have hie : i < es'.size := by rw [hsz]; exact hi
    have hen' : es'[i] = en := by have := Array.getElem?_eq_getElem hie; rw [hen] at this; exact (Option.some.inj this).symm
    have hlt : it < s.heap.objs.size := Heap.lt_size he
    refine DT.nextI he ⟨o, hgd, hx, hdt⟩ hie fun h' ho hT hz hk => ?_
    refine ⟨_, rfl, wpAny_letOwnedTupleGo_items (s := { s with heap := h' }) ho fun h'' he' sb => ?_⟩
    rw [hen', hkey] at hT he'
    have hT2 : h''.get? s.heap.objs.size = some { cls := .type "tuple", data := .seq #[.ref q, en.val] } := (sb.2 _ (Nat.ne_of_gt hlt)).trans hT
    have new : ObjOk X.prog X.w (upd H s.heap.objs.size (.tup [.ref q, v])) h'' s.heap.objs.size (.tup [.ref q, v]) :=
      ⟨by show 2 ≤ sizeLine; decide, [.ref q, en.val], .cons rfl (.cons rv .nil), ⟨_, hT2, rfl, _, rfl⟩⟩
    have I1 : Inv X pins σ (upd H s.heap.objs.size (.tup [.ref q, v])) { s with heap := h'' } :=
      I.turnedNew (t' := s.toks) (ch := [it]) (fun b ob hb e => (sb.2 b (by simpa using hb)).trans (hk b ob (by simpa using hb) e)) hf (Nat.le_refl _) new
    refine ⟨.ref s.heap.objs.size, _, I1, rfl, ⟨_, k, v, q, hkv, rfl, I.hok.fresh (Nat.le_refl _), hq, rfl⟩, ⟨.ref q, en.val, ?_⟩, fun b hb => ?_⟩
    · rw [← hsz]; exact he'
    · have e : b = it := by simpa using hb
      rw [e, upd_ne (Nat.ne_of_lt hlt)]
      exact (hf it (by simp)).1
  done := by
    intro X hP hw hK hc i pins s σ H E I hf st hg
    subst hP hw hK
    obtain ⟨hd, hi⟩ := hg
    obtain ⟨f0, f1, f2, f3, f4, f5⟩ := hf it (by simp)
    obtain ⟨hs, hgd, hx, es', ep', hdt, hsz, kv⟩ := I.frzTV hd
    obtain ⟨rfl, rfl⟩ := dict_ep hod hdt
    obtain ⟨ok, ov, he⟩ := st
    rw [← hsz] at he
    exact DT.endI (I.ok.hd hc) he ⟨o, hgd, hx, hdt⟩ (by omega) fun h' eb => ⟨rfl, I.turned (t' := s.toks) (fun b ob hb e => eb b ob hb e) f0 f1 f3 f4 f5⟩
  self := fun A i s Q E st h => let ⟨_, _, e⟩ := st; PySem.W.kcp_self e h
def iItemsT (td : TE) : TI := fun σ H R => td σ H fun x H1 => ∃ d o kvs, x = .ref d ∧ H1 d = some (.frz o (.dT kvs)) ∧ R (ItiT d o kvs) H1
theorem pi_itemsT {X : Cx} {e : Expr} {td : TE} {apos cpos : Pos} {elts : List Expr} {kk : Nat} {tpos : Pos} (he : PE X e td) (hbase : attributeBase e "items" X.env (eval e X.env) = eval e X.env := by rfl) (hline : (apos.endLine == cpos.line) = true := by rfl) :
    PI X (.Tuple elts kk tpos) (.Call (.Attribute e "items" apos) [] [] cpos) (iItemsT td) := by
  refine ⟨fun pins s σ H R I h => ?_⟩
  refine wpAny_Call_method (T := "dict") (id := "dict.items") hbase rfl hline F.plainAttrs_dict F.slot_dict_items F.type_dict_items (thn (he.run pins s σ H _ I h) fun u s1 ⟨x, H1, I1, rx, d, o, kvs, ex, hd, q⟩ => ?_)
  subst ex
  obtain rfl : u = Value.ref d := rx
  obtain ⟨hs, hgd, hx, es, ep, hdt, hsz, kv⟩ := I1.frzTV hd
  have hm : DT.Raw s1.heap d es ep := ⟨o, hgd, hx, hdt⟩
  refine ⟨hm.typeIs, fun b e => by cases e; exact ⟨o, hgd, hx.2.1⟩, ?_⟩
  have I2 : Inv X pins σ H1 { s1 with heap := s1.heap.push { cls := .type "dict_items", data := .fields #[.ref d] } } := I1.kept (t' := s1.toks) fun b ob q => Heap.get?_push_of_some _ q
  have fin : wpAny (model X.prog X.w) X.A (pyIter (.ref s1.heap.objs.size)) (PIE X pins σ (.Tuple elts kk tpos) R) X.xe { s1 with heap := s1.heap.push { cls := .type "dict_items", data := .fields #[.ref d] } } := by
    refine DT.iterI (d := d) ⟨_, Heap.get?_push_size _ rfl, rfl, rfl⟩ (hm.push _) (pi_one (tk := s1.toks) I2 _ (turn_itemsT _ hdt) ⟨.none, .none, ?_⟩ q)
    rw [← hsz]
    exact Heap.get?_push_size _ rfl
  show wpAny _ _ (callWith cpos (.builtin "dict.items") [.ref d] [] []) _ X.xe s1
  exact method_meetsIn F.slot_dict_items F.entry_dict_items rfl (PySem.evalArgs_none ⟨rfl, hm.typeIs, F.args_dict_items_1 _, _, DT.meetsItems hs, hm, fin⟩)
theorem walk_itemsT {d : Addr} {o : Obj} {kvs : List (List Key × V)} : Walk (ItiT d o kvs) kvs.length (fun H => H d = some (.frz o (.dT kvs)))
    (fun i H x H' => ∃ T k v q, kvs[i]? = some (k, v) ∧ x = .ref T ∧ H T = none ∧ H q = some (.tup (k.map kV)) ∧ H' = upd H T (.tup [.ref q, v])) where
  goes := fun i H hi g => ⟨g, hi⟩
  stops := fun H g => ⟨g, rfl⟩
  yields := fun i H v H' hi g y => y
end L2

namespace WB
open L2
open PySem PySem.Spec PyProof.Rows
/-! ### max(t), t.index(n), len(set(t)), sorted of tuples -/
theorem readsAll_ints {h : Heap} : ∀ {us : List Value} {ns : List Int}, IntsAre us ns → ∃ as, ReadsAll h us (ns.map PyData.int) as
  | _, _, .nil => ⟨_, .nil⟩
  | _, _, .cons n t r => by
    obtain ⟨as, q⟩ := readsAll_ints (h := h) r
    exact ⟨_, .cons (.int ..) q⟩
def rMaxT (K : PySem.W.Frag) : List V → Hp → VK → Prop := fun vs H Q => ∃ (a : Addr) (n : Int) (ns : List Int), vs = [V.ref a] ∧ SqT K H a ((n :: ns).map V.int) ∧ Q (.int (ns.foldl max n)) H
theorem cr_maxT {X : Cx} (hc : X.calm = true) (hu : X.A.units + 64 < cLine) : CallR X (.builtin "max") (rMaxT X.K) := by
  intro pins s σ H vs us Q I r h
  obtain ⟨a, n, ns, rfl, hs, q⟩ := h
  obtain ⟨its, rv, hl, _⟩ := I.tuple hs
  rw [Vals.ref1 r]
  obtain ⟨as, hr⟩ := readsAll_ints (h := s.heap) rv.ints
  have mem : ∀ x ∈ PyData.int n :: ns.map PyData.int, ∃ k, x = PyData.int k := fun x hx => by
    rcases List.mem_cons.mp hx with rfl | hx
    · exact ⟨_, rfl⟩
    · obtain ⟨k, _, rfl⟩ := List.mem_map.mp hx; exact ⟨_, rfl⟩
  have dep : ∀ ms : List Int, PyData.depthAll (ms.map PyData.int) = 0 := fun ms => by
    induction ms with
    | nil => rfl
    | cons m r ih => simp only [List.map_cons, PyData.depthAll, PyData.depth, ih]; rfl
  refine PySem.W.max_tuple_data (I.ok.hd hc) (show s.heap.IsTuple a its.toArray from hl) (by simpa using hr) ⟨fun x hx y hy => ?_, fun x hx => ?_⟩ ?_ fun i v h' tk bs hv rd hk => ?_
  · obtain ⟨k, rfl⟩ := mem x hx
    obtain ⟨j, rfl⟩ := mem y hy
    simp [PySem.W.alike]
  · obtain ⟨k, rfl⟩ := mem x hx
    intro z; cases z
  · have := dep (n :: ns)
    rw [List.map_cons] at this
    rw [this]; omega
  · rw [PySem.W.maxD_ints] at rd
    cases rd with
    | int k t => exact ⟨.int _, H, I.kept hk, ⟨_, rfl⟩, q⟩
def rIdxI (K : PySem.W.Frag) : V → List V → Hp → VK → Prop := fun x xs H Q => ∃ (a : Addr) (ns : List Int) (k : Int), x = .ref a ∧ xs = [.int k] ∧ SqT K H a (ns.map V.int) ∧ k ∈ ns ∧ Q (.int (ns.idxOf k : Nat)) H
theorem mt_idxI {X : Cx} : MtR X "tuple.index" (rIdxI X.K) := by
  intro pins s σ H x xs v us Q I rx rxs h
  obtain ⟨a, ns, k, rfl, rfl, hs, hm, q⟩ := h
  cases rx
  obtain ⟨u, rfl, ru⟩ := vals1 rxs
  obtain ⟨t, rfl⟩ := ru
  obtain ⟨its, rv, hl, _⟩ := I.tuple hs
  exact PySem.SeqAt.tuple_index_ints (show s.heap.IsTuple a its.toArray from hl) rv.ints hm ⟨.int _, H, I.tok _, ⟨_, rfl⟩, q⟩
theorem nodup_le {α : Type} [DecidableEq α] : ∀ (ns ms : List α), ns.Nodup → (∀ x ∈ ns, x ∈ ms) → ns.length ≤ ms.length
  | [], _, _, _ => Nat.zero_le _
  | x :: r, ms, hn, hs => by
    obtain ⟨h1, h2⟩ := List.nodup_cons.mp hn
    have hx : x ∈ ms := hs x (List.mem_cons_self ..)
    have := nodup_le r (ms.erase x) h2 fun y hy => (List.mem_erase_of_ne (fun e : y = x => h1 (by rw [← e]; exact hy))).mpr (hs y (List.mem_cons_of_mem _ hy))
    rw [List.length_erase_of_mem hx] at this
    have : 0 < ms.length := List.length_pos_of_mem hx
    simp only [List.length_cons]; omega
def tLenSetT (K : PySem.W.Frag) (ta : TE) : TE := fun σ H Q => ta σ H fun x H1 => ∃ (l : Addr) (ns : List Int), x = .ref l ∧ SqT K H1 l (ns.map V.int) ∧ ns.Nodup ∧ ns.length ≤ 4000 ∧ Q (.int (ns.length : Nat)) H1
theorem pe_lenSetT {X : Cx} {a : Expr} {ta : TE} {p p2 q pos : Pos} (hg : Gl X "len") (hm : X.mg "len" = none) (hg2 : Gl X "set") (hm2 : X.mg "set" = none) (ha : PE X a ta) (hc : X.calm = true := by rfl)
    (na : starEach [a] X.env = (false, eval a X.env) :: starEach [] X.env := by rfl) : PE X (.Call (.Name "len" p) [.Call (.Name "set" p2) [a] [] q] [] pos) (tLenSetT X.K ta) := by
  refine ⟨fun pins s σ H Q I h => ?_⟩
  refine Call_ (ld_blt I hg hm boot_len ?_)
  refine PyProof.Rows.callWith_builtin1 (PyProof.Rows.args_cons ?_ rfl) rfl rfl
  refine Call_ (ld_blt I hg2 hm2 boot_set ?_)
  refine PyProof.Rows.callWith_type1 (PyProof.Rows.args_cons (thn (ha.run pins s σ H _ I h) fun v s1 ⟨x, H1, I1, r1, q1⟩ => PyProof.Rows.args_nil ?_) na) na rfl
  obtain ⟨l, ns, rfl, hq, hnd, hl, q1⟩ := q1
  cases r1
  obtain ⟨its, r, pl, hz⟩ := I1.tuple hq
  refine call_set_tupI ns (I1.ok.hd hc) (show s1.heap.IsTuple l its.toArray from pl) (by simpa using r.ints) (by unfold scanBound; omega) fun h' tk c hS hc2 hk => ?_
  refine PyProof.Rows.args_nil ?_
  obtain ⟨o, es, ep, t, ho, hex, hd, _, hnk, hmem, hsb, hf, hn, _⟩ := hS
  have hcn : c = ns.length := by
    have h1 := nodup_le ns (es.toList.map keyOf) hnd fun x hx => (hmem x).mp (by simpa using hx)
    have h0 : (es.toList.map keyOf).length = es.size := by simp
    rw [h0, hn] at h1
    omega
  have I2 : Inv X pins σ H1 { s1 with heap := h', toks := tk } := I1.kept hk
  exact call_len_set ho hex hd hf (by unfold scanBound at hsb; omega) ⟨.int ns.length, H1, I2.tok _, ⟨_, by rw [hn, hcn]⟩, q1⟩
def rSortT (K : PySem.W.Frag) : List V → Hp → VK → Prop := fun vs H Q => ∃ (a : Addr) (bs : List (Addr × List Int)), vs = [V.ref a] ∧ SqL K H a (bs.map fun b => V.ref b.1) ∧ (∀ b ∈ bs, H b.1 = some (.tup (b.2.map V.int)) ∧ b.2 ≠ []) ∧
  ∀ (bs' : List (Addr × List Int)) (p : Addr), bs'.Perm bs → H p = none → Q (.ref p) (upd H p (.lst (bs'.map fun b => V.ref b.1)))
def encT (b : Addr × List Int) : PyData := .tuple (b.2.map PyData.int)
theorem alike_ints : ∀ (a b : List Int), PySem.W.alikeAll (a.map PyData.int) (b.map PyData.int) = true
  | [], _ => by cases ‹List Int› <;> simp [PySem.W.alikeAll]
  | _ :: _, [] => by simp [PySem.W.alikeAll]
  | x :: a, y :: b => by
    have := alike_ints a b
    simp [PySem.W.alikeAll, PySem.W.alike, this]
theorem cr_sortT {X : Cx} (hu : X.A.units + 64 < cLine) : CallR X (.builtin "sorted") (rSortT X.K) := by
  intro pins s σ H vs us Q I r h
  obtain ⟨a, bs, rfl, hs, hb, q⟩ := h
  obtain ⟨its, rv, hl, hz⟩ := I.list hs
  rw [Vals.ref1 r]
  have dep : ∀ ms : List Int, PyData.depthAll (ms.map PyData.int) = 0 := fun ms => by
    induction ms with
    | nil => rfl
    | cons m r ih => simp only [List.map_cons, PyData.depthAll, PyData.depth, ih]; rfl
  have e1 : ∀ (bs : List (Addr × List Int)) (us : List Value), Vals (bs.map fun b => V.ref b.1) us → PySem.W.EachIs (fun v (b : Addr × List Int) => v = Value.ref b.1) us bs := fun bs => by
    induction bs with
    | nil => intro us r; cases r; exact .nil
    | cons b r ih => intro us r; cases r with | cons r1 r2 => exact .cons r1 (ih _ r2)
  have e2 : ∀ (bs : List (Addr × List Int)) (us : List Value), (∀ b ∈ bs, H b.1 = some (.tup (b.2.map V.int)) ∧ b.2 ≠ []) → Vals (bs.map fun b => V.ref b.1) us → PySem.W.EachIs (fun v (b : Addr × List Int) => ∃ as, Reads s.heap v (encT b) as) us bs := fun bs => by
    induction bs with
    | nil => intro us _ r; cases r; exact .nil
    | cons b r ih =>
      intro us hb r
      cases r with
      | cons r1 r2 =>
        refine .cons ?_ (ih _ (fun b' hb' => hb b' (List.mem_cons_of_mem _ hb')) r2)
        cases (show _ = Value.ref b.1 from r1)
        obtain ⟨_, its', rv', ob, ho, hc, n, hd⟩ := I.hok _ _ (hb b (List.mem_cons_self ..)).1
        obtain ⟨as, ra⟩ := readsAll_ints (h := s.heap) rv'.ints
        exact ⟨_, .tuple ho hc hd (by simpa using ra)⟩
  have e3 : ∀ (out : List Value) (bs : List (Addr × List Int)), PySem.W.EachIs (fun v (b : Addr × List Int) => v = Value.ref b.1) out bs → Vals (bs.map fun b => V.ref b.1) out := fun out bs h => by
    induction h with
    | nil => exact .nil
    | cons r _ ih => exact .cons r ih
  have hlen : bs.length ≤ sizeLine := by rw [List.length_map] at hz; exact hz
  refine PySem.W.sorted_data (enc := encT) hl.isList (e1 bs its rv) (e2 bs its hb rv) (fun d hd d' hd' => ?_) (.inl fun d hd => ?_) hlen (fun b _ => ?_) fun out ho he => ?_
  · obtain ⟨b, _, rfl⟩ := List.mem_map.mp hd
    obtain ⟨b', _, rfl⟩ := List.mem_map.mp hd'
    simpa [encT, PySem.W.alike] using alike_ints b.2 b'.2
  · obtain ⟨b, hm, rfl⟩ := List.mem_map.mp hd
    obtain ⟨_, hn⟩ := hb b hm
    cases h2 : b.2 with
    | nil => exact absurd h2 hn
    | cons x r => exact ⟨.int x, r.map PyData.int, by simp [encT, h2]⟩
  · have := dep b.2
    simp only [encT, PyData.depth, this]; omega
  · obtain ⟨ep, he'⟩ := PyProof.Rows.sortedAll_at s.heap its out.toArray
    have hp := List.mergeSort_perm bs (PySem.W.dataLe false encT)
    exact ⟨.ref _, upd H (s.heap.objs.size + 1) (.lst ((bs.mergeSort (PySem.W.dataLe false encT)).map fun b => V.ref b.1)), I.laid (t' := s.toks) (fun _ _ => PyProof.Rows.sortedAll_old) (Nat.le_succ _) ⟨by rw [List.length_map, hp.length_eq]; exact hlen, out, ep, e3 _ _ he, he'⟩, rfl, q _ _ hp (I.hok.fresh (Nat.le_succ _))⟩
/-! ### d.get(key), d a dict of the module with text keys -/
def tKGet (td ty : TE) (d : Addr) (K : PySem.W.Frag) : TE := fun σ H Q => td σ H fun x H1 => x = .ref d ∧ ty σ H1 fun y H2 => ∃ (z : Str) (r : Option Value) (v : V), y = .str z ∧ PySem.W.nsIn K d z = some r ∧ RelV v (r.getD .none) ∧ Q v H2
theorem pe_kget {X : Cx} {d : Addr} {es : Array DictEntry} {n : Nat} {o e : Expr} {apos cpos : Pos} {td ty : TE} (D : KDict X.K X.w d es n) (ho : PE X o td) (he : PE X e ty) (m : M1 X o "get" apos e cpos) :
    PE X (.Call (.Attribute o "get" apos) [e] [] cpos) (tKGet td ty d X.K) := by
  refine ⟨fun pins s σ H Q I h => ?_⟩
  refine wpAny_Call_method m.base m.few m.line PySem.F.plainAttrs_dict PySem.F.slot_dict_get PySem.F.type_dict_get (thn (ho.run pins s σ H _ I h) fun u s1 ⟨x, H1, I1, rx, ex, q1⟩ => ?_)
  subst ex
  obtain rfl : u = Value.ref d := rx
  have hmp := PySem.W.mapOf_K (prog := X.prog) (w := X.w) I1.kIn D.at_ D.lit
  refine ⟨hmp.typeIs, fun b e => by cases e; exact ⟨_, I1.kIn _ _ D.at_, rfl⟩, ?_⟩
  rw [m.trees]
  refine Calls.callWith_builtin rfl (Calls.evalArgs_plain (Calls.spliced_cons (thn (he.run pins s1 σ H1 _ I1 q1) fun iv s2 ⟨y, H2, I2, ry, z, r, v, ey, en, rv, q2⟩ => Calls.spliced_nil ?_)))
  subst ey
  obtain ⟨t, rfl⟩ := ry
  have hmp2 := PySem.W.mapOf_K (prog := X.prog) (w := X.w) I2.kIn D.at_ D.lit
  refine call_meetsIn PySem.F.slot_dict_get hmp2.typeIs PySem.F.entry_dict_get (PySem.F.args_dict_get_2 _ _) (meets_dict_get (strKind X.prog X.w) d (PySem.strKind_is X.prog X.w z t) D.low) ⟨_, hmp2, ?_⟩
  rw [PySem.W.find_K D.at_ en]
  exact ⟨v, H2, I2.tok _, rv, q2⟩
end WB

namespace WB
open PySem PySem.Spec PyProof.Rows L2
abbrev Bk (α : Type 1) := Shared → Hp → Addr → List (Str × Addr) → List Addr → α
section
variable {X : Cx}
/-- as pe_lc; what stands in the block may lean on the block's own context by what it has of X -/
theorem pe_lcD {elt tg iter : Expr} {ifs : List Expr} {scope : Scope} {own : List (Str × Nat)} {pos : Pos} {wi : TI} {g : Shared → Hp → Addr → List (Str × Addr) → List Addr → TG} {tt : Shared → Hp → Addr → List (Str × Addr) → List Addr → TT} {te : Shared → Hp → Addr → List (Str × Addr) → List Addr → TE}
    (hc : X.calm = true) (hN : X.N.Nodup) (hi : PI X tg iter wi) (ok : BlkOk X.N X.env.scope scope own)
    (hg : ∀ (s : Shared) (H : Hp) (C : Addr) (cl : List (Str × Addr)) (fp : List Addr), PG (X.blk s H scope (compEnvC scope cl C X.env) fp) tg (g s H C cl fp))
    (ht : ∀ (s : Shared) (H : Hp) (C : Addr) (cl : List (Str × Addr)) (fp : List Addr), PTs (X.blk s H scope (compEnvC scope cl C X.env) fp) ifs (tt s H C cl fp))
    (he : ∀ (s : Shared) (H : Hp) (C : Addr) (cl : List (Str × Addr)) (fp : List Addr), PE (X.blk s H scope (compEnvC scope cl C X.env) fp) elt (te s H C cl fp))
    (eg : ∀ s H C cl fp, g s H C cl fp = g X.s_0 X.H_0 0 [] [] := by intros; rfl) (et : ∀ s H C cl fp, tt s H C cl fp = tt X.s_0 X.H_0 0 [] [] := by intros; rfl) (ee : ∀ s H C cl fp, te s H C cl fp = te X.s_0 X.H_0 0 [] [] := by intros; rfl)
    (hs : ∀ x, foldedSetIterable iter X.env x = pure x := by intro _; rfl) : PE X (.ListComp elt [⟨tg, iter, ifs, 0⟩] scope pos) (tLc wi (g X.s_0 X.H_0 0 [] []) (tt X.s_0 X.H_0 0 [] []) (te X.s_0 X.H_0 0 [] []) (own.map (·.2))) :=
  pe_lc hc hN hi ok (fun s H C cl fp => by rw [← eg s H C cl fp]; exact hg s H C cl fp) (fun s H C cl fp => by rw [← et s H C cl fp]; exact ht s H C cl fp) (fun s H C cl fp => by rw [← ee s H C cl fp]; exact he s H C cl fp) hs
theorem ps_setLcD {i : Nat} {y : Str} {py : Pos} {elt tg iter : Expr} {ifs : List Expr} {scope : Scope} {own : List (Str × Nat)} {pos spos : Pos} {wi : TI} {g : Shared → Hp → Addr → List (Str × Addr) → List Addr → TG} {tt : Shared → Hp → Addr → List (Str × Addr) → List Addr → TT} {te : Shared → Hp → Addr → List (Str × Addr) → List Addr → TE}
    (hc : X.calm = true) (hN : X.N.Nodup) (hy : X.N[i]? = some y) (hyl : X.env.scope.names.lookup y = some .local) (hsw : swapsWith (.ListComp elt [⟨tg, iter, ifs, 0⟩] scope pos) (some (.Name y py)) spos.line X.env = pure true) (hi : PI X tg iter wi) (ok : BlkOk X.N X.env.scope scope own)
    (hg : ∀ (s : Shared) (H : Hp) (C : Addr) (cl : List (Str × Addr)) (fp : List Addr), PG (X.blk s H scope (compEnvC scope cl C X.env) fp) tg (g s H C cl fp))
    (ht : ∀ (s : Shared) (H : Hp) (C : Addr) (cl : List (Str × Addr)) (fp : List Addr), PTs (X.blk s H scope (compEnvC scope cl C X.env) fp) ifs (tt s H C cl fp))
    (he : ∀ (s : Shared) (H : Hp) (C : Addr) (cl : List (Str × Addr)) (fp : List Addr), PE (X.blk s H scope (compEnvC scope cl C X.env) fp) elt (te s H C cl fp))
    (eg : ∀ s H C cl fp, g s H C cl fp = g X.s_0 X.H_0 0 [] [] := by intros; rfl) (et : ∀ s H C cl fp, tt s H C cl fp = tt X.s_0 X.H_0 0 [] [] := by intros; rfl) (ee : ∀ s H C cl fp, te s H C cl fp = te X.s_0 X.H_0 0 [] [] := by intros; rfl)
    (hs : ∀ x, foldedSetIterable iter X.env x = pure x := by intro _; rfl) : PS X (.Assign [.Name y py] (.ListComp elt [⟨tg, iter, ifs, 0⟩] scope pos) spos) (tAsg (tLc wi (g X.s_0 X.H_0 0 [] []) (tt X.s_0 X.H_0 0 [] []) (te X.s_0 X.H_0 0 [] []) (own.map (·.2))) (gName i)) :=
  ps_setLc hc hN hy hyl hsw hi ok (fun s H C cl fp => by rw [← eg s H C cl fp]; exact hg s H C cl fp) (fun s H C cl fp => by rw [← et s H C cl fp]; exact ht s H C cl fp) (fun s H C cl fp => by rw [← ee s H C cl fp]; exact he s H C cl fp) hs
theorem pe_dcD {kx vx tg iter : Expr} {ifs : List Expr} {scope : Scope} {own : List (Str × Nat)} {pos : Pos} {wi : TI} {g : Shared → Hp → Addr → List (Str × Addr) → List Addr → TG} {tt : Shared → Hp → Addr → List (Str × Addr) → List Addr → TT} {tk tv : Shared → Hp → Addr → List (Str × Addr) → List Addr → TE}
    (hc : X.calm = true) (hN : X.N.Nodup) (hi : PI X tg iter wi) (ok : BlkOk X.N X.env.scope scope own)
    (hg : ∀ (s : Shared) (H : Hp) (C : Addr) (cl : List (Str × Addr)) (fp : List Addr), PG (X.blk s H scope (compEnvC scope cl C X.env) fp) tg (g s H C cl fp))
    (ht : ∀ (s : Shared) (H : Hp) (C : Addr) (cl : List (Str × Addr)) (fp : List Addr), PTs (X.blk s H scope (compEnvC scope cl C X.env) fp) ifs (tt s H C cl fp))
    (hk : ∀ (s : Shared) (H : Hp) (C : Addr) (cl : List (Str × Addr)) (fp : List Addr), PE (X.blk s H scope (compEnvC scope cl C X.env) fp) kx (tk s H C cl fp))
    (he : ∀ (s : Shared) (H : Hp) (C : Addr) (cl : List (Str × Addr)) (fp : List Addr), PE (X.blk s H scope (compEnvC scope cl C X.env) fp) vx (tv s H C cl fp))
    (eg : ∀ s H C cl fp, g s H C cl fp = g X.s_0 X.H_0 0 [] [] := by intros; rfl) (et : ∀ s H C cl fp, tt s H C cl fp = tt X.s_0 X.H_0 0 [] [] := by intros; rfl) (ek : ∀ s H C cl fp, tk s H C cl fp = tk X.s_0 X.H_0 0 [] [] := by intros; rfl) (ee : ∀ s H C cl fp, tv s H C cl fp = tv X.s_0 X.H_0 0 [] [] := by intros; rfl)
    (hs : ∀ x, foldedSetIterable iter X.env x = pure x := by intro _; rfl) : PE X (.DictComp kx vx [⟨tg, iter, ifs, 0⟩] scope pos) (tDc wi (g X.s_0 X.H_0 0 [] []) (tt X.s_0 X.H_0 0 [] []) (tk X.s_0 X.H_0 0 [] []) (tv X.s_0 X.H_0 0 [] []) (own.map (·.2))) :=
  pe_dc hc hN hi ok (fun s H C cl fp => by rw [← eg s H C cl fp]; exact hg s H C cl fp) (fun s H C cl fp => by rw [← et s H C cl fp]; exact ht s H C cl fp) (fun s H C cl fp => by rw [← ek s H C cl fp]; exact hk s H C cl fp) (fun s H C cl fp => by rw [← ee s H C cl fp]; exact he s H C cl fp) hs
end
end WB

namespace WB
open PySem PySem.Spec PyProof.Rows L2
open PySem.AutoSeq1 (wpAny_loadPart')
/-! ### t * 1 -/
theorem tuple_mul1 (l : Addr) (items : Array Value) (n : Nat) (dd : Option Addr) (sl : Array (Option Value)) (u : Tok) :
    Meets (Builtin.«tuple.__mul__» ⟨[.ref l, .int 1 u], []⟩) (fun _ R s => s.heap.get? l = some { cls := .type "tuple", dict := dd, data := .seq items n, slots := sl } ∧
      R (.ok (.ret (Value.ref l))) s) :=
  .of_wp fun prog w A R s h => by
    obtain ⟨hp, g, d, tk, os⟩ := s
    obtain ⟨hl, h⟩ := h
    have f1 := AutoSeq1.idx_int
    wp_walk using wpAny_loadPart' hl
    repeat (first
      | (refine wpAny_ite_false (decide_eq_false (by decide)) ?_; wp_walk using wpAny_loadPart' hl)
      | (refine wpAny_ite_true (decide_eq_true (by simp)) ?_; wp_walk using wpAny_loadPart' hl))
    exact ⟨_, rfl, h⟩
/-- a tuple times a number from one on -/
def rRepU (K : PySem.W.Frag) : R2 := fun x y H Q => ∃ l k xs, x = .ref l ∧ y = .int k ∧ SqT K H l xs ∧ xs ≠ [] ∧ 1 ≤ k ∧ k ≤ 1000 ∧ xs.length ≤ 1000 ∧ (k = 1 → Q (.ref l) H) ∧ (2 ≤ k → ∀ p, H p = none → Q (.ref p) (upd H p (.tup (List.replicate k.toNat xs).flatten)))
theorem op_repU {X : Cx} : OpR X (binaryOp .Mult) (rRepU X.K) := by
  intro pins s σ H x y v u Q I rx ry h
  obtain ⟨l, k, xs, rfl, rfl, hT, hne, h1, h2, hz, q1, q2⟩ := h
  by_cases hk : k = 1
  · subst hk
    cases rx
    obtain ⟨t, rfl⟩ := ry
    obtain ⟨its, r, ⟨⟨cls, dd, data, sl⟩, ho, hc, n, hd⟩, hs⟩ := I.tuple hT
    simp only at hc hd
    subst hc hd
    exact wpAny_binaryOp_repeat_ref (T := "tuple") (U := "int") (by decide) ⟨_, ho, rfl⟩ (fun s' => typeIs_int s' 1 t) noFill_tuple_mul F.fills_int_mul F.slot_int_rmul repeat_tuple F.slot_int_index.lookup
      (call_meets F.slot_int_rmul (typeIs_int s 1 t) F.entry_int_rmul (F.args_int_rmul_2 _ _) (int_rmul_tuple 1 t l its.toArray n dd sl)
        ⟨ho, rfl, ⟨_, ho, rfl⟩, call_meets F.slot_tuple_mul ⟨_, ho, rfl⟩ F.entry_tuple_mul (F.args_tuple_mul_2 _ _) (tuple_mul1 l its.toArray n dd sl t) ⟨ho, .ref l, H, I, rfl, q1 rfl⟩⟩)
  · exact op_repT pins s σ H (.ref l) (.int k) v u Q I rx ry ⟨l, k, xs, rfl, rfl, hT, hne, by omega, h2, hz, q2 (by omega)⟩
/-! ### raise X(), X an own class without own __init__ -/
theorem pmk_own0 {X : Cx} {C : Addr} {bmB : List Value} {B newId initId : String} {x : Str} {p pos : Pos} (F : ExcBaseFacts B newId initId bmB) (q : PySem.W.excIn X.K C bmB newId = true) (gC : X.mg x = some (.ref C)) (kC : PySem.W.keepIn X.K (.ref C) = true) (r : Raises X (.ref C)) (hg : Gl X x)
    (hdb : (x == ("__debug__" : Str)) = false := by decide) : PMk X (.Call (.Name x p) [] [] pos) (fun _ H Q => Q (.ref C) none H) := by
  intro pins s σ H Q I h
  refine wpAny_Call_Name_kw (ld_glob I hg gC ?_ hdb)
  refine PySem.W.callWith_K0 I.kIn kC (show wpAny _ _ (call (.ref C) []) _ _ _ from ?_)
  obtain ⟨bm, N, nm, qn, bs, hdct, sn, sub, ab, col, dd, k0, k1, k2, k3, k5, mN, hC, hN, hni, T⟩ := exc_obj I.kIn q
  refine wpAny_call_exc_subT F T hC hN hni (fun h' e hm => ?_) (by show 0 ≤ sizeLine; omega)
  exact mk_of I hm r h (I.hok.gone hm.new)
/-! ### methods and classes, bundled -/
structure CalM (P : Program) (w : World) (K : PySem.W.Frag) (mg : Str → Option Value) (base : Heap) (CX : CXT) (k : Nat) (C : Addr) (m : Str) (ps : List Str) (sp : Sp) : Prop where
  ex : ∃ (f : Addr) (fd : FuncData), FnOk P w K mg base CX k f fd ps sp ∧ Meth K C m f ∧ Binds K fd ps []
  cl : Cls K C
theorem pe_mc {X : Cx} {CX : CXT} {k : Nat} {C : Addr} {m : Str} {ps : List Str} {sp : Sp} {E : XK} {apos pos : Pos} {o e : Expr} {es : List Expr} {ta : TE} {t : TA} {pl : Sem Bool} (he : PE X o ta) (c : CalM X.prog X.w X.K X.mg X.base CX k C m ps sp) (hr : Room k X.A) (hx : Passes CX X E) (ha : PA X (e :: es) t)
    (hst : starEach (e :: es) X.env = (false, eval e X.env) :: starEach es X.env := by rfl) (hpl : (backTo pos (starEach es X.env)).any (·.1) = false := by rfl)
    (ht : eval (.Call (.Attribute o m apos) (e :: es) [] pos) X.env = (do let ov ← eval o X.env; standAt apos.atName; let (f, first) ← holding [ov] (getMethod ov m pl); callWith pos f first (backTo pos (starEach (e :: es) X.env)) (backToKw pos (keywordEach [] X.env))) := by rfl) :
    PE X (.Call (.Attribute o m apos) (e :: es) [] pos) (tMeth C m sp [] E ta t) := by
  obtain ⟨f, fd, G, M, b⟩ := c.ex
  exact pe_meth he c.cl M G hr b .nil hx ha hst hpl ht
theorem pe_mc0 {X : Cx} {CX : CXT} {k : Nat} {C : Addr} {m : Str} {ps : List Str} {sp : Sp} {E : XK} {apos pos : Pos} {o : Expr} {ta : TE} {pl : Sem Bool} (he : PE X o ta) (c : CalM X.prog X.w X.K X.mg X.base CX k C m ps sp) (hr : Room k X.A) (hx : Passes CX X E)
    (ht : eval (.Call (.Attribute o m apos) [] [] pos) X.env = (do let ov ← eval o X.env; standAt apos.atName; let (f, first) ← holding [ov] (getMethod ov m pl); callWith pos f first (backTo pos (starEach [] X.env)) (backToKw pos (keywordEach [] X.env))) := by rfl) :
    PE X (.Call (.Attribute o m apos) [] [] pos) (tMeth C m sp [] E ta tNil) := by
  obtain ⟨f, fd, G, M, b⟩ := c.ex
  exact pe_meth0 he c.cl M G hr b .nil hx ht
structure CalC (P : Program) (w : World) (K : PySem.W.Frag) (mg : Str → Option Value) (base : Heap) (CX : CXT) (k : Nat) (x : Str) (C : Addr) (ps : List Str) (sp : Sp) : Prop where
  ex : ∃ (f : Addr) (fd : FuncData), FnOk P w K mg base CX k f fd ps sp ∧ Mk K C f ∧ Binds K fd ps []
  mg : mg x = some (.ref C)
theorem pe_mk {X : Cx} {CX : CXT} {k : Nat} {C : Addr} {x : Str} {ps : List Str} {sp : Sp} {E : XK} {p pos : Pos} {e : Expr} {es : List Expr} {t : TA} (c : CalC X.prog X.w X.K X.mg X.base CX k x C ps sp) (hr : Room (k + 1) X.A) (hx : Passes CX X E) (ha : PA X (e :: es) t) (hg : Gl X x := by rfl)
    (hdb : (x == ("__debug__" : Str)) = false := by decide) (he : starEach (e :: es) X.env = (false, eval e X.env) :: starEach es X.env := by rfl) (hpl : (backTo pos (starEach es X.env)).any (·.1) = false := by rfl) : PE X (.Call (.Name x p) (e :: es) [] pos) (tMake C sp [] E t) := by
  obtain ⟨f, fd, G, M, b⟩ := c.ex
  exact pe_make M G hr hg c.mg b .nil hx ha hdb he hpl
end WB

namespace WB
open PySem PySem.Spec PyProof.Rows L2
/-! ### tuple(list), the new tuple known to have no dict; its methods -/
def OT (H : Hp) (o : Addr) (xs : List V) : Prop := ∃ ob : Obj, ob.dict = none ∧ H o = some (.frz ob (.tup xs))
theorem OT.sq {K : PySem.W.Frag} {H : Hp} {o : Addr} {xs : List V} (h : OT H o xs) : SqT K H o xs := let ⟨ob, _, e⟩ := h; .inl (.inr ⟨ob, e⟩)
theorem OT.same {H H' : Hp} {o : Addr} {xs : List V} (s : Same H H') (h : OT H o xs) : OT H' o xs := let ⟨ob, d, e⟩ := h; ⟨ob, d, s _ _ e⟩
theorem OT.ty {K : PySem.W.Frag} {H : Hp} {o : Addr} {xs : List V} (h : OT H o xs) : TyX K H (.ref o) (.type "tuple") := let ⟨_, _, e⟩ := h; .fTuple e
def kTupZ (K : PySem.W.Frag) (x : V) (H : Hp) (Q : VK) : Prop := ∃ p xs, x = .ref p ∧ SqL K H p xs ∧ ∀ q ob, ob.dict = none → H q = none → Q (.ref q) (upd H q (.frz ob (.tup xs)))
section
variable {X : Cx} {a : Expr} {ta : TE}
theorem rl_tupleZ (pins : List (Addr × Obj)) (s : Shared) (σ : L2.St) (H : Hp) (x : V) (v : Value) (Q : VK) (I : Inv X pins σ H s) (r : RelV x v) (h : kTupZ X.K x H Q) : wpAny (model X.prog X.w) X.A (call (.type "tuple") [v]) (EP X pins σ Q) X.xe s := by
  obtain ⟨p, xs, rfl, hs, q⟩ := h
  cases r
  obtain ⟨its, rv, pl, hz⟩ := I.list hs
  refine call_tuple_list pl.isList (fun h' hk => ?_) (by rw [List.size_toArray, ← rv.length]; exact hz)
  have I1 : Inv X pins σ H { s with heap := h' } := I.kept (t' := s.toks) hk
  have hg : (h'.push { cls := .type "tuple", data := .seq its.toArray }).get? h'.objs.size = some { cls := .type "tuple", data := .seq its.toArray } := Heap.get?_push_size _ rfl
  exact ⟨.ref h'.objs.size, _, I1.laid (o := .frz { cls := .type "tuple", data := .seq its.toArray } (.tup xs)) (t' := s.toks) (fun b o e => Heap.get?_push_of_some _ e) (Nat.le_refl _) ⟨hg, hz, its, rv, IsTup.new _ _⟩, rfl, q _ _ rfl (I1.hok.fresh (Nat.le_refl _))⟩
theorem pe_tupleZ {p pos : Pos} (hg : Gl X "tuple") (hm : X.mg "tuple" = none) (ha : PE X a ta) (na : starEach [a] X.env = (false, eval a X.env) :: starEach [] X.env := by rfl) :
    PE X (.Call (.Name "tuple" p) [a] [] pos) (tThen ta (kTupZ X.K)) :=
  ⟨fun pins s σ H Q I h => Call_ (ld_blt I hg hm boot_tuple (PyProof.Rows.callWith_type1 (one_arg ha I h (fun v s2 x H2 I2 r q => rl_tupleZ pins s2 σ H2 x v Q I2 r q) na) na))⟩
def tBMZ (r : V → List V → Hp → VK → Prop) (to : TE) (t : TA) : TE := fun σ H Q => to σ H fun x H1 => (∃ p xs, x = .ref p ∧ OT H1 p xs) ∧ t σ H1 fun xs H2 => r x xs H2 Q
theorem pe_bmZ {o e : Expr} {es : List Expr} {to : TE} {t : TA} {name : Str} {apos cpos : Pos} {id : String} {r : V → List V → Hp → VK → Prop} (slot : Slot "tuple" name id) (hty : typeOf (.builtin id) = pure (.type "method_descriptor")) (hm : MtR X id r) (ho : PE X o to) (ha : PA X (e :: es) t)
    (hbase : attributeBase o name X.env (eval o X.env) = eval o X.env := by rfl)
    (hfew : ((backTo cpos (starEach (e :: es) X.env)).all (fun x => !x.1) && (backToKw cpos (keywordEach [] X.env)).all (fun x => x.1.isSome)
      && decide ((e :: es).length + ([] : List Keyword).length + (if ([] : List Keyword).isEmpty then 0 else 1) < 30)) = true := by rfl)
    (hline : (apos.endLine == cpos.line) = true := by rfl) (hs : starEach (e :: es) X.env = (false, eval e X.env) :: starEach es X.env := by rfl) (hplain : (backTo cpos (starEach es X.env)).any (·.1) = false := by rfl) :
    PE X (.Call (.Attribute o name apos) (e :: es) [] cpos) (tBMZ r to t) := by
  refine ⟨fun pins s σ H Q I h => ?_⟩
  refine wpAny_Call_method hbase hfew hline PySem.F.plainAttrs_tuple slot hty (thn (ho.run pins s σ H _ I h) fun v s1 ⟨x, H1, I1, r1, hz, q1⟩ => ?_)
  obtain ⟨p, xs, rfl, ob, hd, hob⟩ := hz
  cases r1
  obtain ⟨hgp, _, its, rv, hT⟩ := I1.hok p _ hob
  refine ⟨let ⟨o2, e2, c2, _⟩ := hT; ⟨o2, e2, c2⟩, fun b eb => by cases eb; exact ⟨ob, hgp, hd⟩, ?_⟩
  have hA := ha.run cpos pins s1 σ H1 _ I1 q1
  rw [hs] at hA ⊢
  refine Calls.callWith_builtin (by show (false || (backTo cpos (starEach es X.env)).any (·.1)) = false; rw [hplain] <;> rfl) (Calls.evalArgs_plain ?_)
  exact thn hA fun us s2 ⟨vs, H2, I2, r2, q2⟩ => hm pins s2 σ H2 (.ref p) vs (.ref p) us Q I2 rfl r2 q2
end
end WB

/-! Plain mathematics: the pieces of a knob's values. -/
namespace Pm
def sumTo (f : Nat → Int) : Nat → Int
  | 0 => 0
  | n + 1 => sumTo f n + f n
theorem sumTo_congr {f g : Nat → Int} : ∀ {n : Nat}, (∀ b, b < n → f b = g b) → sumTo f n = sumTo g n
  | 0, _ => rfl
  | n + 1, h => by
    show sumTo f n + f n = sumTo g n + g n
    rw [sumTo_congr fun b hb => h b (by omega), h n (by omega)]
theorem sumTo_one {f g : Nat → Int} {k : Nat} {d : Int} : ∀ {n : Nat}, (∀ b, b < n → f b = g b + if b = k then d else 0) → sumTo f n = sumTo g n + if k < n then d else 0
  | 0, _ => by simp [sumTo]
  | n + 1, h => by
    show sumTo f n + f n = sumTo g n + g n + _
    rw [sumTo_one (k := k) (d := d) fun b hb => h b (by omega), h n (by omega)]
    by_cases h1 : k < n
    · rw [if_pos h1, if_neg (by omega), if_pos (by omega)]; omega
    · by_cases h2 : n = k
      · rw [if_neg h1, if_pos h2, if_pos (by omega)]; omega
      · rw [if_neg h1, if_neg h2, if_neg (by omega)]; omega
/-! ### a book's choice -/
def isMax (ord : List Nat) (f : Nat → Int) (c : Nat) : Bool := ord.all fun o => decide (f o ≤ f c)
def pick (ord : List Nat) (f : Nat → Int) : Nat := (ord.find? (isMax ord f)).getD 0
def rk : List Nat → Nat → Nat
  | [], _ => 0
  | x :: r, o => if x = o then 0 else rk r o + 1
theorem rk_idx : ∀ (l : List Nat) (o : Nat), rk l o = l.idxOf o
  | [], _ => rfl
  | x :: r, o => by
    rw [rk, List.idxOf_cons, rk_idx r o]
    by_cases h : x = o
    · simp [h]
    · have : (x == o) = false := by simpa using h
      simp [h, this]
def lead (ord : List Nat) (f : Nat → Int) (c o : Nat) : Int := f c - f o - (if rk ord o < rk ord c then 1 else 0)
theorem isMax_iff {ord : List Nat} {f : Nat → Int} {c : Nat} : isMax ord f c = true ↔ ∀ o ∈ ord, f o ≤ f c := by simp [isMax]
theorem max_ex (f : Nat → Int) : ∀ l : List Nat, l ≠ [] → ∃ c ∈ l, ∀ o ∈ l, f o ≤ f c
  | [], h => absurd rfl h
  | [x], _ => ⟨x, by simp, by simp⟩
  | x :: y :: r, _ => by
    obtain ⟨c, hc, hm⟩ := max_ex f (y :: r) (by simp)
    by_cases h : f x ≤ f c
    · exact ⟨c, List.mem_cons_of_mem _ hc, fun o ho => by
        rcases List.mem_cons.mp ho with rfl | ho
        · exact h
        · exact hm o ho⟩
    · exact ⟨x, List.mem_cons_self .., fun o ho => by
        rcases List.mem_cons.mp ho with rfl | ho
        · exact Int.le_refl _
        · have := hm o ho; omega⟩
/-- the first of a list of which p holds, by ranks -/
theorem find_rk {p : Nat → Bool} : ∀ {l : List Nat} {c : Nat}, l.find? p = some c → c ∈ l ∧ p c = true ∧ ∀ o ∈ l, rk l o < rk l c → p o = false
  | [], _, h => by simp at h
  | x :: r, c, h => by
    rw [List.find?_cons] at h
    by_cases hx : p x = true
    · rw [hx] at h
      have e : x = c := Option.some.inj h
      subst e
      refine ⟨List.mem_cons_self .., hx, fun o _ hr => ?_⟩
      simp [rk] at hr
    · have hx' : p x = false := by simpa using hx
      rw [hx'] at h
      obtain ⟨h1, h2, h3⟩ := find_rk (l := r) h
      refine ⟨List.mem_cons_of_mem _ h1, h2, fun o ho hr => ?_⟩
      by_cases e : x = o
      · rw [← e]; exact hx'
      · have ho' : o ∈ r := by
          rcases List.mem_cons.mp ho with q | q
          · exact absurd q.symm e
          · exact q
        have e2 : x ≠ c := fun q => by rw [q, h2] at hx'; cases hx'
        simp only [rk, if_neg e, if_neg e2] at hr
        exact h3 o ho' (by omega)
theorem pick_ok {ord : List Nat} (hne : ord ≠ []) (f : Nat → Int) : ord.find? (isMax ord f) = some (pick ord f) := by
  cases h : ord.find? (isMax ord f) with
  | none =>
    obtain ⟨c, hc, hm⟩ := max_ex f ord hne
    have := List.find?_eq_none.mp h c hc
    exact absurd (isMax_iff.mpr hm) (by simpa using this)
  | some c => simp [pick, h]
theorem pick_mem {ord : List Nat} (hne : ord ≠ []) (f : Nat → Int) : pick ord f ∈ ord := (find_rk (pick_ok hne f)).1
theorem pick_max {ord : List Nat} (hne : ord ≠ []) (f : Nat → Int) : ∀ o ∈ ord, f o ≤ f (pick ord f) := isMax_iff.mp (find_rk (pick_ok hne f)).2.1
theorem pick_lead {ord : List Nat} (hne : ord ≠ []) (f : Nat → Int) {o : Nat} (ho : o ∈ ord) : 0 ≤ lead ord f (pick ord f) o := by
  obtain ⟨h1, h2, h3⟩ := find_rk (pick_ok hne f)
  have hm := isMax_iff.mp h2
  unfold lead
  have h0 := hm o ho
  by_cases hr : rk ord o < rk ord (pick ord f)
  · have h4 := h3 o ho hr
    have : ¬ ∀ x ∈ ord, f x ≤ f o := fun q => by rw [isMax_iff.mpr q] at h4; cases h4
    have : ∃ x ∈ ord, f o < f x := by
      apply Classical.byContradiction
      intro q
      exact this fun x hx => by
        apply Classical.byContradiction
        intro z
        exact q ⟨x, hx, by omega⟩
    obtain ⟨x, hx, hlt⟩ := this
    have := hm x hx
    rw [if_pos hr]; omega
  · rw [if_neg hr]; omega
theorem rk_inj : ∀ {l : List Nat} {a b : Nat}, a ∈ l → b ∈ l → rk l a = rk l b → a = b
  | [], _, _, h, _, _ => by simp at h
  | x :: r, a, b, ha, hb, e => by
    by_cases h1 : x = a
    · by_cases h2 : x = b
      · omega
      · simp [rk, h1] at e
        have : ¬ a = b := fun q => h2 (h1.trans q)
        simp [this] at e
    · by_cases h2 : x = b
      · simp [rk, h1, h2] at e
        omega
      · simp only [rk, if_neg h1, if_neg h2] at e
        have ha' : a ∈ r := by
          rcases List.mem_cons.mp ha with q | q
          · exact absurd q.symm h1
          · exact q
        have hb' : b ∈ r := by
          rcases List.mem_cons.mp hb with q | q
          · exact absurd q.symm h2
          · exact q
        exact rk_inj ha' hb' (by omega)
theorem pick_uniq {ord : List Nat} {f : Nat → Int} {c : Nat} (hc : c ∈ ord) (h : ∀ o ∈ ord, 0 ≤ lead ord f c o) : pick ord f = c := by
  have hne : ord ≠ [] := fun e => by rw [e] at hc; simp at hc
  have hm : ∀ o ∈ ord, f o ≤ f c := fun o ho => by
    have := h o ho
    unfold lead at this
    split at this <;> omega
  obtain ⟨h1, h2, h3⟩ := find_rk (pick_ok hne f)
  have hp := isMax_iff.mp h2
  have nlt : ¬ rk ord c < rk ord (pick ord f) := fun q => by
    have := h3 c hc q
    rw [isMax_iff.mpr hm] at this; cases this
  by_cases hlt : rk ord (pick ord f) < rk ord c
  · have := h _ h1
    unfold lead at this
    rw [if_pos hlt] at this
    have := hp c hc
    omega
  · exact rk_inj h1 hc (by omega)
/-! ### a system that hangs on a value straight -/
structure Sys where
  nb : Nat
  sz : Nat → Nat
  ord : Nat → List Nat
  S : Int → Nat → Nat → Int
  M : Int → (Nat → Nat) → Nat → Nat → Int
  D0 : Nat → Nat → Int
  D : (Nat → Nat) → Nat → Nat → Int
structure Sys.Ok (Y : Sys) : Prop where
  pos : ∀ b, b < Y.nb → 0 < Y.sz b
  mem : ∀ b, b < Y.nb → ∀ c, c ∈ Y.ord b ↔ c < Y.sz b
  hS : ∀ v n b c, Y.S v b c = Y.S n b c + (v - n) * Y.D0 b c
  hM : ∀ v n J b c, Y.M v J b c = Y.M n J b c + (v - n) * Y.D J b c
  cM : ∀ v J J' b c, (∀ i, i < Y.nb → J i = J' i) → Y.M v J b c = Y.M v J' b c
namespace Sys
variable (Y : Sys)
def J (s : Nat → Nat → Int) (b : Nat) : Nat := pick (Y.ord b) (s b)
def st (v : Int) : Nat → Nat → Nat → Int
  | 0 => Y.S v
  | t + 1 => fun x o => st v t x o + Y.M v (Y.J (st v t)) x o
def sl (n : Int) : Nat → Nat → Nat → Int
  | 0 => Y.D0
  | t + 1 => fun x o => sl n t x o + Y.D (Y.J (Y.st n t)) x o
def joint (s : Nat → Nat → Int) : List Nat := (List.range Y.nb).map (Y.J s)
def row (v : Int) (T : Nat) : List (List Nat) := (List.range T).map fun t => Y.joint (Y.st v t)
def conO (n : Int) (t b o : Nat) : Int × Int :=
  (lead (Y.ord b) (Y.st n t b) (Y.J (Y.st n t) b) o, Y.sl n t b (Y.J (Y.st n t) b) - Y.sl n t b o)
def conB (n : Int) (t b : Nat) : List (Int × Int) := (List.range (Y.sz b)).map (Y.conO n t b)
def conT (n : Int) (t : Nat) : List (Int × Int) := (List.range Y.nb).flatMap (Y.conB n t)
def con (n : Int) (T : Nat) : List (Int × Int) := (List.range T).flatMap (Y.conT n)
end Sys
def hiStep (n e : Int) (c : Int × Int) : Int := if c.2 < 0 then min e (n + c.1 / (-c.2)) else e
def loStep (n e : Int) (c : Int × Int) : Int := if 0 < c.2 then max e (n - c.1 / c.2) else e
def hiO (n : Int) (e : Option Int) (c : Int × Int) : Option Int := if c.2 < 0 then some (match e with | none => n + c.1 / (-c.2) | some m => min m (n + c.1 / (-c.2))) else e
def minO (h : Int) : Option Int → Int
  | none => h
  | some m => min h m
theorem hiO_fold (n h : Int) : ∀ (l : List (Int × Int)) (e : Option Int), minO h (l.foldl (hiO n) e) = l.foldl (hiStep n) (minO h e)
  | [], _ => rfl
  | c :: l, e => by
    rw [List.foldl_cons, List.foldl_cons, hiO_fold n h l]
    congr 1
    unfold hiO hiStep
    split
    · cases e <;> simp [minO, Int.min_assoc]
    · rfl
/-- what a fold of bounds from above says -/
theorem le_hi (n v : Int) : ∀ (l : List (Int × Int)) (e : Int), v ≤ l.foldl (hiStep n) e ↔ v ≤ e ∧ ∀ c ∈ l, c.2 < 0 → v ≤ n + c.1 / (-c.2)
  | [], e => by simp
  | c :: l, e => by
    rw [List.foldl_cons, le_hi n v l]
    unfold hiStep
    by_cases h : c.2 < 0
    · simp only [if_pos h, List.mem_cons, forall_eq_or_imp]
      constructor
      · rintro ⟨h1, h2⟩; exact ⟨by omega, fun _ => by omega, h2⟩
      · rintro ⟨h1, h2, h3⟩; exact ⟨by have := h2 h; omega, h3⟩
    · simp only [if_neg h, List.mem_cons, forall_eq_or_imp]
      constructor
      · rintro ⟨h1, h2⟩; exact ⟨h1, fun q => absurd q h, h2⟩
      · rintro ⟨h1, _, h3⟩; exact ⟨h1, h3⟩
theorem lo_le (n v : Int) : ∀ (l : List (Int × Int)) (e : Int), l.foldl (loStep n) e ≤ v ↔ e ≤ v ∧ ∀ c ∈ l, 0 < c.2 → n - c.1 / c.2 ≤ v
  | [], e => by simp
  | c :: l, e => by
    rw [List.foldl_cons, lo_le n v l]
    unfold loStep
    by_cases h : 0 < c.2
    · simp only [if_pos h, List.mem_cons, forall_eq_or_imp]
      constructor
      · rintro ⟨h1, h2⟩; exact ⟨by omega, fun _ => by omega, h2⟩
      · rintro ⟨h1, h2, h3⟩; exact ⟨by have := h2 h; omega, h3⟩
    · simp only [if_neg h, List.mem_cons, forall_eq_or_imp]
      constructor
      · rintro ⟨h1, h2⟩; exact ⟨h1, fun q => absurd q h, h2⟩
      · rintro ⟨h1, _, h3⟩; exact ⟨h1, h3⟩
theorem le_div {a b c : Int} (h : 0 < c) : a ≤ b / c ↔ a * c ≤ b := Int.le_ediv_iff_mul_le h
/-- a bound from above: just where the lead isn't below nought -/
theorem hi_iff {n v : Int} {c : Int × Int} (h : c.2 < 0) : v ≤ n + c.1 / (-c.2) ↔ 0 ≤ c.1 + (v - n) * c.2 := by
  have h1 : v - n ≤ c.1 / (-c.2) ↔ (v - n) * (-c.2) ≤ c.1 := le_div (by omega)
  have h2 : (v - n) * (-c.2) = - ((v - n) * c.2) := Int.mul_neg _ _
  rw [h2] at h1
  constructor
  · intro q; have := h1.mp (by omega); omega
  · intro q; have := h1.mpr (by omega); omega
theorem lo_iff {n v : Int} {c : Int × Int} (h : 0 < c.2) : n - c.1 / c.2 ≤ v ↔ 0 ≤ c.1 + (v - n) * c.2 := by
  have h1 : n - v ≤ c.1 / c.2 ↔ (n - v) * c.2 ≤ c.1 := le_div h
  have h2 : (n - v) * c.2 = - ((v - n) * c.2) := by rw [← Int.neg_mul]; congr 1; omega
  rw [h2] at h1
  constructor
  · intro q; have := h1.mp (by omega); omega
  · intro q; have := h1.mpr (by omega); omega
namespace Sys
variable {Y : Sys}
def last (Y : Sys) (n : Int) (T : Nat) (hi : Int) : Int := (Y.con n T).foldl (hiStep n) hi
def start (Y : Sys) (n : Int) (T : Nat) (lo : Int) : Int := (Y.con n T).foldl (loStep n) lo
theorem mem_con {n : Int} {T : Nat} {c : Int × Int} : c ∈ Y.con n T ↔ ∃ t b o, t < T ∧ b < Y.nb ∧ o < Y.sz b ∧ c = Y.conO n t b o := by
  simp only [con, conT, conB, List.mem_flatMap, List.mem_range, List.mem_map]
  constructor
  · rintro ⟨t, ht, b, hb, o, ho, e⟩; exact ⟨t, b, o, ht, hb, ho, e.symm⟩
  · rintro ⟨t, b, o, ht, hb, ho, e⟩; exact ⟨t, ht, b, hb, o, ho, e.symm⟩
theorem Ok.ne (ok : Y.Ok) {b : Nat} (hb : b < Y.nb) : Y.ord b ≠ [] := fun e => by
  have := (ok.mem b hb 0).mpr (ok.pos b hb)
  rw [e] at this; simp at this
theorem Ok.J_lt (ok : Y.Ok) {b : Nat} (hb : b < Y.nb) (s : Nat → Nat → Int) : Y.J s b < Y.sz b := (ok.mem b hb _).mp (pick_mem (ok.ne hb) _)
theorem Ok.lead_nn (ok : Y.Ok) {n : Int} {T : Nat} {c : Int × Int} (hc : c ∈ Y.con n T) : 0 ≤ c.1 := by
  obtain ⟨t, b, o, _, hb, ho, rfl⟩ := mem_con.mp hc
  exact pick_lead (ok.ne hb) _ ((ok.mem b hb o).mpr ho)
/-- where the joints are alike, the stands are straight -/
theorem Ok.straight (ok : Y.Ok) (n v : Int) : ∀ (T : Nat), (∀ t, t < T → ∀ b, b < Y.nb → Y.J (Y.st v t) b = Y.J (Y.st n t) b) → ∀ x o, Y.st v T x o = Y.st n T x o + (v - n) * Y.sl n T x o
  | 0, _, x, o => ok.hS v n x o
  | T + 1, h, x, o => by
    have ih := ok.straight n v T (fun t ht => h t (by omega)) x o
    show Y.st v T x o + Y.M v (Y.J (Y.st v T)) x o = Y.st n T x o + Y.M n (Y.J (Y.st n T)) x o + (v - n) * (Y.sl n T x o + Y.D (Y.J (Y.st n T)) x o)
    rw [ih, ok.cM v _ _ x o (h T (by omega)), ok.hM v n, Int.mul_add]
    omega
theorem lead_at {ord : List Nat} {f g : Nat → Int} {d : Int} {sf : Nat → Int} (h : ∀ o, f o = g o + d * sf o) (c o : Nat) : lead ord f c o = lead ord g c o + d * (sf c - sf o) := by
  unfold lead
  rw [h c, h o, Int.mul_sub]
  omega
/-- a value for which no lead is below nought shows the row -/
theorem Ok.shows (ok : Y.Ok) {n v : Int} {T : Nat} (h : ∀ c ∈ Y.con n T, 0 ≤ c.1 + (v - n) * c.2) : ∀ t, t < T → ∀ b, b < Y.nb → Y.J (Y.st v t) b = Y.J (Y.st n t) b := by
  intro t
  induction t using Nat.strongRecOn with
  | _ t ih =>
    intro ht b hb
    have hs := ok.straight n v t (fun u hu => ih u hu (by omega))
    refine pick_uniq ((ok.mem b hb _).mpr (ok.J_lt hb _)) fun o ho => ?_
    have ho' := (ok.mem b hb o).mp ho
    have := h _ (mem_con.mpr ⟨t, b, o, ht, hb, ho', rfl⟩)
    rw [lead_at (fun o => hs b o)]
    exact this
/-- .. and one that shows the row has no lead below nought -/
theorem Ok.leads (ok : Y.Ok) {n v : Int} {T : Nat} (h : ∀ t, t < T → ∀ b, b < Y.nb → Y.J (Y.st v t) b = Y.J (Y.st n t) b) : ∀ c ∈ Y.con n T, 0 ≤ c.1 + (v - n) * c.2 := by
  intro c hc
  obtain ⟨t, b, o, ht, hb, ho, rfl⟩ := mem_con.mp hc
  have hs := ok.straight n v t (fun u hu => h u (by omega))
  have := pick_lead (ok.ne hb) (Y.st v t b) ((ok.mem b hb o).mpr ho)
  rw [show pick (Y.ord b) (Y.st v t b) = Y.J (Y.st n t) b from h t ht b hb, lead_at (fun o => hs b o)] at this
  exact this
theorem Ok.le_last (ok : Y.Ok) {n v hi : Int} {T : Nat} (hv : n ≤ v) : v ≤ Y.last n T hi ↔ v ≤ hi ∧ ∀ c ∈ Y.con n T, 0 ≤ c.1 + (v - n) * c.2 := by
  unfold last
  rw [le_hi]
  constructor
  · rintro ⟨h1, h2⟩
    refine ⟨h1, fun c hc => ?_⟩
    by_cases h : c.2 < 0
    · exact (hi_iff h).mp (h2 c hc h)
    · have := ok.lead_nn hc
      have : 0 ≤ (v - n) * c.2 := Int.mul_nonneg (by omega) (by omega)
      omega
  · rintro ⟨h1, h2⟩
    exact ⟨h1, fun c hc h => (hi_iff h).mpr (h2 c hc)⟩
theorem Ok.start_le (ok : Y.Ok) {n v lo : Int} {T : Nat} (hv : v ≤ n) : Y.start n T lo ≤ v ↔ lo ≤ v ∧ ∀ c ∈ Y.con n T, 0 ≤ c.1 + (v - n) * c.2 := by
  unfold start
  rw [lo_le]
  constructor
  · rintro ⟨h1, h2⟩
    refine ⟨h1, fun c hc => ?_⟩
    by_cases h : 0 < c.2
    · exact (lo_iff h).mp (h2 c hc h)
    · have := ok.lead_nn hc
      have : 0 ≤ (n - v) * (-c.2) := Int.mul_nonneg (by omega) (by omega)
      have e : (n - v) * (-c.2) = (v - n) * c.2 := by rw [Int.mul_neg, ← Int.neg_mul]; congr 1; omega
      omega
  · rintro ⟨h1, h2⟩
    exact ⟨h1, fun c hc h => (lo_iff h).mpr (h2 c hc)⟩
theorem Ok.n_le_last (ok : Y.Ok) {n hi : Int} {T : Nat} (h : n ≤ hi) : n ≤ Y.last n T hi := (ok.le_last (Int.le_refl n)).mpr ⟨h, fun c hc => by have := ok.lead_nn hc; rw [Int.sub_self, Int.zero_mul]; omega⟩
theorem Ok.last_le (ok : Y.Ok) {n hi : Int} {T : Nat} (h : n ≤ hi) : Y.last n T hi ≤ hi := ((ok.le_last (v := Y.last n T hi) (ok.n_le_last h)).mp (Int.le_refl _)).1
theorem Ok.start_le_n (ok : Y.Ok) {n lo : Int} {T : Nat} (h : lo ≤ n) : Y.start n T lo ≤ n := (ok.start_le (Int.le_refl n)).mpr ⟨h, fun c hc => by have := ok.lead_nn hc; rw [Int.sub_self, Int.zero_mul]; omega⟩
theorem Ok.lo_le_start (ok : Y.Ok) {n lo : Int} {T : Nat} (h : lo ≤ n) : lo ≤ Y.start n T lo := ((ok.start_le (v := Y.start n T lo) (ok.start_le_n h)).mp (Int.le_refl _)).1
/-- where a piece may begin -/
def Begins (Y : Sys) (T : Nat) (lo hi n : Int) : Prop := n = lo ∨ ∃ m, lo ≤ m ∧ m ≤ hi ∧ Y.last m T hi + 1 = n
theorem Ok.start_eq (ok : Y.Ok) {n lo hi : Int} {T : Nat} (hb : Y.Begins T lo hi n) (hlo : lo ≤ n) (hhi : n ≤ hi) : Y.start n T lo = n := by
  rcases hb with rfl | ⟨m, hm, hmh, e⟩
  · have h1 := ok.start_le_n (T := T) (Int.le_refl n)
    have h2 := ok.lo_le_start (T := T) (Int.le_refl n)
    omega
  · have h1 := ok.start_le_n (T := T) hlo
    apply Classical.byContradiction
    intro hne
    have hml := ok.n_le_last (T := T) hmh
    have he : Y.start n T lo ≤ n - 1 := by omega
    have hs1 := ok.shows ((ok.start_le (by omega)).mp he).2
    have hs2 := ok.shows ((ok.le_last (hi := hi) (n := m) (T := T) (v := n - 1) (by omega)).mp (by omega)).2
    have hs3 : ∀ t, t < T → ∀ b, b < Y.nb → Y.J (Y.st n t) b = Y.J (Y.st m t) b := fun t ht b hb => (hs1 t ht b hb).symm.trans (hs2 t ht b hb)
    have := (ok.le_last (v := n) (hi := hi) (by omega)).mpr ⟨hhi, ok.leads hs3⟩
    omega
/-- the pieces from lo to hi; none: they are too many -/
def pcs (Y : Sys) (T : Nat) (hi : Int) : Nat → Int → Option (List (Int × Int))
  | fuel, lo => if hi < lo then some [] else match fuel with
    | 0 => none
    | k + 1 => (pcs Y T hi k (Y.last lo T hi + 1)).map ((lo, Y.last lo T hi) :: ·)
def closer (own v : Int) : Option Int → Bool
  | none => true
  | some w => decide ((v - own).natAbs ≤ (w - own).natAbs)
def nearStep (Y : Sys) (T : Nat) (own : Int) (spot wish : Nat) (f : Option Int) (p : Int × Int) : Option Int :=
  let v := min (max p.1 own) p.2
  if Y.J (Y.st p.1 (T - 1)) spot = wish ∧ closer own v f = true then some v else f
def near (Y : Sys) (T : Nat) (own : Int) (spot wish : Nat) (ps : List (Int × Int)) : Option Int := ps.foldl (nearStep Y T own spot wish) none
def due (Y : Sys) (T : Nat) (own lo hi : Int) (spot wish : Nat) : Option (Option Int) := (Y.pcs T hi 300 lo).map (Y.near T own spot wish)
theorem Ok.pcs_in (ok : Y.Ok) {T : Nat} {hi : Int} : ∀ {fuel : Nat} {lo : Int} {ps : List (Int × Int)}, Y.pcs T hi fuel lo = some ps → ∀ p ∈ ps, p.1 ≤ p.2 ∧ p.1 ≤ hi ∧ p.2 = Y.last p.1 T hi
  | fuel, lo, ps, h, p, hp => by
    unfold pcs at h
    by_cases hlt : hi < lo
    · rw [if_pos hlt] at h
      cases h
      simp at hp
    · rw [if_neg hlt] at h
      cases fuel with
      | zero => simp at h
      | succ k =>
        simp only at h
        cases hq : Y.pcs T hi k (Y.last lo T hi + 1) with
        | none => rw [hq] at h; simp at h
        | some qs =>
          rw [hq] at h
          simp only [Option.map_some, Option.some.injEq] at h
          subst h
          rcases List.mem_cons.mp hp with rfl | hp
          · exact ⟨ok.n_le_last (by omega), by show lo ≤ hi; omega, rfl⟩
          · exact ok.pcs_in hq p hp
theorem near_in {T : Nat} {own : Int} {spot wish : Nat} : ∀ (ps : List (Int × Int)) (f : Option Int) (d : Int), ps.foldl (nearStep Y T own spot wish) f = some d → f = some d ∨ ∃ p ∈ ps, d = min (max p.1 own) p.2 ∧ Y.J (Y.st p.1 (T - 1)) spot = wish
  | [], f, d, h => .inl h
  | p :: ps, f, d, h => by
    rw [List.foldl_cons] at h
    rcases near_in ps _ d h with h1 | ⟨q, hq, e, w⟩
    · unfold nearStep at h1
      simp only at h1
      split at h1
      · rename_i hc
        exact .inr ⟨p, List.mem_cons_self .., (Option.some.inj h1).symm, hc.1⟩
      · exact .inl h1
    · exact .inr ⟨q, List.mem_cons_of_mem _ hq, e, w⟩
/-- the told value takes the wish at the last beat -/
theorem Ok.due_takes (ok : Y.Ok) {T : Nat} {own lo hi d : Int} {spot wish : Nat} (hT : 0 < T) (hs : spot < Y.nb) (h : Y.due T own lo hi spot wish = some (some d)) : Y.J (Y.st d (T - 1)) spot = wish := by
  unfold due at h
  cases hp : Y.pcs T hi 300 lo with
  | none => rw [hp] at h; simp at h
  | some ps =>
    rw [hp] at h
    simp only [Option.map_some, Option.some.injEq] at h
    rcases near_in ps none d h with q | ⟨p, hm, e, w⟩
    · cases q
    · obtain ⟨h1, h2, h3⟩ := ok.pcs_in hp p hm
      have hd : p.1 ≤ d ∧ d ≤ p.2 := by omega
      have := ok.shows ((ok.le_last hd.1).mp (by rw [← h3]; exact hd.2)).2 (T - 1) (by omega) spot hs
      rw [this, w]
end Sys
end Pm

/-! The wonts as plain data, a knob turned, and the system that hangs on its value. -/
namespace Pm
structure Fd where
  b : Nat
  c : Nat
  t : Nat
  o : Nat
  amt : Int
  deriving DecidableEq
abbrev K4 := Nat × Nat × Nat × Nat
def Fd.key (f : Fd) : K4 := (f.b, f.c, f.t, f.o)
def famt (fs : List Fd) (k : K4) : Int := ((fs.filter fun f => decide (f.key = k)).map (·.amt)).sum
structure Wd where
  nb : Nat
  sz : Nat → Nat
  ord : Nat → List Nat
  g : Nat → Nat → Int
  w : Nat → Nat → Int
  fs : List Fd
/-- what the taking of c of b adds to o of t -/
def Wd.mv (W : Wd) (b c t o : Nat) : Int := (if t = b then (if o = c then W.g b c else - W.w b o) else 0) + famt W.fs (b, c, t, o)
inductive Knob where
  | str (b c : Nat) | gain (b c : Nat) | wane (b c : Nat) | feed (b c t o : Nat)
  deriving DecidableEq
abbrev Stand := Nat → Nat → Int
def put2 (f : Nat → Nat → Int) (b c : Nat) (v : Int) : Nat → Nat → Int := fun x o => if x = b ∧ o = c then v else f x o
def tfs (fs : List Fd) (k : K4) (v : Int) : List Fd := fs.filter (fun f => !decide (f.key = k)) ++ [⟨k.1, k.2.1, k.2.2.1, k.2.2.2, v⟩]
def Wd.turn (W : Wd) : Knob → Int → Wd
  | .str _ _, _ => W
  | .gain b c, v => { W with g := put2 W.g b c v }
  | .wane b c, v => { W with w := put2 W.w b c v }
  | .feed b c t o, v => { W with fs := tfs W.fs (b, c, t, o) v }
def turnS (s : Stand) : Knob → Int → Stand
  | .str b c, v => put2 s b c v
  | _, _ => s
def own (W : Wd) (s : Stand) : Knob → Int
  | .str b c => s b c
  | .gain b c => W.g b c
  | .wane b c => W.w b c
  | .feed b c t o => famt W.fs (b, c, t, o)
def Knob.b : Knob → Nat
  | .str b _ => b | .gain b _ => b | .wane b _ => b | .feed b _ _ _ => b
def Knob.c : Knob → Nat
  | .str _ c => c | .gain _ c => c | .wane _ c => c | .feed _ c _ _ => c
/-- what hangs on it -/
def Knob.tk : Knob → Nat × Nat
  | .str b c => (b, c) | .gain b c => (b, c) | .wane b c => (b, c) | .feed _ _ t o => (t, o)
def Knob.by' (k : Knob) (j : Nat) : Int := match k with
  | .str _ _ => 0
  | .gain _ c => if j = c then 1 else 0
  | .wane _ c => (if j = c then 1 else 0) - 1
  | .feed _ c _ _ => if j = c then 1 else 0
def Knob.ok (W : Wd) : Knob → Prop
  | .str b c => b < W.nb ∧ c < W.sz b
  | .gain b c => b < W.nb ∧ c < W.sz b
  | .wane b c => b < W.nb ∧ c < W.sz b
  | .feed b c t o => b < W.nb ∧ c < W.sz b ∧ t < W.nb ∧ o < W.sz t ∧ (b, c) ≠ (t, o)
def isStr : Knob → Bool
  | .str _ _ => true
  | _ => false
/-- the numbers that a wont may have -/
def Amt (v : Int) : Prop := -1000000000 ≤ v ∧ v ≤ 1000000000
structure Wd.Ok (W : Wd) : Prop where
  n1 : 0 < W.nb
  n4 : W.nb ≤ 4
  s1 : ∀ b, b < W.nb → 0 < W.sz b
  s5 : ∀ b, b < W.nb → W.sz b ≤ 5
  nd : ∀ b, b < W.nb → (W.ord b).Nodup
  ln : ∀ b, b < W.nb → (W.ord b).length = W.sz b
  mem : ∀ b, b < W.nb → ∀ c, c ∈ W.ord b ↔ c < W.sz b
  g : ∀ b c, b < W.nb → c < W.sz b → Amt (W.g b c)
  w : ∀ b c, b < W.nb → c < W.sz b → Amt (W.w b c)
  fi : ∀ f ∈ W.fs, f.b < W.nb ∧ f.c < W.sz f.b ∧ f.t < W.nb ∧ f.o < W.sz f.t ∧ (f.b, f.c) ≠ (f.t, f.o) ∧ Amt f.amt
  fn : (W.fs.map Fd.key).Nodup
  fl : W.fs.length ≤ 1000
theorem famt_out {fs : List Fd} {k : K4} (h : ∀ f ∈ fs, f.key ≠ k) : famt fs k = 0 := by
  have : fs.filter (fun f => decide (f.key = k)) = [] := List.filter_eq_nil_iff.mpr fun f hf => by simpa using h f hf
  simp [famt, this]
theorem famt_cons (f : Fd) (fs : List Fd) (k : K4) : famt (f :: fs) k = (if f.key = k then f.amt else 0) + famt fs k := by
  unfold famt
  rw [List.filter_cons]
  by_cases h : f.key = k <;> simp [h]
theorem famt_app (fs gs : List Fd) (k : K4) : famt (fs ++ gs) k = famt fs k + famt gs k := by
  induction fs with
  | nil => simp [famt]
  | cons f r ih => rw [List.cons_append, famt_cons, famt_cons, ih]; omega
theorem famt_in {fs : List Fd} (hn : (fs.map Fd.key).Nodup) {f : Fd} (hf : f ∈ fs) : famt fs f.key = f.amt := by
  induction fs with
  | nil => simp at hf
  | cons x r ih =>
    rw [List.map_cons, List.nodup_cons] at hn
    rw [famt_cons]
    rcases List.mem_cons.mp hf with rfl | hf
    · rw [if_pos rfl, famt_out (fs := r)]
      · omega
      · intro y hy e; exact hn.1 (List.mem_map.mpr ⟨y, hy, e⟩)
    · rw [if_neg (fun e => hn.1 (List.mem_map.mpr ⟨f, hf, e.symm⟩)), ih hn.2 hf]; omega
theorem famt_filter (fs : List Fd) (k k' : K4) : famt (fs.filter fun f => !decide (f.key = k)) k' = if k' = k then 0 else famt fs k' := by
  induction fs with
  | nil => simp [famt]
  | cons f r ih =>
    rw [List.filter_cons]
    by_cases h : f.key = k
    · simp only [h, decide_true, Bool.not_true, Bool.false_eq_true, if_false]
      rw [ih, famt_cons]
      by_cases h' : k' = k
      · simp [h']
      · have : ¬ f.key = k' := fun e => h' (e.symm.trans h)
        simp [h', this]
    · simp only [h, decide_false, Bool.not_false, if_true]
      rw [famt_cons, ih, famt_cons]
      by_cases h' : k' = k
      · subst h'; simp [h]
      · simp [h']
theorem famt_tfs (fs : List Fd) (k k' : K4) (v : Int) : famt (tfs fs k v) k' = if k' = k then v else famt fs k' := by
  unfold tfs
  rw [famt_app, famt_filter, famt_cons]
  have e : (⟨k.1, k.2.1, k.2.2.1, k.2.2.2, v⟩ : Fd).key = k := rfl
  rw [e]
  by_cases h : k' = k
  · subst h; simp [famt]
  · have : ¬ k = k' := fun q => h q.symm
    simp [h, this, famt]
theorem mv_str (W : Wd) (b c : Nat) (v : Int) : W.turn (.str b c) v = W := rfl
/-- how the taking of c' of b' hangs on the value -/
theorem mv_turn (W : Wd) (k : Knob) (v n : Int) (b c t o : Nat) : (W.turn k v).mv b c t o = (W.turn k n).mv b c t o + if b = k.b then (v - n) * (if (t, o) = k.tk then (match k with
    | .str _ _ => 0
    | .gain _ kc => if c = kc then 1 else 0
    | .wane _ kc => (if c = kc then 1 else 0) - 1
    | .feed _ kc _ _ => if c = kc then 1 else 0 : Int) else 0) else 0 := by
  cases k with
  | str kb kc => simp [Wd.turn]
  | gain kb kc =>
    simp only [Wd.mv, Wd.turn, put2, Knob.b, Knob.tk, Prod.mk.injEq]
    by_cases h1 : b = kb <;> by_cases h2 : t = b <;> by_cases h3 : o = c <;> by_cases h4 : c = kc <;> simp_all <;> grind
  | wane kb kc =>
    simp only [Wd.mv, Wd.turn, put2, Knob.b, Knob.tk, Prod.mk.injEq]
    by_cases h1 : b = kb <;> by_cases h2 : t = b <;> by_cases h3 : o = c <;> by_cases h4 : c = kc <;> by_cases h5 : o = kc <;> simp_all <;> grind
  | feed kb kc kt ko =>
    simp only [Wd.mv, Wd.turn, Knob.b, Knob.tk, Prod.mk.injEq, famt_tfs]
    by_cases h1 : b = kb <;> by_cases h2 : t = kt <;> by_cases h3 : o = ko <;> by_cases h4 : c = kc <;> simp_all <;> grind
def sys (W : Wd) (s : Stand) (k : Knob) : Sys where
  nb := W.nb
  sz := W.sz
  ord := W.ord
  S := fun v => turnS s k v
  M := fun v J t o => sumTo (fun b => (W.turn k v).mv b (J b) t o) W.nb
  D0 := fun x o => if isStr k = true ∧ (x, o) = k.tk then 1 else 0
  D := fun J x o => if (x, o) = k.tk then k.by' (J k.b) else 0
theorem Knob.ok_b {W : Wd} {k : Knob} (h : k.ok W) : k.b < W.nb := by
  cases k <;> first | exact h.1 | exact h
theorem sys_ok {W : Wd} (ok : W.Ok) {s : Stand} {k : Knob} (hk : k.ok W) : (sys W s k).Ok where
  pos := ok.s1
  mem := ok.mem
  hS := fun v n b c => by
    cases k with
    | str kb kc =>
      simp only [sys, turnS, put2, isStr, Knob.tk, Prod.mk.injEq, true_and]
      by_cases h : b = kb ∧ c = kc
      · simp [h]; omega
      · simp [h]
    | _ => simp [sys, turnS, isStr]
  hM := fun v n J t o => by
    show sumTo (fun b => (W.turn k v).mv b (J b) t o) W.nb = sumTo (fun b => (W.turn k n).mv b (J b) t o) W.nb + (v - n) * (if (t, o) = k.tk then k.by' (J k.b) else 0)
    rw [sumTo_one (g := fun b => (W.turn k n).mv b (J b) t o) (k := k.b) (d := (v - n) * (if (t, o) = k.tk then k.by' (J k.b) else 0)), if_pos (Knob.ok_b hk)]
    intro b hb
    rw [mv_turn W k v n b (J b) t o]
    congr 1
    by_cases h : b = k.b
    · rw [if_pos h, if_pos h, h]
      cases k <;> rfl
    · rw [if_neg h, if_neg h]
  cM := fun v J J' t o h => sumTo_congr fun b hb => by show (W.turn k v).mv b (J b) t o = (W.turn k v).mv b (J' b) t o; rw [h b hb]
end Pm

namespace WB
open PySem L2
/-! ### the text by places -/
def top (i : Nat) : Stmt := PySem.Challenge.pw_wontbooks_k36_whole_the_nearest_turn.main.body.getD i (.Pass ⟨0, 0, 0, 0⟩)
/-! ### heaps -/
theorem keep {H H' : Hp} {a : Addr} {o : HO} (s : Same H H') (h : H a = some o) : H' a = some o := s a o h
theorem sameUpd {H : Hp} {p : Addr} {o : HO} (h : H p = none) : Same H (upd H p o) := fun b u e => by rw [upd_ne (ne_of_none e h)]; exact e
/-- a new object, told by what it is -/
theorem newO {H : Hp} {o : HO} {Q : V → Hp → Prop} (h : ∀ p H', H p = none → Same H H' → H' p = some o → Q (.ref p) H') : ∀ p, H p = none → Q (.ref p) (upd H p o) :=
  fun p hp => h p _ hp (sameUpd hp) upd_same
theorem newT {xs : List V} {H : Hp} {Q : V → Hp → Prop} (h : ∀ p H', H p = none → Same H H' → H' p = some (.tup xs) → Q (.ref p) H') : ∀ p, H p = none → Q (.ref p) (upd H p (.tup xs)) := newO h
/-- all but one object stand -/
def Kd (D : Addr) (H H' : Hp) : Prop := ∀ b o, H b = some o → b ≠ D → H' b = some o
theorem Same.kd {D : Addr} {H H' : Hp} (s : Same H H') : Kd D H H' := fun b o e _ => s b o e
/-! ### a comprehension without a test: its items one by one -/
theorem lc_col {J : It} {n : Nat} {G : Hp → Prop} {Y : Nat → Hp → V → Hp → Prop} (w : Walk J n G Y) {g : TG} {te : TE} {vs : List Nat} {σ : L2.St} {H1 : Hp} {D : Addr} {Qd : Hp → Prop} (hD : H1 D = none) (hn : n ≤ 10000)
    (R : Nat → V → Hp → Prop) (mono : ∀ i y H H', Kd D H H' → R i y H → R i y H') (hG : ∀ H', Same H1 H' → G H')
    (hs : ∀ i x H H' (K : V → Hp → Prop), i < n → Same H1 H → (∃ acc, H D = some (.lst acc)) → Y i H x H' → (∀ y H4, Same H H4 → R i y H4 → K y H4) → g x (wipe σ vs) H' fun σ2 H2 => wipe σ2 vs = wipe σ vs ∧ te σ2 H2 K)
    (hd : ∀ H ys, Same H1 H → H D = some (.lst ys) → ys.length = n → (∀ i y, ys[i]? = some y → R i y H) → Qd H) :
    ∃ W : Nat → Nat → Hp → Prop, (∃ m, W 0 m (upd H1 D (.lst []))) ∧ ∀ i m H, W i m H → (J.stop i H ∧ Qd H) ∨ (J.go i H ∧ ∃ Nx : Hp → Prop, (∀ H', Nx H' → ∃ m', m' < m ∧ W (i + 1) m' H') ∧ ∀ x H', J.yld i H x H' → g x (wipe σ vs) H' fun σ2 H2 => wipe σ2 vs = wipe σ vs ∧ tYes σ2 H2 fun b H3 => if b = true then te σ2 H3 fun y H4 => ∃ acc, H4 D = some (.lst acc) ∧ acc.length < sizeLine ∧ Nx (upd H4 D (.lst (acc ++ [y]))) else Nx H3) := by
  refine lc_it w (fun i H => Same H1 H ∧ ∃ ys, H D = some (.lst ys) ∧ ys.length = i ∧ ∀ j y, ys[j]? = some y → R j y H) ⟨sameUpd hD, [], upd_same, rfl, by simp⟩ (fun i H _ p => hG H p.1) ?_ ?_
  · rintro i x H H' hi ⟨s, ys, hy, hl, hr⟩ y
    refine hs i x H H' _ hi s ⟨ys, hy⟩ y fun z H4 s4 r4 => ?_
    have hk : Kd D H4 (upd H4 D (.lst (ys ++ [z]))) := fun b o e ne => by rw [upd_ne ne]; exact e
    refine ⟨ys, s4 _ _ hy, by rw [hl, sizeLine_eq]; omega, fun b o e => ?_, ys ++ [z], upd_same, by simp [hl], fun j v hv => ?_⟩
    · rw [upd_ne (ne_of_none e hD)]; exact s4 b o (s b o e)
    · by_cases hj : j < ys.length
      · rw [List.getElem?_append_left hj] at hv
        exact mono _ _ _ _ hk (mono _ _ _ _ (Same.kd s4) (hr j v hv))
      · have hj2 : j = ys.length := by
          have := (List.getElem?_eq_some_iff.mp hv).1
          simp at this; omega
        subst hj2
        simp at hv
        subst hv
        rw [hl]
        exact mono _ _ _ _ hk r4
  · rintro H ⟨s, ys, hy, hl, hr⟩
    exact hd H ys s hy hl hr
/-! ### rows of numbers -/
def nums (n : Nat) (f : Nat → Int) : List V := (List.range n).map fun c => V.int (f c)
theorem nums_len (n : Nat) (f : Nat → Int) : (nums n f).length = n := by simp [nums]
theorem nums_at {n : Nat} {f : Nat → Int} {i : Nat} (h : i < n) : (nums n f)[i]? = some (V.int (f i)) := by simp [nums, h]
theorem nums_get {n : Nat} {f : Nat → Int} {i : Nat} {v : V} (h : (nums n f)[i]? = some v) : i < n ∧ v = V.int (f i) := by
  simp only [nums, List.getElem?_map] at h
  by_cases hi : i < n
  · simp [hi] at h; exact ⟨hi, h.symm⟩
  · simp [hi] at h
theorem eq_nums {ys : List V} {n : Nat} {f : Nat → Int} (hl : ys.length = n) (h : ∀ i y, ys[i]? = some y → y = V.int (f i)) : ys = nums n f := by
  apply List.ext_getElem?
  intro i
  by_cases hi : i < n
  · rw [nums_at hi]
    have : ys[i]? = some ys[i] := List.getElem?_eq_getElem (by omega)
    rw [this, h i _ this]
  · rw [List.getElem?_eq_none (by omega), List.getElem?_eq_none (by rw [nums_len]; omega)]
theorem refs_get {ps : List Addr} {i : Nat} {v : V} (h : (ps.map V.ref)[i]? = some v) : ∃ p, ps[i]? = some p ∧ v = V.ref p := by
  rw [List.getElem?_map] at h
  cases e : ps[i]? with
  | none => rw [e] at h; simp at h
  | some p => rw [e] at h; simp at h; exact ⟨p, rfl, h.symm⟩
theorem refs_at {ps : List Addr} {i : Nat} {p : Addr} (h : ps[i]? = some p) : (ps.map V.ref)[i]? = some (V.ref p) := by rw [List.getElem?_map, h]; rfl
theorem get_lt {α : Type} {ps : List α} {i : Nat} {p : α} (h : ps[i]? = some p) : i < ps.length := (List.getElem?_eq_some_iff.mp h).1
/-- each of ps is a tuple of numbers -/
def RowsAt (H : Hp) (ps : List Addr) (sz : Nat → Nat) (f : Nat → Nat → Int) : Prop := ∀ b p, ps[b]? = some p → H p = some (.tup (nums (sz b) (f b)))
theorem RowsAt.same {H H' : Hp} {ps : List Addr} {sz : Nat → Nat} {f : Nat → Nat → Int} (s : Same H H') (h : RowsAt H ps sz f) : RowsAt H' ps sz f := fun b p e => s _ _ (h b p e)
/-- a tuple of n such -/
def StAt (H : Hp) (a : Addr) (n : Nat) (sz : Nat → Nat) (f : Nat → Nat → Int) : Prop := ∃ ps : List Addr, H a = some (.tup (ps.map V.ref)) ∧ ps.length = n ∧ RowsAt H ps sz f
theorem StAt.same {H H' : Hp} {a : Addr} {n : Nat} {sz : Nat → Nat} {f : Nat → Nat → Int} (s : Same H H') (h : StAt H a n sz f) : StAt H' a n sz f := let ⟨ps, h1, h2, h3⟩ := h; ⟨ps, s _ _ h1, h2, h3.same s⟩
theorem refs_of {ys : List V} {R : Nat → Addr → Prop} (h : ∀ i y, ys[i]? = some y → ∃ p, y = V.ref p ∧ R i p) : ∃ ps : List Addr, ys = ps.map V.ref ∧ ∀ i p, ps[i]? = some p → R i p := by
  refine ⟨ys.map fun y => match y with | .ref p => p | _ => 0, ?_, fun i p hp => ?_⟩
  · rw [List.map_map]
    apply List.ext_getElem?
    intro i
    rw [List.getElem?_map]
    cases e : ys[i]? with
    | none => rfl
    | some y => obtain ⟨p, rfl, _⟩ := h i y e; rfl
  · rw [List.getElem?_map] at hp
    cases e : ys[i]? with
    | none => rw [e] at hp; simp at hp
    | some y => obtain ⟨q, rfl, r⟩ := h i y e; rw [e] at hp; simp at hp; subst hp; exact r
/-! ### what a name of the text is -/
structure Cal (P : Program) (w : World) (K : PySem.W.Frag) (mg : Str → Option Value) (base : Heap) (CX : CXT) (k : Nat) (x : Str) (ps : List Str) (sp : Sp) : Prop where
  ex : ∃ (f : Addr) (fd : FuncData), FnOk P w K mg base CX k f fd ps sp ∧ mg x = some (.ref f) ∧ PySem.W.keepIn K (.ref f) = true ∧ Binds K fd ps []
theorem pe_cal {X : Cx} {CX : CXT} {k : Nat} {x : Str} {ps : List Str} {sp : Sp} {E : XK} {p pos : Pos} {e : Expr} {es : List Expr} {t : TA} (c : Cal X.prog X.w X.K X.mg X.base CX k x ps sp) (hr : Room k X.A) (hx : Passes CX X E) (ha : PA X (e :: es) t) (hg : Gl X x := by rfl)
    (hdb : (x == ("__debug__" : Str)) = false := by decide) (he : starEach (e :: es) X.env = (false, eval e X.env) :: starEach es X.env := by rfl) (hpl : (backTo pos (starEach es X.env)).any (·.1) = false := by rfl) : PE X (.Call (.Name x p) (e :: es) [] pos) (tCall sp [] E t) := by
  obtain ⟨f, fd, G, hm, kp, b⟩ := c.ex
  exact pe_call G hr hg hm kp b .nil hx ha hdb he hpl
/-- no def of the text hides a built-in -/
structure NoG (mg : Str → Option Value) : Prop where
  len : mg "len" = none
  zip : mg "zip" = none
  enumerate : mg "enumerate" = none
  range : mg "range" = none
  tuple : mg "tuple" = none
  list : mg "list" = none
  dict : mg "dict" = none
  max : mg "max" = none
  min : mg "min" = none
  int : mg "int" = none
  all : mg "all" = none
  sum : mg "sum" = none
  sorted : mg "sorted" = none
  isinstance : mg "isinstance" = none
  abs : mg "abs" = none
  set : mg "set" = none
  str : mg "str" = none
  bool : mg "bool" = none
end WB

namespace WB
open PySem L2
section
variable {P : Program} {w : World} {K : PySem.W.Frag} {mg : Str → Option Value} {base : Heap} {cW cS : Addr}
abbrev sSummed : Stmt := top 21
abbrev nSummed : List Str := ["one", "other", "mine", "yours", "a", "b"]
def spSummed (K : PySem.W.Frag) (cW cS : Addr) : Sp := fun vs H Q _ => ∃ (k1 k2 : Bool) (a b : Addr) (ps qs : List Addr) (sz : Nat → Nat) (f g : Nat → Nat → Int), vs = [.ref a, .ref b] ∧ sqK k1 K H a (ps.map V.ref) ∧ sqK k2 K H b (qs.map V.ref) ∧ ps.length = qs.length ∧ ps.length ≤ 1000 ∧
  RowsAt H ps sz f ∧ RowsAt H qs sz g ∧ (∀ b, b < ps.length → sz b ≤ 1000) ∧ ∀ H' r, Same H H' → StAt H' r ps.length sz (fun b c => f b c + g b c) → Q (.ref r) H'
theorem scSummed : FnScope nSummed ["one", "other"] (defScope sSummed) := ⟨rfl, rfl, rfl, by decide +kernel, rfl, by decide +kernel, by decide +kernel⟩
theorem sqk_same {k : Bool} {K : PySem.W.Frag} {H H' : Hp} {a : Addr} {xs : List V} (s : Same H H') (h : sqK k K H a xs) : sqK k K H' a xs := by
  have rd : ∀ u, Rd H a u → Rd H' a u := fun u h => by
    rcases h with h | ⟨o, h⟩
    · exact .inl (s _ _ h)
    · exact .inr ⟨o, s _ _ h⟩
  cases k <;> rcases h with h | h
  · exact .inl (rd _ h)
  · exact .inr h
  · exact .inl (rd _ h)
  · exact .inr h
theorem ok_Summed {f : Addr} {fd : FuncData} (F : Fun K "summed" "summed" sSummed f fd) (T : NoG mg) : FnOk P w K mg base CX0 1 f fd ["one", "other"] (spSummed K cW cS) := by
  refine F.ok scSummed (fun vs H Q E h => ?_) (fun cdv A outer s H vs Q E hr h => ?_)
  · obtain ⟨_, _, _, _, _, _, _, _, _, rfl, _⟩ := h
    rfl
  · obtain ⟨k1, k2, a, b, ps, qs, sz, f, g, rfl, ha, hb, hl, hz, hf, hg, hs, k⟩ := h
    refine ⟨_, pss_one (ps_ret (pe_tupleOf (by rfl) T.tuple
      (pe_lcD (own := [("mine", 2), ("yours", 3)]) rfl scSummed.nd (pi_zipM (by rfl) T.zip (pa_cons (pv 0) (pa_cons (pv 1) pa_nil)))
        (blkOk_by (by kernel_rfl))
        (fun _ _ _ _ _ => pg_tup rfl (pgs_cons (pg_name (i := 2) scSummed.nd rfl (Or.inl rfl)) (pgs_cons (pg_name (i := 3) scSummed.nd rfl (Or.inl rfl)) pgs_nil)))
        (fun _ _ _ _ _ => pts_nil)
        (fun _ _ _ _ _ => pe_tupleOf (by rfl) T.tuple (pe_lcD (own := [("a", 4), ("b", 5)]) rfl scSummed.nd (pi_zipM (by rfl) T.zip (pa_cons (pv 2) (pa_cons (pv 3) pa_nil)))
          (blkOk_by (by kernel_rfl))
          (fun _ _ _ _ _ => pg_tup rfl (pgs_cons (pg_name (i := 4) scSummed.nd rfl (Or.inl rfl)) (pgs_cons (pg_name (i := 5) scSummed.nd rfl (Or.inl rfl)) pgs_nil)))
          (fun _ _ _ _ _ => pts_nil)
          (fun _ _ _ _ _ => pe_op op_add (pv 4) (pv 5))))))), ?_⟩
    refine ⟨_, rfl, _, rfl, k1, k2, a, b, _, _, rfl, ha, hb, fun D hD => lc_col (walk_zipM (by simp [hl])) hD (by simp; omega)
      (fun i y H => ∃ p, y = .ref p ∧ p ≠ D ∧ H p = some (.tup (nums (sz i) fun c => f i c + g i c))) (fun i y H H' hk ⟨p, e, ne, hp⟩ => ⟨p, e, ne, hk _ _ hp ne⟩) (fun H' s' => ⟨sqk_same s' ha, sqk_same s' hb⟩) ?_ ?_⟩
    · rintro i x H2 H3 K2 hi s2 ⟨acc, hacc⟩ ⟨T', x1, x2, rfl, hT, rfl, e1, e2⟩ hK
      obtain ⟨p, hp, rfl⟩ := refs_get e1
      obtain ⟨q, hq, rfl⟩ := refs_get e2
      have s3 : Same H2 (upd H2 T' (.tup [.ref p, .ref q])) := sameUpd hT
      have fp := s3 _ _ (s2 _ _ (hf i p hp))
      have fq := s3 _ _ (s2 _ _ (hg i q hq))
      refine ⟨T', _, rfl, SqT.of upd_same, rfl, _, _, rfl, _, _, rfl, rfl, rfl, ?_⟩
      refine ⟨_, rfl, _, rfl, true, true, p, q, _, _, rfl, SqT.of fp, SqT.of fq, fun D2 hD2 => lc_col (walk_zipM (by simp [nums_len])) hD2 (by have := hs i (by simpa using hi); simp [nums_len]; omega)
        (fun j y H => y = .int (f i j + g i j)) (fun i y H H' hk e => e) (fun H' s' => ⟨SqT.of (s' _ _ fp), SqT.of (s' _ _ fq)⟩) ?_ ?_⟩
      · rintro j x H4 H5 K3 hj s4 ⟨acc2, hacc2⟩ ⟨T2, y1, y2, rfl, hT2, rfl, e3, e4⟩ hK3
        obtain ⟨_, rfl⟩ := nums_get e3
        obtain ⟨_, rfl⟩ := nums_get e4
        refine ⟨T2, _, rfl, SqT.of upd_same, rfl, _, _, rfl, _, _, rfl, rfl, rfl, ?_⟩
        exact ⟨_, rfl, _, rfl, _, _, rfl, rfl, hK3 _ _ (sameUpd hT2) rfl⟩
      · rintro H4 ys s4 hy hl4 hr4
        have ey := eq_nums (by rw [hl4, nums_len]) hr4
        subst ey
        refine .inl ⟨D2, _, rfl, SqL.of hy, newT fun r H5 hr5 s5 h5 => ?_⟩
        exact hK _ _ (fun b o e => s5 _ _ (s4 _ _ (s3 _ _ e))) ⟨r, rfl, (ne_of_none (s4 _ _ (s3 _ _ hacc)) hr5).symm, h5⟩
    · rintro H4 ys s4 hy hl4 hr4
      obtain ⟨rs, rfl, hrs⟩ := refs_of hr4
      refine .inl ⟨D, _, rfl, SqL.of hy, newT fun r H5 hr5 s5 h5 => ?_⟩
      exact k _ r (fun b o e => s5 _ _ (s4 _ _ e)) ⟨rs, h5, by simpa using hl4, fun b p hp => s5 _ _ (hrs b p hp).2⟩
end
end WB

namespace WB
open PySem L2
/-! ### tuples joined and cut -/
theorem big1000 {n : Nat} (h : n ≤ 1000) : n ≤ sizeLine := by rw [sizeLine_eq]; omega
theorem Same.tr {H H1 H2 : Hp} (a : Same H H1) (b : Same H1 H2) : Same H H2 := fun x o e => b x o (a x o e)
theorem Same.rf {H : Hp} : Same H H := fun _ _ e => e
theorem cat_ok {K : PySem.W.Frag} {H : Hp} {a b : Addr} {xs ys : List V} {Q : VK} (ha : H a = some (.tup xs)) (hb : H b = some (.tup ys)) (hl : xs.length + ys.length ≤ 1000)
    (h : ∀ r H', Same H H' → H' r = some (.tup (xs ++ ys)) → Q (.ref r) H') : rCatA K (.ref a) (.ref b) H Q := by
  refine ⟨a, b, xs, ys, rfl, rfl, SqT.of ha, SqT.of hb, big1000 hl, fun e => ?_, fun _ e => ?_, fun _ _ p hp => ?_⟩
  · subst e; exact h b H Same.rf hb
  · subst e; exact h a H Same.rf (by rw [List.append_nil]; exact ha)
  · exact h p _ (sameUpd hp) upd_same
theorem cut_ok {K : PySem.W.Frag} {H : Hp} {a : Addr} {xs : List V} {lo hi : Option Int} {Q : VK} (ha : H a = some (.tup xs))
    (h : ∀ r H', Same H H' → H' r = some (.tup (cutV xs lo hi)) → Q (.ref r) H') : rSlA K (.ref a) lo hi H Q := by
  refine ⟨a, xs, rfl, SqT.of ha, fun e => ?_, fun _ p hp => ?_⟩
  · refine h a H Same.rf ?_
    rw [ha]
    unfold cutV
    rw [e.1, e.2]
    simp
  · exact h p _ (sameUpd hp) upd_same
theorem cut_to (xs : List V) (i : Nat) : cutV xs none (some (i : Int)) = xs.take i := by
  unfold cutV
  rw [HT.sIx_none, HT.sIx_nat]
  simp [List.take_eq_take_min]
theorem cut_from (xs : List V) (i : Nat) : cutV xs (some (i : Int)) none = xs.drop i := by
  unfold cutV
  rw [HT.sIx_none, HT.sIx_nat]
  by_cases h : i ≤ xs.length
  · rw [Nat.min_eq_left h, List.take_of_length_le]; simp
  · rw [Nat.min_eq_right (by omega), List.drop_of_length_le (by omega : xs.length ≤ i)]; simp
theorem cut_mid (xs : List V) (i j : Nat) (hij : i ≤ j) (hj : j ≤ xs.length) : cutV xs (some (i : Int)) (some (j : Int)) = (xs.drop i).take (j - i) := by
  unfold cutV
  rw [HT.sIx_nat, HT.sIx_nat, Nat.min_eq_left hj, Nat.min_eq_left (by omega)]
theorem put_at (xs : List V) (i : Nat) (v : V) (h : i < xs.length) : xs.take i ++ [v] ++ xs.drop (i + 1) = xs.set i v := by
  rw [List.set_eq_take_append_cons_drop, if_pos h]; simp
/-! ### a wont as it stands -/
def ordV (l : List Nat) : List V := l.map fun c => V.int (c : Nat)
theorem ordV_len (l : List Nat) : (ordV l).length = l.length := by simp [ordV]
theorem ordV_at {l : List Nat} {i c : Nat} (h : l[i]? = some c) : (ordV l)[i]? = some (V.int (c : Nat)) := by simp [ordV, h]
theorem ordV_get {l : List Nat} {i : Nat} {v : V} (h : (ordV l)[i]? = some v) : ∃ c : Nat, l[i]? = some c ∧ v = V.int (c : Nat) := by
  rw [ordV, List.getElem?_map] at h
  cases e : l[i]? with
  | none => rw [e] at h; simp at h
  | some c => rw [e] at h; simp at h; exact ⟨c, rfl, h.symm⟩
def BookAt (H : Hp) (p : Addr) (W : Pm.Wd) (b : Nat) : Prop := ∃ o g w, H p = some (.tup [.ref o, .ref g, .ref w]) ∧ OT H o (ordV (W.ord b)) ∧ H g = some (.tup (nums (W.sz b) (W.g b))) ∧ H w = some (.tup (nums (W.sz b) (W.w b)))
theorem BookAt.same {H H' : Hp} {p : Addr} {W : Pm.Wd} {b : Nat} (s : Same H H') (h : BookAt H p W b) : BookAt H' p W b := let ⟨o, g, w, h1, h2, h3, h4⟩ := h; ⟨o, g, w, s _ _ h1, h2.same s, s _ _ h3, s _ _ h4⟩
def BooksAt (H : Hp) (ps : List Addr) (W : Pm.Wd) : Prop := ps.length = W.nb ∧ ∀ b p, ps[b]? = some p → BookAt H p W b
theorem BooksAt.same {H H' : Hp} {ps : List Addr} {W : Pm.Wd} (s : Same H H') (h : BooksAt H ps W) : BooksAt H' ps W := ⟨h.1, fun b p e => (h.2 b p e).same s⟩
def fdV (f : Pm.Fd) : List V := [.int (f.b : Nat), .int (f.c : Nat), .int (f.t : Nat), .int (f.o : Nat), .int f.amt]
def kyV (k : Pm.K4) : List Key := [.inl (k.1 : Nat), .inl (k.2.1 : Nat), .inl (k.2.2.1 : Nat), .inl (k.2.2.2 : Nat)]
def FeedsAt (H : Hp) (qs : List Addr) (fs : List Pm.Fd) : Prop := qs.length = fs.length ∧ ∀ (i : Nat) (q : Addr) (f : Pm.Fd), qs[i]? = some q → fs[i]? = some f → H q = some (.tup (fdV f))
theorem FeedsAt.same {H H' : Hp} {qs : List Addr} {fs : List Pm.Fd} (s : Same H H') (h : FeedsAt H qs fs) : FeedsAt H' qs fs := ⟨h.1, fun i q f e e' => s _ _ (h.2 i q f e e')⟩
structure Told (H : Hp) (la lb : Addr) (W : Pm.Wd) (ps qs : List Addr) (fs : List Pm.Fd) : Prop where
  a : H la = some (.lst (ps.map V.ref))
  b : H lb = some (.lst (qs.map V.ref))
  bk : BooksAt H ps W
  pm : fs.Perm W.fs
  fd : FeedsAt H qs fs
theorem Told.same {H H' : Hp} {la lb : Addr} {W : Pm.Wd} {ps qs : List Addr} {fs : List Pm.Fd} (s : Same H H') (h : Told H la lb W ps qs fs) : Told H' la lb W ps qs fs := ⟨s _ _ h.a, s _ _ h.b, h.bk.same s, h.pm, h.fd.same s⟩
def ToldAt (H : Hp) (a : Addr) (W : Pm.Wd) : Prop := ∃ la lb ps qs fs, H a = some (.tup [.ref la, .ref lb]) ∧ Told H la lb W ps qs fs
theorem ToldAt.same {H H' : Hp} {a : Addr} {W : Pm.Wd} (s : Same H H') (h : ToldAt H a W) : ToldAt H' a W := let ⟨la, lb, ps, qs, fs, h1, h2⟩ := h; ⟨la, lb, ps, qs, fs, s _ _ h1, h2.same s⟩
/-- the moves by book and choice -/
def MvAt (H : Hp) (mk : List (List Key × V)) (W : Pm.Wd) (b c : Nat) : Prop := ∃ l ts, valV mk [Sum.inl (b : Int), Sum.inl (c : Int)] = some (.ref l) ∧ H l = some (.lst (ts.map V.ref)) ∧ ts.length = W.nb ∧ RowsAt H ts W.sz (fun t o => W.mv b c t o)
theorem MvAt.same {H H' : Hp} {mk : List (List Key × V)} {W : Pm.Wd} {b c : Nat} (s : Same H H') (h : MvAt H mk W b c) : MvAt H' mk W b c := let ⟨l, ts, h1, h2, h3, h4⟩ := h; ⟨l, ts, h1, s _ _ h2, h3, h4.same s⟩
def RkAt (H : Hp) (rs : List Addr) (W : Pm.Wd) : Prop := rs.length = W.nb ∧ ∀ b p, rs[b]? = some p → ∃ kvs, H p = some (.dK kvs) ∧ ∀ c ∈ W.ord b, valV kvs (Sum.inl (c : Int)) = some (.int (Pm.rk (W.ord b) c : Nat))
theorem RkAt.same {H H' : Hp} {rs : List Addr} {W : Pm.Wd} (s : Same H H') (h : RkAt H rs W) : RkAt H' rs W := ⟨h.1, fun b p e => let ⟨kvs, h1, h2⟩ := h.2 b p e; ⟨kvs, s _ _ h1, h2⟩⟩
structure WontIn (H : Hp) (W : Pm.Wd) (tb tl d m r : Addr) (ps rs : List Addr) (fs : List Pm.Fd) (mk : List (List Key × V)) : Prop where
  tb : H tb = some (.tup (ps.map V.ref))
  bk : BooksAt H ps W
  tl : H tl = some (.tup (nums W.nb fun b => (W.sz b : Nat)))
  d : H d = some (.dT (fs.map fun f => (kyV f.key, V.int f.amt)))
  pm : fs.Perm W.fs
  m : H m = some (.dT mk)
  mv : ∀ b c, b < W.nb → c < W.sz b → MvAt H mk W b c
  r : H r = some (.lst (rs.map V.ref))
  rk : RkAt H rs W
theorem WontIn.same {H H' : Hp} {W : Pm.Wd} {tb tl d m r : Addr} {ps rs : List Addr} {fs : List Pm.Fd} {mk : List (List Key × V)} (s : Same H H') (h : WontIn H W tb tl d m r ps rs fs mk) : WontIn H' W tb tl d m r ps rs fs mk :=
  ⟨s _ _ h.tb, h.bk.same s, s _ _ h.tl, s _ _ h.d, h.pm, s _ _ h.m, fun b c x y => (h.mv b c x y).same s, s _ _ h.r, h.rk.same s⟩
def wontF (tb tl d m r : Addr) : List (Str × V) := [("books", .ref tb), ("lengths", .ref tl), ("fed", .ref d), ("moves", .ref m), ("ranks", .ref r)]
def WontAt (cW : Addr) (H : Hp) (p : Addr) (W : Pm.Wd) : Prop := W.Ok ∧ ∃ dx tb tl d m r ps rs fs mk, H p = some (.ins cW dx (wontF tb tl d m r)) ∧ WontIn H W tb tl d m r ps rs fs mk
theorem WontAt.same {cW : Addr} {H H' : Hp} {p : Addr} {W : Pm.Wd} (s : Same H H') (h : WontAt cW H p W) : WontAt cW H' p W := let ⟨ok, dx, tb, tl, d, m, r, ps, rs, fs, mk, h1, h2⟩ := h; ⟨ok, dx, tb, tl, d, m, r, ps, rs, fs, mk, s _ _ h1, h2.same s⟩
/-- what the class is -/
structure WF (K : PySem.W.Frag) (cW : Addr) : Prop where
  cls : Cls K cW
  books : NoAttr K cW "books"
  lengths : NoAttr K cW "lengths"
  fed : NoAttr K cW "fed"
  moves : NoAttr K cW "moves"
  ranks : NoAttr K cW "ranks"
def JtAt (H : Hp) (a : Addr) (n : Nat) (J : Nat → Nat) : Prop := H a = some (.tup (nums n fun b => (J b : Nat)))
/-! ### the promises -/
def spPutIn (K : PySem.W.Frag) (cW cS : Addr) : Sp := fun vs H Q _ => ∃ (a : Addr) (i : Nat) (v : V) (xs : List V), vs = [.ref a, .int (i : Nat), v] ∧ H a = some (.tup xs) ∧ i < xs.length ∧ xs.length ≤ 100 ∧ ∀ r H', Same H H' → H' r = some (.tup (xs.set i v)) → Q (.ref r) H'
def spWsizes (K : PySem.W.Frag) (cW cS : Addr) : Sp := fun vs H Q _ => ∃ (p : Addr) (W : Pm.Wd), vs = [.ref p] ∧ WontAt cW H p W ∧ ∀ tl, H tl = some (.tup (nums W.nb fun b => (W.sz b : Nat))) → Q (.ref tl) H
def spWorder (K : PySem.W.Frag) (cW cS : Addr) : Sp := fun vs H Q _ => ∃ (p : Addr) (W : Pm.Wd) (b : Nat), vs = [.ref p, .int (b : Nat)] ∧ WontAt cW H p W ∧ b < W.nb ∧ ∀ o, OT H o (ordV (W.ord b)) → Q (.ref o) H
def spWis_ahead (K : PySem.W.Frag) (cW cS : Addr) : Sp := fun vs H Q _ => ∃ (p : Addr) (W : Pm.Wd) (b c o : Nat), vs = [.ref p, .int (b : Nat), .int (c : Nat), .int (o : Nat)] ∧ WontAt cW H p W ∧ b < W.nb ∧ c < W.sz b ∧ o < W.sz b ∧ Q (.bl (decide (Pm.rk (W.ord b) c < Pm.rk (W.ord b) o))) H
def spStrongest (K : PySem.W.Frag) (cW cS : Addr) : Sp := fun vs H Q _ => ∃ (p : Addr) (W : Pm.Wd) (b : Nat) (a : Addr) (s : Nat → Int), vs = [.ref p, .int (b : Nat), .ref a] ∧ WontAt cW H p W ∧ b < W.nb ∧ H a = some (.tup (nums (W.sz b) s)) ∧ Q (.int (Pm.pick (W.ord b) s : Nat)) H
def spJointOf (K : PySem.W.Frag) (cW cS : Addr) : Sp := fun vs H Q _ => ∃ (p : Addr) (W : Pm.Wd) (a : Addr) (s : Nat → Nat → Int), vs = [.ref p, .ref a] ∧ WontAt cW H p W ∧ StAt H a W.nb W.sz s ∧ ∀ r H', Same H H' → JtAt H' r W.nb (fun b => Pm.pick (W.ord b) (s b)) → Q (.ref r) H'
def spNothing (K : PySem.W.Frag) (cW cS : Addr) : Sp := fun vs H Q _ => ∃ (p : Addr) (W : Pm.Wd), vs = [.ref p] ∧ WontAt cW H p W ∧ ∀ r H', Same H H' → StAt H' r W.nb W.sz (fun _ _ => 0) → Q (.ref r) H'
def spMoved (K : PySem.W.Frag) (cW cS : Addr) : Sp := fun vs H Q _ => ∃ (p : Addr) (W : Pm.Wd) (a : Addr) (J : Nat → Nat), vs = [.ref p, .ref a] ∧ WontAt cW H p W ∧ JtAt H a W.nb J ∧ (∀ b, b < W.nb → J b < W.sz b) ∧ ∀ r H', Same H H' → StAt H' r W.nb W.sz (fun t o => Pm.sumTo (fun b => W.mv b (J b) t o) W.nb) → Q (.ref r) H'
end WB

namespace WB
open PySem L2
/-! ### wipe: reading behind it -/
theorem nums_max (n : Nat) (s : Nat → Int) (ord : List Nat) (hne : 0 < n) (hm : ∀ c, c ∈ ord ↔ c < n) : ∃ (m : Int) (ms : List Int), nums n s = (m :: ms).map V.int ∧ (∀ c, c < n → (s c = ms.foldl max m ↔ Pm.isMax ord s c = true)) := by
  have e : nums n s = ((List.range n).map s).map V.int := by simp [nums]
  cases h : (List.range n).map s with
  | nil => have := congrArg List.length h; simp at this; omega
  | cons m ms =>
    refine ⟨m, ms, by rw [e, h], fun c hc => ?_⟩
    have hmem : ∀ x, x ∈ m :: ms ↔ ∃ c, c < n ∧ s c = x := fun x => by rw [← h]; simp
    have fm : ∀ (l : List Int) (a : Int), (l.foldl max a ∈ a :: l) ∧ ∀ x ∈ a :: l, x ≤ l.foldl max a := by
      intro l
      induction l with
      | nil => intro a; simp
      | cons b l ih =>
        intro a
        obtain ⟨i1, i2⟩ := ih (max a b)
        rw [List.foldl_cons]
        refine ⟨?_, fun x hx => ?_⟩
        · rcases List.mem_cons.mp i1 with q | q
          · rw [q]
            rcases Int.le_total a b with h' | h'
            · rw [Int.max_eq_right h']; simp
            · rw [Int.max_eq_left h']; simp
          · simp [q]
        · have hab := i2 (max a b) (by simp)
          rcases List.mem_cons.mp hx with q | q
          · have := Int.le_max_left a b; omega
          · rcases List.mem_cons.mp q with q | q
            · have := Int.le_max_right a b; omega
            · exact i2 x (List.mem_cons_of_mem _ q)
    obtain ⟨i1, i2⟩ := fm ms m
    rw [Pm.isMax_iff]
    constructor
    · intro q o ho
      have ho' := (hm o).mp ho
      have := i2 (s o) ((hmem _).mpr ⟨o, ho', rfl⟩)
      omega
    · intro q
      obtain ⟨c', hc', e'⟩ := (hmem _).mp i1
      have h1 := q c' ((hm c').mpr hc')
      have h2 := i2 (s c) ((hmem _).mpr ⟨c, hc, rfl⟩)
      omega
theorem WontIn.len {H : Hp} {W : Pm.Wd} {tb tl d m r : Addr} {ps rs : List Addr} {fs : List Pm.Fd} {mk : List (List Key × V)} (h : WontIn H W tb tl d m r ps rs fs mk) {b : Nat} (hb : b < W.nb) : ∃ p o g w, ps[b]? = some p ∧ H p = some (.tup [.ref o, .ref g, .ref w]) ∧ OT H o (ordV (W.ord b)) ∧ H g = some (.tup (nums (W.sz b) (W.g b))) ∧ H w = some (.tup (nums (W.sz b) (W.w b))) := by
  have : ps[b]? = some (ps[b]'(by rw [h.bk.1]; exact hb)) := List.getElem?_eq_getElem _
  obtain ⟨o, g, w, x⟩ := h.bk.2 b _ this
  exact ⟨_, o, g, w, this, x⟩
theorem dget_k {H : Hp} {a : Addr} {kvs : List (Key × V)} {c : Int} {v : V} (e : H a = some (.dK kvs)) (h : valV kvs (Sum.inl c) = some v) : DGet H a (.int c) (some v) := by
  have := DGet.k (k := Sum.inl c) e
  rw [h] at this
  exact this
theorem pick_first {ord : List Nat} {f : Nat → Int} {i c : Nat} (hc : ord[i]? = some c) (hm : Pm.isMax ord f c = true) (hj : ∀ (j c : Nat), j < i → ord[j]? = some c → Pm.isMax ord f c = false) : Pm.pick ord f = c := by
  unfold Pm.pick
  have : ord.find? (Pm.isMax ord f) = some c := by
    rw [List.find?_eq_some_iff_getElem]
    refine ⟨hm, i, get_lt hc, (List.getElem?_eq_some_iff.mp hc).2, fun j hj' => ?_⟩
    have := hj j (ord[j]'(by have := get_lt hc; omega)) hj' (List.getElem?_eq_getElem _)
    simp [this]
  rw [this]; rfl
theorem rep_nums (n : Nat) : (List.replicate n [V.int 0]).flatten = nums n fun _ => 0 := by
  induction n with
  | zero => rfl
  | succ n ih =>
    rw [List.replicate_succ', List.flatten_append, ih, nums, nums, List.range_succ, List.map_append]; rfl
section
variable {P : Program} {w : World} {K : PySem.W.Frag} {mg : Str → Option Value} {base : Heap} {cW cS : Addr}
abbrev sPutIn : Stmt := top 39
theorem scPutIn : FnScope ["some", "at", "thing"] ["some", "at", "thing"] (defScope sPutIn) := ⟨rfl, rfl, rfl, by decide +kernel, rfl, by decide +kernel, by decide +kernel⟩
theorem ok_PutIn {f : Addr} {fd : FuncData} (F : Fun K "put_in" "put_in" sPutIn f fd) (T : NoG mg)  : FnOk P w K mg base CX0 1 f fd ["some", "at", "thing"] (spPutIn K cW cS) := by
  refine F.ok scPutIn (fun vs H Q E h => ?_) (fun cdv A outer s H vs Q E hr h => ?_)
  · repeat (first | (obtain ⟨rfl, _⟩ := h; rfl) | (obtain ⟨_, h⟩ := h))
  · obtain ⟨a, i, v, xs, rfl, ha, hi, hl, k⟩ := h
    refine ⟨_, (pss_one (ps_ret (pe_op op_catA (pe_op op_catA (pe_slice sl_tupA (pv 0) po_none (po_some (pv 1))) (pe_tup (pa_cons (pv 2) pa_nil))) (pe_slice sl_tupA (pv 0) (po_some (pe_op op_add (pv 1) pe_int)) po_none)))), ?_⟩
    refine ⟨_, rfl, _, rfl, _, rfl, cut_ok ha fun r1 H1 s1 h1 => ?_⟩
    refine ⟨_, rfl, big1000 (by simp), fun p hp => cat_ok (sameUpd hp _ _ h1) upd_same ?_ fun r3 H3 s3 h3 => ?_⟩
    · rw [cut_to]; simp; omega
    refine ⟨_, rfl, _, rfl, ⟨_, _, rfl, rfl, _, rfl, ?_⟩⟩
    dsimp only [tNoPart]
    refine cut_ok (s3 _ _ (sameUpd hp _ _ (s1 _ _ ha))) ?_
    intro r4 H4 s4 h4
    refine cat_ok (s4 _ _ h3) h4 ?_ fun r5 H5 s5 h5 => ?_
    · rw [cut_to]
      have := cutV_length xs (some ((i : Int) + 1)) none
      simp; omega
    refine k _ _ (Same.tr s1 (Same.tr (sameUpd hp) (Same.tr s3 (Same.tr s4 s5)))) ?_
    rw [h5, cut_to, show ((i : Int) + 1) = ((i + 1 : Nat) : Int) from rfl, cut_from, put_at _ _ _ hi]
abbrev sWsizes : Stmt := inClass (top 30) 4
theorem scWsizes : FnScope ["self"] ["self"] (defScope sWsizes) := ⟨rfl, rfl, rfl, by decide +kernel, rfl, by decide +kernel, by decide +kernel⟩
theorem ok_Wsizes {f : Addr} {fd : FuncData} (F : Fun K "sizes" "Wont.sizes" sWsizes f fd) (T : NoG mg) (hW : WF K cW)  : FnOk P w K mg base CX0 1 f fd ["self"] (spWsizes K cW cS) := by
  refine F.ok scWsizes (fun vs H Q E h => ?_) (fun cdv A outer s H vs Q E hr h => ?_)
  · repeat (first | (obtain ⟨rfl, _⟩ := h; rfl) | (obtain ⟨_, h⟩ := h))
  · obtain ⟨p, W, rfl, ⟨ok, dx, tb, tl, d, m, r, ps, rs, fs, mk, hp, hi⟩, k⟩ := h
    refine ⟨_, (pss_one (ps_ret (pe_fld (pv 0) rfl))), ?_⟩
    exact ⟨_, rfl, _, _, _, _, _, rfl, hp, hW.cls, hW.lengths, rfl, k _ hi.tl⟩
abbrev sWorder : Stmt := inClass (top 30) 5
theorem scWorder : FnScope ["self", "book"] ["self", "book"] (defScope sWorder) := ⟨rfl, rfl, rfl, by decide +kernel, rfl, by decide +kernel, by decide +kernel⟩
theorem ok_Worder {f : Addr} {fd : FuncData} (F : Fun K "order" "Wont.order" sWorder f fd) (T : NoG mg) (hW : WF K cW)  : FnOk P w K mg base CX0 1 f fd ["self", "book"] (spWorder K cW cS) := by
  refine F.ok scWorder (fun vs H Q E h => ?_) (fun cdv A outer s H vs Q E hr h => ?_)
  · repeat (first | (obtain ⟨rfl, _⟩ := h; rfl) | (obtain ⟨_, h⟩ := h))
  · obtain ⟨p, W, b, rfl, ⟨ok, dx, tb, tl, d, m, r, ps, rs, fs, mk, hp, hi⟩, hb, k⟩ := h
    refine ⟨_, (pss_one (ps_ret (pe_ix ix_tup (pe_ix ix_tup (pe_fld (pv 0) rfl) (pv 1) (fun _ _ => rfl)) pe_int (fun _ _ => rfl)))), ?_⟩
    obtain ⟨q, o, g, w, e, hq, ho, hg, hw⟩ := hi.len hb
    exact ⟨_, rfl, _, _, _, _, _, rfl, hp, hW.cls, hW.books, rfl, _, rfl, _, _, _, _, rfl, rfl, SqT.of hi.tb, atI_nat (refs_at e), _, _, _, _, rfl, rfl, SqT.of hq, rfl, k _ ho⟩
abbrev sWis_ahead : Stmt := inClass (top 30) 6
theorem scWis_ahead : FnScope ["self", "book", "one", "other"] ["self", "book", "one", "other"] (defScope sWis_ahead) := ⟨rfl, rfl, rfl, by decide +kernel, rfl, by decide +kernel, by decide +kernel⟩
theorem ok_Wis_ahead {f : Addr} {fd : FuncData} (F : Fun K "is_ahead" "Wont.is_ahead" sWis_ahead f fd) (T : NoG mg) (hW : WF K cW)  : FnOk P w K mg base CX0 1 f fd ["self", "book", "one", "other"] (spWis_ahead K cW cS) := by
  refine F.ok scWis_ahead (fun vs H Q E h => ?_) (fun cdv A outer s H vs Q E hr h => ?_)
  · repeat (first | (obtain ⟨rfl, _⟩ := h; rfl) | (obtain ⟨_, h⟩ := h))
  · obtain ⟨p, W, b, c, o, rfl, ⟨ok, dx, tb, tl, d, m, r, ps, rs, fs, mk, hp, hi⟩, hb, hc, ho, k⟩ := h
    refine ⟨_, (pss_one (ps_ret (pe_cmpR op_lt (pe_dget (hu_of hr) (pe_ix ix_list (pe_fld (pv 0) rfl) (pv 1) (fun _ _ => rfl)) (pv 2) (fun _ _ => rfl)) (pe_dget (hu_of hr) (pe_ix ix_list (pe_fld (pv 0) rfl) (pv 1) (fun _ _ => rfl)) (pv 3) (fun _ _ => rfl)) (nomark _)))), ?_⟩
    have e : rs[b]? = some (rs[b]'(by rw [hi.rk.1]; exact hb)) := List.getElem?_eq_getElem _
    obtain ⟨kvs, hk, hv⟩ := hi.rk.2 b _ e
    refine ⟨_, rfl, _, _, _, _, _, rfl, hp, hW.cls, hW.ranks, rfl, _, rfl, _, _, _, _, rfl, rfl, SqL.of hi.r, atI_nat (refs_at e), _, rfl, _, _, rfl, dget_k hk (hv c ((ok.mem b hb c).mpr hc)), ?_⟩
    refine ⟨_, rfl, _, _, _, _, _, rfl, hp, hW.cls, hW.ranks, rfl, _, rfl, _, _, _, _, rfl, rfl, SqL.of hi.r, atI_nat (refs_at e), _, rfl, _, _, rfl, dget_k hk (hv o ((ok.mem b hb o).mpr ho)), _, _, rfl, rfl, ?_⟩
    have e2 : decide ((Pm.rk (W.ord b) c : Int) < (Pm.rk (W.ord b) o : Int)) = decide (Pm.rk (W.ord b) c < Pm.rk (W.ord b) o) := decide_eq_decide.mpr (by omega)
    dsimp only
    rw [e2]
    exact k
abbrev sStrongest : Stmt := top 19
theorem scStrongest : FnScope ["wont", "book", "strengths", "most", "choice"] ["wont", "book", "strengths"] (defScope sStrongest) := ⟨rfl, rfl, rfl, by decide +kernel, rfl, by decide +kernel, by decide +kernel⟩
theorem ok_Strongest {f : Addr} {fd : FuncData} (F : Fun K "strongest" "strongest" sStrongest f fd) (T : NoG mg) (hW : WF K cW) (c_Worder : CalM P w K mg base CX0 1 cW "order" ["self", "book"] (spWorder K cW cS)) : FnOk P w K mg base CX0 2 f fd ["wont", "book", "strengths"] (spStrongest K cW cS) := by
  refine F.ok scStrongest (fun vs H Q E h => ?_) (fun cdv A outer s H vs Q E hr h => ?_)
  · repeat (first | (obtain ⟨rfl, _⟩ := h; rfl) | (obtain ⟨_, h⟩ := h))
  · obtain ⟨p, W, b, a, st, rfl, hWt, hb, ha, k⟩ := h
    refine ⟨_, (pss_cons (ps_set (i := 3) scStrongest.nd rfl (Or.inl rfl) (pe_callB (cr_maxT rfl hr.units) (by rfl) T.max (by decide +kernel) (pa_cons (pv 2) pa_nil)))
      (pss_one (ps_for PassesOwn.never rfl (pi_tup (pe_mc (pv 0) c_Worder (hr.mono (by decide)) pass0 (pa_cons (pv 1) pa_nil))) (pg_name (i := 4) scStrongest.nd rfl (Or.inl rfl))
        (pss_one (ps_if (pt_cmpR op_eq (pe_ix ix_tup (pv 2) (pv 4) (fun _ _ => rfl)) (pv 3) (nomark _)) (pss_one (ps_ret (pv 4))) pss_nil))))), ?_⟩
    obtain ⟨ok, dx, tb, tl, d, m, r, ps, rs, fs, mk, hp, hi⟩ := id hWt
    obtain ⟨q, o, g, w, e, hq, ho, hg, hw⟩ := hi.len hb
    obtain ⟨mx, ms, em, hm⟩ := nums_max (W.sz b) st (W.ord b) (ok.s1 b hb) (ok.mem b hb)
    refine ⟨_, rfl, a, mx, ms, rfl, SqT.of (by rw [ha, em]), ?_⟩
    refine ⟨_, rfl, _, _, _, rfl, hp, rfl, _, rfl, p, W, b, rfl, hWt, hb, fun o2 ho2 => ?_⟩
    refine ⟨o2, rfl, ⟨_, ho2.sq⟩, for_it (walk_tup (xs := ordV (W.ord b))) (fun i σ H' => H' = H ∧ (∃ x, σ = [some (.ref p), some (.int (b : Nat)), some (.ref a), some (.int (ms.foldl max mx)), x]) ∧ ∀ (j c : Nat), j < i → (W.ord b)[j]? = some c → Pm.isMax (W.ord b) st c = false) ?_ ?_ ?_ ?_⟩
    · exact ⟨rfl, ⟨_, rfl⟩, fun j c h => absurd h (Nat.not_lt_zero _)⟩
    · rintro i σ H' hi' ⟨rfl, _⟩; exact ho2.sq
    · rintro i x σ H' _ hi' ⟨rfl, ⟨y, rfl⟩, hj⟩ ⟨rfl, hx⟩
      obtain ⟨c, hc, rfl⟩ := ordV_get hx
      have hcn : c < W.sz b := (ok.mem b hb c).mp (List.mem_of_getElem? hc)
      refine ⟨_, rfl, _, rfl, _, _, _, _, rfl, rfl, SqT.of ha, atI_nat (nums_at hcn), _, rfl, rfl, _, rfl, ite2 (fun e => ?_) (fun e => ?_)⟩
      · have e1 : st c = ms.foldl max mx := V.int.inj (of_decide_eq_true e)
        have e2 : Pm.pick (W.ord b) st = c := pick_first hc ((hm c hcn).mp e1) hj
        exact ⟨_, rfl, by rw [e2] at k; exact k⟩
      · refine ⟨rfl, ⟨_, rfl⟩, fun j c' hjl hc' => ?_⟩
        by_cases h : j < i
        · exact hj j c' h hc'
        · have : j = i := by omega
          subst this
          rw [hc] at hc'; cases hc'
          cases q : Pm.isMax (W.ord b) st c with
          | false => rfl
          | true => exact absurd (decide_eq_true (congrArg V.int ((hm c hcn).mpr q))) e
    · rintro σ H' ⟨rfl, _, hj⟩
      rw [ordV_len] at hj
      have h1 := Pm.pick_ok (ord := W.ord b) (by intro z; have := (ok.mem b hb 0).mpr (ok.s1 b hb); rw [z] at this; simp at this) st
      obtain ⟨h2, h3, _⟩ := Pm.find_rk h1
      obtain ⟨j, hjl⟩ := List.getElem?_of_mem h2
      have := hj j _ (get_lt hjl) hjl
      rw [h3] at this; cases this
abbrev sJointOf : Stmt := top 20
theorem scJointOf : FnScope ["wont", "stand", "book", "strengths"] ["wont", "stand"] (defScope sJointOf) := ⟨rfl, rfl, rfl, by decide +kernel, rfl, by decide +kernel, by decide +kernel⟩
theorem ok_JointOf {f : Addr} {fd : FuncData} (F : Fun K "joint_of" "joint_of" sJointOf f fd) (T : NoG mg) (c_strongest : Cal P w K mg base CX0 2 "strongest" ["wont", "book", "strengths"] (spStrongest K cW cS)) : FnOk P w K mg base CX0 3 f fd ["wont", "stand"] (spJointOf K cW cS) := by
  refine F.ok scJointOf (fun vs H Q E h => ?_) (fun cdv A outer s H vs Q E hr h => ?_)
  · repeat (first | (obtain ⟨rfl, _⟩ := h; rfl) | (obtain ⟨_, h⟩ := h))
  · obtain ⟨p, W, a, st, rfl, hWt, hst, k⟩ := h
    refine ⟨_, (pss_one (ps_ret (pe_tupleOf (by rfl) T.tuple (pe_lcD (own := [("book", 2), ("strengths", 3)]) rfl scJointOf.nd (pi_enumM (by rfl) T.enumerate (pa_cons (pv 1) pa_nil)) (blkOk_by (by kernel_rfl)) (fun _ _ _ _ _ => (pg_tup (n := 2) rfl (pgs_cons (pg_name (i := 2) scJointOf.nd rfl (Or.inl rfl)) (pgs_cons (pg_name (i := 3) scJointOf.nd rfl (Or.inl rfl)) pgs_nil)))) (fun _ _ _ _ _ => pts_nil) (fun _ _ _ _ _ => (pe_cal c_strongest (hr.mono (by decide)) pass0 (pa_cons (pv 0) (pa_cons (pv 2) (pa_cons (pv 3) pa_nil))))))))), ?_⟩
    obtain ⟨ok, _⟩ := id hWt
    obtain ⟨ps, ha, hl, hr'⟩ := hst
    refine ⟨_, rfl, true, a, _, rfl, SqT.of ha, fun D hD => lc_col walk_enumM hD (by have := ok.n4; simp; omega)
      (fun i y H => y = .int (Pm.pick (W.ord i) (st i) : Nat)) (fun i y H H' hk e => e) (fun H' s' => SqT.of (s' _ _ ha)) ?_ ?_⟩
    · rintro i x H2 H3 K2 hi s2 ⟨acc, hacc⟩ ⟨T', x1, x2, rfl, hT, rfl, e1, e2⟩ hK
      cases e1
      obtain ⟨q, hq, rfl⟩ := refs_get e2
      have s3 : Same H2 (upd H2 T' (.tup [.int (i : Nat), .ref q])) := sameUpd hT
      refine ⟨T', _, rfl, SqT.of upd_same, rfl, _, _, rfl, _, _, rfl, rfl, rfl, ?_⟩
      refine ⟨_, rfl, _, rfl, _, rfl, p, W, i, q, st i, rfl, (hWt.same s2).same s3, by have := get_lt hq; omega, s3 _ _ (s2 _ _ (hr' i q hq)), hK _ _ s3 rfl⟩
    · rintro H4 ys s4 hy hl4 hr4
      have ey := eq_nums (f := fun i => (Pm.pick (W.ord i) (st i) : Nat)) (by rw [hl4]) hr4
      subst ey
      refine .inl ⟨D, _, rfl, SqL.of hy, newT fun r H5 hr5 s5 h5 => k r _ (Same.tr s4 s5) ?_⟩
      unfold JtAt
      rw [h5]
      simp [hl]
abbrev sNothing : Stmt := top 22
theorem scNothing : FnScope ["wont", "many"] ["wont"] (defScope sNothing) := ⟨rfl, rfl, rfl, by decide +kernel, rfl, by decide +kernel, by decide +kernel⟩
theorem ok_Nothing {f : Addr} {fd : FuncData} (F : Fun K "nothing" "nothing" sNothing f fd) (T : NoG mg) (c_Wsizes : CalM P w K mg base CX0 1 cW "sizes" ["self"] (spWsizes K cW cS)) : FnOk P w K mg base CX0 2 f fd ["wont"] (spNothing K cW cS) := by
  refine F.ok scNothing (fun vs H Q E h => ?_) (fun cdv A outer s H vs Q E hr h => ?_)
  · repeat (first | (obtain ⟨rfl, _⟩ := h; rfl) | (obtain ⟨_, h⟩ := h))
  · obtain ⟨p, W, rfl, hWt, k⟩ := h
    refine ⟨_, (pss_one (ps_ret (pe_tupleOf (by rfl) T.tuple (pe_lcD (own := [("many", 1)]) rfl scNothing.nd (pi_tup (pe_mc0 (pv 0) c_Wsizes (hr.mono (by decide)) pass0)) (blkOk_by (by kernel_rfl)) (fun _ _ _ _ _ => (pg_name (i := 1) scNothing.nd rfl (Or.inl rfl))) (fun _ _ _ _ _ => pts_nil) (fun _ _ _ _ _ => (pe_op op_repU (pe_tup (pa_cons pe_int pa_nil)) (pv 1))))))), ?_⟩
    obtain ⟨ok, dx, tb, tl, d, m, r, ps, rs, fs, mk, hp, hi⟩ := id hWt
    refine ⟨_, rfl, _, _, _, rfl, hp, rfl, p, W, rfl, hWt, fun tl2 htl => ?_⟩
    refine ⟨tl2, rfl, ⟨_, SqT.of htl⟩, fun D hD => lc_col walk_tup hD (by have := ok.n4; simp [nums_len]; omega)
      (fun i y H => ∃ q, y = .ref q ∧ q ≠ D ∧ H q = some (.tup (nums (W.sz i) fun _ => 0))) (fun i y H H' hk ⟨q, e, ne, hq⟩ => ⟨q, e, ne, hk _ _ hq ne⟩) (fun H' s' => SqT.of (s' _ _ htl)) ?_ ?_⟩
    · rintro i x H2 _ K2 hi2 s2 ⟨acc, hacc⟩ ⟨rfl, hx⟩ hK
      obtain ⟨hin, rfl⟩ := nums_get hx
      have h1 := ok.s1 i hin
      have h5 := ok.s5 i hin
      refine ⟨rfl, big1000 (by simp), fun q hq => ?_⟩
      refine ⟨_, rfl, q, (W.sz i : Nat), [V.int 0], rfl, rfl, SqT.of upd_same, by simp, by omega, by omega, by simp, fun e => ?_, fun h q2 hq2 => ?_⟩
      · refine hK _ _ (sameUpd hq) ⟨q, rfl, (ne_of_none hacc hq).symm, ?_⟩
        have : W.sz i = 1 := by omega
        rw [upd_same, this]; rfl
      · refine hK _ _ (Same.tr (sameUpd hq) (sameUpd hq2)) ⟨q2, rfl, (ne_of_none (sameUpd hq _ _ hacc) hq2).symm, ?_⟩
        rw [upd_same, Int.toNat_natCast, rep_nums]
    · rintro H4 ys s4 hy hl4 hr4
      obtain ⟨rs, rfl, hrs⟩ := refs_of hr4
      refine .inl ⟨D, _, rfl, SqL.of hy, newT fun r H5 hr5 s5 h5 => ?_⟩
      exact k r _ (Same.tr s4 s5) ⟨rs, h5, by simpa [nums_len] using hl4, fun b p hp => s5 _ _ (hrs b p hp).2⟩
end
end WB


namespace WB
open PySem L2
theorem dget_t {H : Hp} {a b : Addr} {kvs : List (List Key × V)} {k : List Key} {o : Option V} (e : H a = some (.dT kvs)) (eb : H b = some (.tup (k.map kV))) (h : valV kvs k = o) : DGet H a (.ref b) o := by
  have := DGet.t e eb
  rw [h] at this
  exact this
theorem RowsAt.congr {H : Hp} {ps : List Addr} {sz : Nat → Nat} {f g : Nat → Nat → Int} (h : RowsAt H ps sz f) (e : ∀ b c, b < ps.length → c < sz b → f b c = g b c) : RowsAt H ps sz g := fun b p hp => by
  rw [h b p hp]
  refine congrArg (fun l => some (HO.tup l)) ?_
  refine eq_nums (nums_len _ _) fun i y hy => ?_
  obtain ⟨hi, rfl⟩ := nums_get hy
  rw [e b i (get_lt hp) hi]
section
variable {P : Program} {w : World} {K : PySem.W.Frag} {mg : Str → Option Value} {base : Heap} {cW cS : Addr}
abbrev sMoved : Stmt := top 23
theorem scMoved : FnScope ["wont", "joint", "found", "book", "choice"] ["wont", "joint"] (defScope sMoved) := ⟨rfl, rfl, rfl, by decide +kernel, rfl, by decide +kernel, by decide +kernel⟩
theorem ok_Moved {f : Addr} {fd : FuncData} (F : Fun K "moved" "moved" sMoved f fd) (T : NoG mg) (hW : WF K cW) (c_nothing : Cal P w K mg base CX0 2 "nothing" ["wont"] (spNothing K cW cS)) (c_summed : Cal P w K mg base CX0 1 "summed" ["one", "other"] (spSummed K cW cS)) : FnOk P w K mg base CX0 3 f fd ["wont", "joint"] (spMoved K cW cS) := by
  refine F.ok scMoved (fun vs H Q E h => ?_) (fun cdv A outer s H vs Q E hr h => ?_)
  · repeat (first | (obtain ⟨rfl, _⟩ := h; rfl) | (obtain ⟨_, h⟩ := h))
  · obtain ⟨p, W, a, J, rfl, hWt, ha, hJ, k⟩ := h
    refine ⟨_, (pss_cons (ps_set (i := 2) scMoved.nd rfl (Or.inl rfl) (pe_cal c_nothing (hr.mono (by decide)) pass0 (pa_cons (pv 0) pa_nil)))
      (pss_cons (ps_for PassesOwn.never rfl (pi_enumM (by rfl) T.enumerate (pa_cons (pv 1) pa_nil)) (pg_tup (n := 2) rfl (pgs_cons (pg_name (i := 3) scMoved.nd rfl (Or.inl rfl)) (pgs_cons (pg_name (i := 4) scMoved.nd rfl (Or.inl rfl)) pgs_nil)))
        (pss_one (ps_set (i := 2) scMoved.nd rfl (Or.inl rfl) (pe_cal c_summed (hr.mono (by decide)) pass0 (pa_cons (pv 2) (pa_cons (pe_dget (hu_of hr) (pe_fld (pv 0) rfl) (pe_tup (pa_cons (pv 3) (pa_cons (pv 4) pa_nil))) (fun _ _ => rfl)) pa_nil))))))
      (pss_one (ps_ret (pv 2))))), ?_⟩
    obtain ⟨ok, dx, tb, tl, d, m, r, ps, rs, fs, mk, hp, hi⟩ := id hWt
    refine ⟨_, rfl, p, W, rfl, hWt, fun r0 H0 s0 h0 => ?_⟩
    refine ⟨_, rfl, true, a, _, rfl, SqT.of (s0 _ _ ha), for_it (walk_enumM (xs := nums W.nb fun b => ((J b : Nat) : Int))) (fun i σ H' => Same H H' ∧ ∃ rr x y, σ = [some (.ref p), some (.ref a), some (.ref rr), x, y] ∧ StAt H' rr W.nb W.sz (fun t o => Pm.sumTo (fun b => W.mv b (J b) t o) i)) ?_ ?_ ?_ ?_⟩
    · exact ⟨s0, r0, _, _, rfl, h0⟩
    · rintro i σ H' _ ⟨s', _⟩; exact SqT.of (s' _ _ ha)
    · rintro i x σ H1 H2 hin ⟨s1, rr, x3, x4, rfl, hst⟩ ⟨T', y1, y2, rfl, hT, rfl, e1, e2⟩
      cases e1
      obtain ⟨hib, rfl⟩ := nums_get e2
      have s2 : Same H1 (upd H1 T' (.tup [.int (i : Nat), .int (J i : Nat)])) := sameUpd hT
      refine ⟨T', _, rfl, SqT.of upd_same, rfl, _, _, rfl, _, _, rfl, rfl, ?_⟩
      have hi2 := (hi.same s1).same s2
      obtain ⟨l, ts, g1, g2, g3, g4⟩ := hi2.mv i (J i) hib (hJ i hib)
      refine ⟨_, rfl, _, rfl, _, _, _, _, _, rfl, s2 _ _ (s1 _ _ hp), hW.cls, hW.moves, rfl, _, rfl, _, rfl, big1000 (by simp), fun q hq => ?_⟩
      have s3 : Same _ (upd _ q (.tup [.int (i : Nat), .int (J i : Nat)])) := sameUpd hq
      refine ⟨_, _, rfl, dget_t (k := [Sum.inl (i : Int), Sum.inl (J i : Int)]) (s3 _ _ hi2.m) upd_same g1, ?_⟩
      obtain ⟨us, hu, hul, hur⟩ := (hst.same s2).same s3
      refine ⟨true, false, rr, l, us, ts, W.sz, _, _, rfl, SqT.of hu, SqL.of (s3 _ _ g2), by rw [hul, g3], by have := ok.n4; omega, hur, g4.same s3, fun b hb => by have := ok.s5 b (by omega); omega, fun H5 r5 s5 h5 => ?_⟩
      refine ⟨Same.tr s1 (Same.tr s2 (Same.tr s3 s5)), r5, _, _, rfl, ?_⟩
      rw [hul] at h5
      exact h5
    · rintro σ H' ⟨s', rr, x, y, rfl, hst⟩
      rw [nums_len] at hst
      exact ⟨_, rfl, k rr H' s' hst⟩
end
end WB


namespace WB
open PySem L2
theorem sameW {H H1 : Hp} {D : Addr} {o : HO} (s : Same H H1) (hn : H D = none) : Same H (upd H1 D o) := fun b u e => by rw [upd_ne (ne_of_none e hn)]; exact s b u e
theorem famt_perm {fs gs : List Pm.Fd} (h : fs.Perm gs) (k : Pm.K4) : Pm.famt fs k = Pm.famt gs k := by
  induction h with
  | nil => rfl
  | cons x _ ih => rw [Pm.famt_cons, Pm.famt_cons, ih]
  | swap x y l => rw [Pm.famt_cons, Pm.famt_cons, Pm.famt_cons, Pm.famt_cons]; omega
  | trans _ _ i1 i2 => rw [i1, i2]
theorem walk_rng {n : Nat} : Walk (Itr 0 n) n (fun _ => True) (YFn fun i => .int (i : Nat)) :=
  walk_range.mono (fun _ h => h) fun i H x H' _ _ h => ⟨h.1, by have e := h.2; dsimp only at e ⊢; rw [e, Int.zero_add]⟩
theorem wrn {n : Nat} : Walk (Itr 0 ((n : Nat) : Int).toNat) n (fun _ => True) (YFn fun i => .int (i : Nat)) := by
  rw [Int.toNat_natCast]; exact walk_rng
theorem kyV_inj {a b : Pm.K4} : kyV a = kyV b ↔ a = b := by
  obtain ⟨a1, a2, a3, a4⟩ := a
  obtain ⟨b1, b2, b3, b4⟩ := b
  simp [kyV]
  omega
theorem fed_get {fs : List Pm.Fd} (hn : (fs.map Pm.Fd.key).Nodup) (k : Pm.K4) : ((valV (fs.map fun f => (kyV f.key, V.int f.amt)) (kyV k)).getD (.int 0)) = .int (Pm.famt fs k) := by
  unfold valV
  cases h : (fs.map fun f => (kyV f.key, V.int f.amt)).find? fun kv => decide (kv.1 = kyV k) with
  | none =>
    rw [Pm.famt_out]
    · rfl
    · intro f hf e
      have := List.find?_eq_none.mp h _ (List.mem_map.mpr ⟨f, hf, rfl⟩)
      simp [e] at this
  | some kv =>
    have h1 := List.mem_of_find?_eq_some h
    have h2 := List.find?_some h
    obtain ⟨f, hf, rfl⟩ := List.mem_map.mp h1
    have e : f.key = k := kyV_inj.mp (of_decide_eq_true h2)
    subst e
    rw [Pm.famt_in hn hf]
    rfl
theorem unlockSame {H1 H' : Hp} {d : Addr} {od : Obj} {u : HO} (e : H1 d = some u) (s : Same (upd H1 d (.frz od u)) H') : Same H1 (upd H' d u) := fun b o h => by
  by_cases hb : b = d
  · subst hb; rw [e] at h; cases h; exact upd_same
  · rw [upd_ne hb]; exact s b o ((upd_ne hb).trans h)
def fdI (f : Pm.Fd) : List Int := [(f.b : Nat), (f.c : Nat), (f.t : Nat), (f.o : Nat), f.amt]
def unfd (l : List Int) : Pm.Fd := ⟨(l.getD 0 0).toNat, (l.getD 1 0).toNat, (l.getD 2 0).toNat, (l.getD 3 0).toNat, l.getD 4 0⟩
theorem unfd_I (f : Pm.Fd) : unfd (fdI f) = f := by simp [unfd, fdI]
theorem fdI_V (f : Pm.Fd) : (fdI f).map V.int = fdV f := rfl
structure PreIn (H : Hp) (W : Pm.Wd) (tb tl d : Addr) (ps : List Addr) (fs : List Pm.Fd) : Prop where
  tb : H tb = some (.tup (ps.map V.ref))
  bk : BooksAt H ps W
  tl : H tl = some (.tup (nums W.nb fun b => (W.sz b : Nat)))
  d : H d = some (.dT (fs.map fun f => (kyV f.key, V.int f.amt)))
  pm : fs.Perm W.fs
theorem PreIn.same {H H' : Hp} {W : Pm.Wd} {tb tl d : Addr} {ps : List Addr} {fs : List Pm.Fd} (s : Same H H') (h : PreIn H W tb tl d ps fs) : PreIn H' W tb tl d ps fs := ⟨s _ _ h.tb, h.bk.same s, s _ _ h.tl, s _ _ h.d, h.pm⟩
theorem WontIn.pre {H : Hp} {W : Pm.Wd} {tb tl d m r : Addr} {ps rs : List Addr} {fs : List Pm.Fd} {mk : List (List Key × V)} (h : WontIn H W tb tl d m r ps rs fs mk) : PreIn H W tb tl d ps fs := ⟨h.tb, h.bk, h.tl, h.d, h.pm⟩
theorem PreIn.len {H : Hp} {W : Pm.Wd} {tb tl d : Addr} {ps : List Addr} {fs : List Pm.Fd} (h : PreIn H W tb tl d ps fs) {b : Nat} (hb : b < W.nb) : ∃ p o g w, ps[b]? = some p ∧ H p = some (.tup [.ref o, .ref g, .ref w]) ∧ OT H o (ordV (W.ord b)) ∧ H g = some (.tup (nums (W.sz b) (W.g b))) ∧ H w = some (.tup (nums (W.sz b) (W.w b))) := by
  have : ps[b]? = some (ps[b]'(by rw [h.bk.1]; exact hb)) := List.getElem?_eq_getElem _
  obtain ⟨o, g, w, x⟩ := h.bk.2 b _ this
  exact ⟨_, o, g, w, this, x⟩
def preF (tb tl d : Addr) : List (Str × V) := [("books", .ref tb), ("lengths", .ref tl), ("fed", .ref d)]
theorem MvAt.kd {H H' : Hp} {D : Addr} {mk mk' : List (List Key × V)} {W : Pm.Wd} {b c : Nat} (hk : Kd D H H') (hD : H D = some (.dT mk)) (e : valV mk' [Sum.inl (b : Int), Sum.inl (c : Int)] = valV mk [Sum.inl (b : Int), Sum.inl (c : Int)]) (h : MvAt H mk W b c) : MvAt H' mk' W b c := by
  obtain ⟨l, ts, h1, h2, h3, h4⟩ := h
  refine ⟨l, ts, e.trans h1, hk _ _ h2 (ne_of h2 hD (by simp)), h3, fun i p hp => hk _ _ (h4 i p hp) (ne_of (h4 i p hp) hD (by simp))⟩
def spWadds_to (K : PySem.W.Frag) (cW cS : Addr) : Sp := fun vs H Q _ => ∃ (p : Addr) (W : Pm.Wd) (b c t : Nat) (dx tb tl d : Addr) (ps : List Addr) (fs : List Pm.Fd), vs = [.ref p, .int (b : Nat), .int (c : Nat), .int (t : Nat)] ∧ W.Ok ∧ H p = some (.ins cW dx (preF tb tl d)) ∧ PreIn H W tb tl d ps fs ∧ b < W.nb ∧ c < W.sz b ∧ t < W.nb ∧ ∀ r H', Same H H' → H' r = some (.tup (nums (W.sz t) fun o => W.mv b c t o)) → Q (.ref r) H'
def spWall_moves (K : PySem.W.Frag) (cW cS : Addr) : Sp := fun vs H Q _ => ∃ (p : Addr) (W : Pm.Wd) (dx tb tl d : Addr) (ps : List Addr) (fs : List Pm.Fd), vs = [.ref p] ∧ W.Ok ∧ H p = some (.ins cW dx (preF tb tl d)) ∧ PreIn H W tb tl d ps fs ∧ ∀ r H' mk, Same H H' → H' r = some (.dT mk) → (∀ b c, b < W.nb → c < W.sz b → MvAt H' mk W b c) → Q (.ref r) H'
def spWtold (K : PySem.W.Frag) (cW cS : Addr) : Sp := fun vs H Q _ => ∃ (p : Addr) (W : Pm.Wd), vs = [.ref p] ∧ WontAt cW H p W ∧ ∀ a H' la lb ps qs fs, Same H H' → H la = none → lb ≠ la → H' a = some (.tup [.ref la, .ref lb]) → Told H' la lb W ps qs fs → Q (.ref a) H'
section
variable {P : Program} {w : World} {K : PySem.W.Frag} {mg : Str → Option Value} {base : Heap} {cW cS : Addr}
abbrev sWadds_to : Stmt := inClass (top 30) 2
theorem scWadds_to : FnScope ["self", "book", "choice", "to", "found", "one", "order", "gains", "wanes", "more", "wane"] ["self", "book", "choice", "to"] (defScope sWadds_to) := ⟨rfl, rfl, rfl, by decide +kernel, rfl, by decide +kernel, by decide +kernel⟩
theorem ok_Wadds_to {f : Addr} {fd : FuncData} (F : Fun K "adds_to" "Wont.adds_to" sWadds_to f fd) (T : NoG mg) (hW : WF K cW)  : FnOk P w K mg base CX0 1 f fd ["self", "book", "choice", "to"] (spWadds_to K cW cS) := by
  refine F.ok scWadds_to (fun vs H Q E h => ?_) (fun cdv A outer s H vs Q E hr h => ?_)
  · repeat (first | (obtain ⟨rfl, _⟩ := h; rfl) | (obtain ⟨_, h⟩ := h))
  · obtain ⟨p, W, b, c, t, dx, tb, tl, d, ps, fs, rfl, ok, hp, hi, hb, hc, ht, k⟩ := h
    refine ⟨_, (pss_cons (ps_setLcD (i := 4) (own := [("one", 5)]) rfl scWadds_to.nd rfl rfl (sw_true rfl rfl rfl (by decide +kernel)) (pi_range1 (by rfl) T.range (pa_cons (pe_ix ix_tup (pe_fld (pv 0) rfl) (pv 3) (fun _ _ => rfl)) pa_nil)) (blkOk_by (by kernel_rfl)) (fun _ _ _ _ _ => (pg_name (i := 5) scWadds_to.nd rfl (Or.inl rfl))) (fun _ _ _ _ _ => pts_nil) (fun _ _ _ _ _ => (pe_dget2 (hu_of hr) (pe_fld (pv 0) rfl) (pe_tup (pa_cons (pv 1) (pa_cons (pv 2) (pa_cons (pv 3) (pa_cons (pv 5) pa_nil))))) pe_int ⟨rfl, rfl, rfl, rfl⟩)))
      (pss_cons (ps_if (pt_cmpR op_eq (pv 1) (pv 3) (nomark _)) (pss_cons (ps_asg (pe_ix ix_tup (pe_fld (pv 0) rfl) (pv 1) (fun _ _ => rfl)) (pg_tup (n := 3) rfl (pgs_cons (pg_name (i := 6) scWadds_to.nd rfl (Or.inl rfl)) (pgs_cons (pg_name (i := 7) scWadds_to.nd rfl (Or.inl rfl)) (pgs_cons (pg_name (i := 8) scWadds_to.nd rfl (Or.inl rfl)) pgs_nil)))))
          (pss_cons (ps_setLcD (i := 4) (own := [("more", 9), ("wane", 10)]) rfl scWadds_to.nd rfl rfl (sw_true rfl rfl rfl (by decide +kernel)) (pi_zipM (by rfl) T.zip (pa_cons (pv 4) (pa_cons (pv 8) pa_nil))) (blkOk_by (by kernel_rfl)) (fun _ _ _ _ _ => (pg_tup (n := 2) rfl (pgs_cons (pg_name (i := 9) scWadds_to.nd rfl (Or.inl rfl)) (pgs_cons (pg_name (i := 10) scWadds_to.nd rfl (Or.inl rfl)) pgs_nil)))) (fun _ _ _ _ _ => pts_nil) (fun _ _ _ _ _ => (pe_op op_sub (pv 9) (pv 10))))
          (pss_one (ps_asg (pe_ix ix_tup (pv 7) (pv 2) (fun _ _ => rfl)) (pg_sub (pv 4) (pv 2) set_list))))) pss_nil)
      (pss_one (ps_ret (pe_tupleOf (by rfl) T.tuple (pv 4)))))), ?_⟩
    have hs := ok.s5 t ht
    have hfn : (fs.map Pm.Fd.key).Nodup := ((hi.pm.map Pm.Fd.key).nodup_iff).mpr ok.fn
    refine ⟨_, rfl, _, _, _, _, _, rfl, hp, hW.cls, hW.lengths, rfl, _, rfl, _, _, _, _, rfl, rfl, SqT.of hi.tl, atI_nat (nums_at ht), _, rfl, by omega, by omega, fun D hD => lc_col wrn hD (by omega)
      (fun i y H => y = .int (Pm.famt W.fs (b, c, t, i))) (fun i y H H' hk e => e) (fun H' s' => trivial) ?_ ?_⟩
    · rintro i x H2 _ K2 hi2 s2 ⟨acc, hacc⟩ ⟨rfl, rfl⟩ hK
      refine ⟨rfl, ⟨_, rfl, _, _, _, _, _, rfl, s2 _ _ hp, hW.cls, hW.fed, rfl, _, rfl, .inr ⟨_, .inl (s2 _ _ hi.d)⟩, ⟨_, rfl, _, rfl, _, rfl, _, rfl, big1000 (by simp), fun q hq => ?_⟩⟩⟩
      refine ⟨_, dget_t (k := kyV (b, c, t, i)) (sameUpd hq _ _ (s2 _ _ hi.d)) upd_same rfl, ?_⟩
      rw [fed_get hfn, famt_perm hi.pm]
      exact hK _ _ (sameUpd hq) rfl
    · rintro H4 ys s4 hy hl4 hr4
      have ey := eq_nums hl4 hr4
      subst ey
      refine ⟨_, rfl, _, rfl, rfl, _, rfl, ite2 (fun e => ?_) (fun e => ?_)⟩
      · have e1 : b = t := by have := V.int.inj (of_decide_eq_true e); omega
        subst e1
        have hD4 : H4 D = some (.lst (nums (W.sz b) fun i => Pm.famt W.fs (b, c, b, i))) := hy
        obtain ⟨q, o, g, w, e, hq, ho, hg, hw⟩ := (hi.same s4).len hb
        refine ⟨_, rfl, _, _, _, _, _, rfl, s4 _ _ hp, hW.cls, hW.books, rfl, _, rfl, _, _, _, _, rfl, rfl, SqT.of (hi.same s4).tb, atI_nat (refs_at e), q, _, rfl, SqT.of hq, rfl, _, _, rfl, _, _, rfl, _, _, rfl, rfl, ?_⟩
        refine ⟨_, rfl, _, rfl, false, true, D, w, _, _, rfl, SqL.of hy, SqT.of hw, fun D2 hD2 => lc_col (walk_zipM (by rw [nums_len, nums_len])) hD2 (by rw [nums_len]; omega)
          (fun i y H => y = .int (Pm.famt W.fs (b, c, b, i) - W.w b i)) (fun i y H H' hk e => e) (fun H' s' => ⟨SqL.of (s' _ _ hD4), SqT.of (s' _ _ hw)⟩) ?_ ?_⟩
        · rintro i x H5 H6 K5 hi5 s5 ⟨acc, hacc⟩ ⟨T', x1, x2, rfl, hT, rfl, e1, e2⟩ hK
          obtain ⟨_, rfl⟩ := nums_get e1
          obtain ⟨_, rfl⟩ := nums_get e2
          exact ⟨T', _, rfl, SqT.of upd_same, rfl, _, _, rfl, _, _, rfl, rfl, rfl, ⟨_, rfl, _, rfl, _, _, rfl, rfl, hK _ _ (sameUpd hT) rfl⟩⟩
        · rintro H7 ys s7 hy7 hl7 hr7
          have ey := eq_nums (by rw [hl7, nums_len]) hr7
          subst ey
          have hD7 : H7 D = _ := s7 _ _ hD4
          refine ⟨_, rfl, _, rfl, ⟨_, _, _, _, rfl, rfl, SqT.of (s7 _ _ hg), atI_nat (nums_at hc), ?_⟩⟩
          refine ⟨_, rfl, _, rfl, D2, _, (c : Int), c, rfl, rfl, hy7, ?_, ?_⟩
          · rw [nums_len]
            unfold ixN
            rw [if_pos (by omega), if_pos (by omega), Int.toNat_natCast]
          have s8 : Same H H7 := Same.tr s4 s7
          have hn2 : H D2 = none := by
            cases e : H D2 with
            | none => rfl
            | some o => have := s4 _ _ e; rw [hD2] at this; cases this
          refine ⟨_, rfl, .inl ⟨D2, _, rfl, SqL.of upd_same, newT fun r H9 _ s9 h9 => k r _ (Same.tr (sameW s8 hn2) s9) ?_⟩⟩
          rw [h9]
          refine congrArg (fun l => some (HO.tup l)) (eq_nums (by rw [List.length_set, nums_len]) fun i y hyi => ?_)
          by_cases hic : i = c
          · subst hic
            rw [List.getElem?_set_self (by rw [nums_len]; exact hc)] at hyi
            cases hyi
            simp only [Pm.Wd.mv, if_true]
            rw [Pm.famt_out fun f hf e => ?_]
            · simp
            · have := (ok.fi f hf).2.2.2.2.1
              apply this
              simp only [Pm.Fd.key, Prod.mk.injEq] at e
              simp [e]
          · rw [List.getElem?_set_ne (fun z => hic z.symm)] at hyi
            obtain ⟨_, rfl⟩ := nums_get hyi
            simp only [Pm.Wd.mv, if_true, if_neg hic]
            rw [Int.add_comm, Int.sub_eq_add_neg]
      · have e1 : ¬ b = t := fun q => e (decide_eq_true (by rw [q]))
        refine ⟨_, rfl, .inl ⟨D, _, rfl, SqL.of hy, newT fun r H9 _ s9 h9 => k r _ (Same.tr s4 s9) ?_⟩⟩
        rw [h9]
        refine congrArg (fun l => some (HO.tup l)) (eq_nums (nums_len _ _) fun i y hyi => ?_)
        obtain ⟨_, rfl⟩ := nums_get hyi
        simp only [Pm.Wd.mv, if_neg (fun z : t = b => e1 z.symm), Int.zero_add]
abbrev sWall_moves : Stmt := inClass (top 30) 1
theorem scWall_moves : FnScope ["self", "found", "book", "many", "choice", "to"] ["self"] (defScope sWall_moves) := ⟨rfl, rfl, rfl, by decide +kernel, rfl, by decide +kernel, by decide +kernel⟩
theorem ok_Wall_moves {f : Addr} {fd : FuncData} (F : Fun K "all_moves" "Wont.all_moves" sWall_moves f fd) (T : NoG mg) (hW : WF K cW) (c_Wadds_to : CalM P w K mg base CX0 1 cW "adds_to" ["self", "book", "choice", "to"] (spWadds_to K cW cS)) : FnOk P w K mg base CX0 2 f fd ["self"] (spWall_moves K cW cS) := by
  refine F.ok scWall_moves (fun vs H Q E h => ?_) (fun cdv A outer s H vs Q E hr h => ?_)
  · repeat (first | (obtain ⟨rfl, _⟩ := h; rfl) | (obtain ⟨_, h⟩ := h))
  · obtain ⟨p, W, dx, tb, tl, d, ps, fs, rfl, ok, hp, hi, k⟩ := h
    refine ⟨_, (pss_cons (ps_set (i := 1) scWall_moves.nd rfl (Or.inl rfl) pe_dnewT)
      (pss_cons (ps_for PassesOwn.never rfl (pi_enumM (by rfl) T.enumerate (pa_cons (pe_fld (pv 0) rfl) pa_nil)) (pg_tup (n := 2) rfl (pgs_cons (pg_name (i := 2) scWall_moves.nd rfl (Or.inr rfl)) (pgs_cons (pg_name (i := 3) scWall_moves.nd rfl (Or.inl rfl)) pgs_nil)))
        (pss_one (ps_for PassesOwn.never rfl (pi_range1 (by rfl) T.range (pa_cons (pv 3) pa_nil)) (pg_name (i := 4) scWall_moves.nd rfl (Or.inr rfl))
            (pss_one (ps_dput (hu_of hr) (pv 1) (pe_tup (pa_cons (pv 2) (pa_cons (pv 4) pa_nil))) (pe_lcD (own := [("to", 5)]) rfl scWall_moves.nd (pi_range1 (by rfl) T.range (pa_cons (pe_callB call_len (by rfl) T.len PySem.boot_len (pa_cons (pe_fld (pv 0) rfl) pa_nil)) pa_nil)) (blkOk_by (by kernel_rfl)) (fun _ _ _ _ _ => (pg_name (i := 5) scWall_moves.nd rfl (Or.inl rfl))) (fun _ _ _ _ _ => pts_nil) (fun _ _ _ _ _ => (pe_mc (pv 0) c_Wadds_to (hr.mono (by decide)) pass0 (pa_cons (pv 2) (pa_cons (pv 4) (pa_cons (pv 5) pa_nil)))))) rfl)))))
      (pss_one (ps_ret (pv 1))))), ?_⟩
    intro D hD
    have s0 : Same H (upd H D (.dT [])) := sameUpd hD
    refine ⟨_, rfl, _, _, _, _, _, rfl, s0 _ _ hp, hW.cls, hW.lengths, rfl, true, tl, _, rfl, SqT.of (s0 _ _ hi.tl), ?_⟩
    refine for_it (walk_enumM (xs := nums W.nb fun b => ((W.sz b : Nat) : Int))) (fun i σ H' => Same H H' ∧ (∃ x y z u, σ = [some (.ref p), some (.ref D), x, y, z, u]) ∧ ∃ mk, H' D = some (.dT mk) ∧ mk.length ≤ 5 * i ∧ ∀ b c, b < i → c < W.sz b → MvAt H' mk W b c) ?_ ?_ ?_ ?_
    · exact ⟨s0, ⟨_, _, _, _, rfl⟩, [], upd_same, Nat.le_refl _, fun b c h => absurd h (Nat.not_lt_zero _)⟩
    · rintro i σ H' _ ⟨s', _⟩; exact SqT.of (s' _ _ hi.tl)
    · rintro i x σ H1 H2 hin ⟨s1, ⟨x2, x3, x4, x5, rfl⟩, mk, hD1, hlen, hmv⟩ ⟨T', y1, y2, rfl, hT, rfl, e1, e2⟩
      cases e1
      obtain ⟨hib, rfl⟩ := nums_get e2
      have s2 : Same H1 (upd H1 T' (.tup [.int (i : Nat), .int (W.sz i : Nat)])) := sameUpd hT
      refine ⟨T', _, rfl, SqT.of upd_same, rfl, _, _, rfl, _, _, rfl, rfl, ?_⟩
      have h5 := ok.s5 i hib
      refine ⟨_, rfl, _, rfl, by omega, by omega, ?_⟩
      refine for_it (wrn (n := W.sz i)) (fun j σ H' => Same H H' ∧ (∃ z u, σ = [some (.ref p), some (.ref D), some (.int (i : Nat)), some (.int (W.sz i : Nat)), z, u]) ∧ ∃ mk, H' D = some (.dT mk) ∧ mk.length ≤ 5 * i + j ∧ ∀ b c, (b < i ∨ (b = i ∧ c < j)) → c < W.sz b → MvAt H' mk W b c) ?_ (fun _ _ _ _ _ => trivial) ?_ ?_
      · exact ⟨Same.tr s1 s2, ⟨_, _, rfl⟩, mk, s2 _ _ hD1, hlen, fun b c h hc => by
          rcases h with h | ⟨_, h⟩
          · exact (hmv b c h hc).same s2
          · exact absurd h (Nat.not_lt_zero _)⟩
      · rintro j x σ H3 H4 hj ⟨s3, ⟨x4, x5, rfl⟩, mk, hD3, hlen, hmv⟩ ⟨rfl, rfl⟩
        have h4 := ok.n4
        refine ⟨_, rfl, _, _, _, _, _, rfl, s3 _ _ hp, hW.cls, hW.lengths, rfl, _, W.nb, rfl, .inr ⟨_, SqT.of (s3 _ _ hi.tl), (nums_len _ _).symm⟩, _, rfl, by omega, by omega, fun D2 hD2 => lc_col wrn hD2 (by omega)
          (fun t y H => ∃ q, y = .ref q ∧ q ≠ D2 ∧ H q = some (.tup (nums (W.sz t) fun o => W.mv i j t o))) (fun t y H H' hk ⟨q, e, ne, hq⟩ => ⟨q, e, ne, hk _ _ hq ne⟩) (fun _ _ => trivial) ?_ ?_⟩
        · rintro t x H5 _ K5 ht s5 ⟨acc, hacc⟩ ⟨rfl, rfl⟩ hK
          have s35 := Same.tr s3 s5
          refine ⟨rfl, _, rfl, p, dx, _, rfl, s35 _ _ hp, rfl, _, rfl, _, rfl, _, rfl, p, W, i, j, t, dx, tb, tl, d, ps, fs, rfl, ok, s35 _ _ hp, hi.same s35, hib, hj, ht, fun r H6 s6 h6 => ?_⟩
          exact hK _ _ s6 ⟨r, rfl, ne_of h6 (s6 _ _ hacc) (by simp), h6⟩
        · rintro H7 ys s7 hy hl7 hr7
          obtain ⟨ts, rfl, hts⟩ := refs_of hr7
          have hl7' : ts.length = W.nb := by simpa using hl7
          refine ⟨_, rfl, _, rfl, _, rfl, big1000 (by simp), fun q hq => ?_⟩
          have s8 : Same H7 (upd H7 q (.tup [.int (i : Nat), .int (j : Nat)])) := sameUpd hq
          have s38 := Same.tr s7 s8
          refine ⟨_, _, rfl, DPut.t (k := [Sum.inl (i : Int), Sum.inl (j : Int)]) (s38 _ _ hD3) upd_same (small1000 (by omega)), ?_⟩
          have hkd : Kd D _ (upd (upd H7 q (.tup [.int (i : Nat), .int (j : Nat)])) D (.dT (putK mk [Sum.inl (i : Int), Sum.inl (j : Int)] (.ref D2)))) := fun b o e ne => (upd_ne ne).trans e
          refine ⟨sameW (Same.tr s3 s38) hD, ⟨_, _, rfl⟩, _, upd_same, by have := length_putK mk [Sum.inl (i : Int), Sum.inl (j : Int)] (.ref D2); omega, fun b c hbc hc => ?_⟩
          by_cases hz : b = i ∧ c = j
          · obtain ⟨rfl, rfl⟩ := hz
            refine ⟨D2, ts, by rw [valV_put, if_pos rfl], hkd _ _ (s8 _ _ hy) (ne_of (s8 _ _ hy) (s38 _ _ hD3) (by simp)), hl7', fun t p' hp' => ?_⟩
            have := s8 _ _ (hts t p' hp').2
            exact hkd _ _ this (ne_of this (s38 _ _ hD3) (by simp))
          · refine (((hmv b c (by omega) hc).same s38)).kd hkd (s38 _ _ hD3) ?_
            rw [valV_put, if_neg]
            intro e
            simp at e
            omega
      · rintro σ H3 ⟨s3, ⟨z, u, rfl⟩, mk, hD3, hlen, hmv⟩
        refine ⟨s3, ⟨_, _, _, _, rfl⟩, mk, hD3, by omega, fun b c hb hc => hmv b c ?_ hc⟩
        by_cases h : b < i
        · exact .inl h
        · have : b = i := by omega
          subst this
          exact .inr ⟨rfl, hc⟩
    · rintro σ H3 ⟨s3, ⟨x, y, z, u, rfl⟩, mk, hD3, hlen, hmv⟩
      rw [nums_len] at hmv
      exact ⟨_, rfl, k D H3 mk s3 hD3 hmv⟩
abbrev sWtold : Stmt := inClass (top 30) 3
theorem scWtold : FnScope ["self", "pair", "amount"] ["self"] (defScope sWtold) := ⟨rfl, rfl, rfl, by decide +kernel, rfl, by decide +kernel, by decide +kernel⟩
theorem ok_Wtold {f : Addr} {fd : FuncData} (F : Fun K "told" "Wont.told" sWtold f fd) (T : NoG mg) (hW : WF K cW)  : FnOk P w K mg base CX0 1 f fd ["self"] (spWtold K cW cS) := by
  refine F.ok scWtold (fun vs H Q E h => ?_) (fun cdv A outer s H vs Q E hr h => ?_)
  · repeat (first | (obtain ⟨rfl, _⟩ := h; rfl) | (obtain ⟨_, h⟩ := h))
  · obtain ⟨p, W, rfl, ⟨ok, dx, tb, tl, d, m, r, ps, rs, fs, mk, hp, hi⟩, k⟩ := h
    refine ⟨_, (pss_one (ps_ret (pe_tup (pa_cons (pe_callTy call_list_of (by rfl) T.list (by decide +kernel) (pa_cons (pe_fld (pv 0) rfl) pa_nil)) (pa_cons (pe_callB (cr_sortT hr.units) (by rfl) T.sorted (by decide +kernel) (pa_cons (pe_lock (pe_lcD (own := [("pair", 1), ("amount", 2)]) rfl scWtold.nd (pi_itemsT (pe_fld (pv 0) rfl)) (blkOk_by (by kernel_rfl)) (fun _ _ _ _ _ => (pg_tup (n := 2) rfl (pgs_cons (pg_name (i := 1) scWtold.nd rfl (Or.inl rfl)) (pgs_cons (pg_name (i := 2) scWtold.nd rfl (Or.inl rfl)) pgs_nil)))) (fun _ _ _ _ _ => pts_nil) (fun _ _ _ _ _ => (pe_op op_catA (pv 1) (pe_tup (pa_cons (pv 2) pa_nil)))))) pa_nil)) pa_nil))))), ?_⟩
    refine ⟨_, rfl, _, _, _, _, _, rfl, hp, hW.cls, hW.books, rfl, tb, _, rfl, .inr (SqT.of hi.tb), fun la hla => ?_⟩
    have s1 : Same H (upd H la (.lst (ps.map V.ref))) := sameUpd hla
    refine ⟨d, _, s1 _ _ hi.d, trivial, fun od => ?_⟩
    have hne : p ≠ d := ne_of hp hi.d (by simp)
    have hlen : fs.length ≤ 1000 := by have := ok.fl; have := hi.pm.length_eq; omega
    refine ⟨_, rfl, _, _, _, _, _, rfl, (upd_ne hne).trans (s1 _ _ hp), hW.cls, hW.fed, rfl, d, od, _, rfl, upd_same, fun D hD => ?_⟩
    refine lc_col walk_itemsT hD (by rw [List.length_map]; omega) (fun i y H => ∃ q f, y = .ref q ∧ q ≠ D ∧ fs[i]? = some f ∧ H q = some (.tup (fdV f))) (fun i y H H' hk ⟨q, f, e, ne, e2, hq⟩ => ⟨q, f, e, ne, e2, hk _ _ hq ne⟩) (fun H' s' => s' _ _ upd_same) ?_ ?_
    · rintro i x H2 H3 K2 hi2 s2 ⟨acc, hacc⟩ ⟨T', kk, v, q, ei, rfl, hT, hq, rfl⟩ hK
      rw [List.getElem?_map] at ei
      cases ef : fs[i]? with
      | none => rw [ef] at ei; simp at ei
      | some f =>
        rw [ef] at ei
        simp only [Option.map_some, Option.some.injEq, Prod.mk.injEq] at ei
        obtain ⟨rfl, rfl⟩ := ei
        have s3 : Same H2 (upd H2 T' (.tup [.ref q, .int f.amt])) := sameUpd hT
        refine ⟨T', _, rfl, SqT.of upd_same, rfl, _, _, rfl, _, _, rfl, rfl, rfl, _, rfl, _, rfl, big1000 (by simp), fun q2 hq2 => ?_⟩
        have s4 : Same _ (upd (upd H2 T' (.tup [.ref q, .int f.amt])) q2 (.tup [.int f.amt])) := sameUpd hq2
        refine cat_ok (s4 _ _ (s3 _ _ hq)) upd_same (by simp [kyV]) fun r5 H5 s5 h5 => ?_
        have h5' : H5 r5 = some (.tup (fdV f)) := by rw [h5]; rfl
        exact hK _ _ (Same.tr s3 (Same.tr s4 s5)) ⟨r5, f, rfl, ne_of h5' (s5 _ _ (s4 _ _ (s3 _ _ hacc))) (by simp), ef, h5'⟩
    · rintro H4 ys s4 hy hl4 hr4
      obtain ⟨qs, rfl, hqs⟩ := refs_of (R := fun i q => ∃ f, q ≠ D ∧ fs[i]? = some f ∧ H4 q = some (.tup (fdV f))) fun i y e => by
        obtain ⟨q, f, e1, h⟩ := hr4 i y e
        exact ⟨q, e1, f, h⟩
      have hd4 : H4 d = some (.frz od (.dT (fs.map fun f => (kyV f.key, V.int f.amt)))) := s4 _ _ upd_same
      refine ⟨hd4, ?_⟩
      have hql : qs.length = fs.length := by simpa using hl4
      have s5 : Same H (upd H4 d (.dT (fs.map fun f => (kyV f.key, V.int f.amt)))) := Same.tr s1 (unlockSame (s1 _ _ hi.d) s4)
      have hq5 : ∀ (i : Nat) (q : Addr) (f : Pm.Fd), qs[i]? = some q → fs[i]? = some f → (upd H4 d (.dT (fs.map fun f => (kyV f.key, V.int f.amt)))) q = some (.tup (fdV f)) := fun i q f e e2 => by
        obtain ⟨f', _, e3, h⟩ := hqs i q e
        rw [e2] at e3; cases e3
        exact (upd_ne (ne_of h hd4 (by simp))).trans h
      have hla5 : (upd H4 d (.dT (fs.map fun f => (kyV f.key, V.int f.amt)))) la = some (.lst (ps.map V.ref)) := unlockSame (s1 _ _ hi.d) s4 _ _ upd_same
      have hD5 : (upd H4 d (.dT (fs.map fun f => (kyV f.key, V.int f.amt)))) D = some (.lst (qs.map V.ref)) := (upd_ne (ne_of hy hd4 (by simp))).trans hy
      generalize upd H4 d (.dT (fs.map fun f => (kyV f.key, V.int f.amt))) = H5 at s5 hq5 hla5 hD5
      refine ⟨D, (qs.zip fs).map fun z => (z.1, fdI z.2), rfl, SqL.of ?_, ?_, ?_⟩
      · rw [hD5, List.map_map]
        refine congrArg (fun l => some (HO.lst l)) ?_
        have : (qs.zip fs).map (fun z => z.1) = qs := List.map_fst_zip (by omega)
        conv => lhs; rw [← this]
        rw [List.map_map]; rfl
      · intro b hb
        obtain ⟨z, hz, rfl⟩ := List.mem_map.mp hb
        obtain ⟨i, hiz⟩ := List.getElem?_of_mem hz
        obtain ⟨a1, a2⟩ := List.getElem?_zip_eq_some.mp hiz
        exact ⟨by rw [fdI_V]; exact hq5 i z.1 z.2 a1 a2, by simp [fdI]⟩
      · intro bs' pl hpm hpl
        have s6 : Same H5 (upd H5 pl (.lst (bs'.map fun b => V.ref b.1))) := sameUpd hpl
        refine ⟨big1000 (by simp), newT fun a H7 _ s7 h7 => k a H7 la pl ps (bs'.map (·.1)) (bs'.map fun b => unfd b.2) (Same.tr s5 (Same.tr s6 s7)) hla (ne_of_none hla5 hpl).symm h7 ⟨s7 _ _ (s6 _ _ hla5), ?_, ?_, ?_, ?_⟩⟩
        · rw [s7 _ _ upd_same, List.map_map]; rfl
        · exact hi.bk.same (Same.tr s5 (Same.tr s6 s7))
        · refine List.Perm.trans ?_ hi.pm
          have h1 := hpm.map fun b => unfd b.2
          rw [List.map_map] at h1
          have h2 : ((qs.zip fs).map ((fun b : Addr × List Int => unfd b.2) ∘ fun z => (z.1, fdI z.2))) = fs := by
            have : (qs.zip fs).map (fun z => z.2) = fs := List.map_snd_zip (by omega)
            conv => rhs; rw [← this]
            refine List.map_congr_left fun z _ => ?_
            exact unfd_I z.2
          rw [h2] at h1
          exact h1
        · refine ⟨by simp, fun i q f e e2 => ?_⟩
          rw [List.getElem?_map] at e e2
          cases eb : bs'[i]? with
          | none => rw [eb] at e; simp at e
          | some b =>
            rw [eb] at e e2
            simp only [Option.map_some, Option.some.injEq] at e e2
            subst e e2
            have hm := (hpm.mem_iff).mp (List.mem_of_getElem? eb)
            obtain ⟨z, hz, rfl⟩ := List.mem_map.mp hm
            obtain ⟨j, hjz⟩ := List.getElem?_of_mem hz
            obtain ⟨a1, a2⟩ := List.getElem?_zip_eq_some.mp hjz
            rw [unfd_I]
            exact s7 _ _ (s6 _ _ (hq5 j z.1 z.2 a1 a2))
end
end WB


namespace WB
open PySem L2
/-- the text's constants -/
structure Csts (mg : Str → Option Value) : Prop where
  MOST_AMOUNT : ∃ t, mg "MOST_AMOUNT" = some (.int 1000000000 t)
  MOST_BOOKS : ∃ t, mg "MOST_BOOKS" = some (.int 4 t)
  MOST_CHOICES : ∃ t, mg "MOST_CHOICES" = some (.int 5 t)
  MOST_TURNED : ∃ t, mg "MOST_TURNED" = some (.int 60 t)
  MOST_PIECES : ∃ t, mg "MOST_PIECES" = some (.int 300 t)
theorem pe_const {X : Cx} {x : Str} {n : Int} {pos : Pos} (hg : Gl X x) (h : ∃ t, X.mg x = some (.int n t)) (hd : (x == ("__debug__" : Str)) = false := by decide) : PE X (.Name x pos) (tC (.int n)) := by
  obtain ⟨t, e⟩ := h
  exact pe_glob hg e ⟨t, rfl⟩ hd
/-- a scalar's type -/
def tyN : V → Option String
  | .non => some "NoneType" | .bl _ => some "bool" | .int _ => some "int" | .str _ => some "str" | _ => none
def isI : V → Bool
  | .int _ => true | _ => false
def isB : V → Bool
  | .bl _ => true | _ => false
def inR (x : V) (lo hi : Int) : Bool := match x with
  | .int i => decide (lo ≤ i ∧ i ≤ hi) | _ => false
theorem ty_of {K : PySem.W.Frag} {H : Hp} {x : V} {n : String} (h : tyN x = some n) : TyX K H x (.type n) := by
  cases x <;> simp [tyN] at h <;> subst h <;> exact .base (by constructor)
def Flat (x : V) : Prop := ∃ n, tyN x = some n
theorem flat_int (i : Int) : Flat (.int i) := ⟨_, rfl⟩
theorem kit_int {K : PySem.W.Frag} {x : V} {n : String} (h : tyN x = some n) : PySem.W.kitOne K (.type n) (.type "int") = some (isI x || isB x) := by
  cases x <;> simp [tyN] at h <;> subst h <;> exact kit_ty (by simp only [isI, isB]; decide +kernel)
theorem kit_bool {K : PySem.W.Frag} {x : V} {n : String} (h : tyN x = some n) : PySem.W.kitOne K (.type n) (.type "bool") = some (isB x) := by
  cases x <;> simp [tyN] at h <;> subst h <;> exact kit_ty (by simp only [isI, isB]; decide +kernel)
def tI (ns : List Int) : PyData := .tuple (ns.map PyData.int)
theorem dp_ints {K : PySem.W.Frag} {H : Hp} {a : Addr} {ns : List Int} (h : SqT K H a (ns.map V.int)) : Dp K H (.ref a) (tI ns) := by
  refine .tup h ?_
  clear h
  induction ns with
  | nil => exact .nil
  | cons n r ih => exact .cons (.int n) ih
theorem tI_lay : ∀ ns : List Int, PyData.canLayAll0 (ns.map PyData.int) = true
  | [] => rfl
  | n :: r => by simp only [List.map_cons, PyData.canLayAll0, PyData.canLay0, tI_lay r]; rfl
theorem tI_depth : ∀ ns : List Int, PyData.depthAll (ns.map PyData.int) ≤ 1
  | [] => by simp [PyData.depthAll]
  | n :: r => by
    have := tI_depth r
    simp only [List.map_cons, PyData.depthAll, PyData.depth]
    omega
theorem tI_shaped (ns : List Int) : SeqAt.shaped (tI ns) = true := by
  have h1 := tI_depth ns
  show ((tI ns).canLay0 && decide ((tI ns).depth ≤ 64)) = true
  rw [Bool.and_eq_true]
  exact ⟨by simp only [tI, PyData.canLay0, tI_lay], decide_eq_true (by simp only [tI, PyData.depth]; omega)⟩
theorem eqvAll_ints : ∀ ns ms : List Int, PyData.eqvAll (ns.map PyData.int) (ms.map PyData.int) = decide (ns = ms)
  | [], [] => by simp [PyData.eqvAll]
  | [], m :: ms => by simp [PyData.eqvAll]
  | n :: ns, [] => by simp [PyData.eqvAll]
  | n :: ns, m :: ms => by
    simp only [List.map_cons, PyData.eqvAll, PyData.eqv, eqvAll_ints ns ms, List.cons.injEq]
    by_cases h : n = m <;> simp [h]
theorem tI_eqv (ns ms : List Int) : PyData.eqv (tI ns) (tI ms) = decide (ns = ms) := by
  simp only [tI, PyData.eqv, eqvAll_ints]
/-! ### the promises -/
def spIsWhole (K : PySem.W.Frag) (cW cS : Addr) : Sp := fun vs H Q _ => ∃ x, vs = [x] ∧ Flat x ∧ Q (.bl (isI x)) H
def spIsFrom (K : PySem.W.Frag) (cW cS : Addr) : Sp := fun vs H Q _ => ∃ x lo hi, vs = [x, .int lo, .int hi] ∧ Flat x ∧ Q (.bl (inR x lo hi)) H
def spIsAmount (K : PySem.W.Frag) (cW cS : Addr) : Sp := fun vs H Q _ => ∃ i, vs = [.int i] ∧ Pm.Amt i ∧ Q (.bl true) H
def spAreAmounts (K : PySem.W.Frag) (cW cS : Addr) : Sp := fun vs H Q _ => ∃ a n f, vs = [.ref a, .int (n : Nat)] ∧ H a = some (.tup (nums n f)) ∧ n ≤ 1000 ∧ (∀ c, c < n → Pm.Amt (f c)) ∧ ∀ H', Same H H' → Q (.bl true) H'
def spIsList (K : PySem.W.Frag) (cW cS : Addr) : Sp := fun vs H Q _ => ∃ a xs, vs = [.ref a] ∧ H a = some (.lst xs) ∧ ∀ H', Same H H' → Q (.bl true) H'
def spIsBook (K : PySem.W.Frag) (cW cS : Addr) : Sp := fun vs H Q _ => ∃ (p : Addr) (W : Pm.Wd) (b : Nat), vs = [.ref p] ∧ W.Ok ∧ b < W.nb ∧ BookAt H p W b ∧ ∀ H', Same H H' → Q (.bl true) H'
def FdOk (W : Pm.Wd) (f : Pm.Fd) : Prop := f.b < W.nb ∧ f.c < W.sz f.b ∧ f.t < W.nb ∧ f.o < W.sz f.t ∧ (f.b, f.c) ≠ (f.t, f.o) ∧ Pm.Amt f.amt
def spIsFeed (K : PySem.W.Frag) (cW cS : Addr) : Sp := fun vs H Q _ => ∃ (q : Addr) (f : Pm.Fd) (tl : Addr) (W : Pm.Wd), vs = [.ref q, .ref tl] ∧ W.Ok ∧ H q = some (.tup (fdV f)) ∧ FdOk W f ∧ H tl = some (.tup (nums W.nb fun b => (W.sz b : Nat))) ∧ ∀ H', Same H H' → Q (.bl true) H'
def spFeedsByChoices (K : PySem.W.Frag) (cW cS : Addr) : Sp := fun vs H Q _ => ∃ (a : Addr) (qs : List Addr) (fs : List Pm.Fd), vs = [.ref a] ∧ H a = some (.lst (qs.map V.ref)) ∧ FeedsAt H qs fs ∧ (fs.map Pm.Fd.key).Nodup ∧ fs.length ≤ 1000 ∧ ∀ r H', Same H H' → H' r = some (.dT (fs.map fun f => (kyV f.key, V.int f.amt))) → Q (.ref r) H'
theorem ordV_map (l : List Nat) : ordV l = (l.map fun c => ((c : Nat) : Int)).map V.int := by rw [List.map_map]; rfl
theorem nodup_int {l : List Nat} (h : l.Nodup) : (l.map fun c => ((c : Nat) : Int)).Nodup := by
  rw [List.nodup_iff_pairwise_ne, List.pairwise_map]
  exact (List.nodup_iff_pairwise_ne.mp h).imp fun h e => h (by omega)
theorem all_bs {K : PySem.W.Frag} {H : Hp} {D : Addr} {ys : List V} (hy : H D = some (.lst ys)) (hr : ∀ (i : Nat) (y : V), ys[i]? = some y → y = V.bl true) : ∃ bs : List Bool, SqL K H D (bs.map V.bl) ∧ bs.all id = true := by
  refine ⟨ys.map fun _ => true, SqL.of ?_, by simp⟩
  rw [hy, List.map_map]
  refine congrArg (fun l => some (HO.lst l)) ?_
  conv => lhs; rw [← List.map_id ys]
  refine List.map_congr_left fun y hm => ?_
  obtain ⟨i, hi⟩ := List.getElem?_of_mem hm
  exact hr i y hi
theorem all_true {K : PySem.W.Frag} {H : Hp} {D : Addr} {ys : List V} {Q : VK} (hy : H D = some (.lst ys)) (hr : ∀ (i : Nat) (y : V), ys[i]? = some y → y = V.bl true) (k : Q (.bl true) H) : rAll K [.ref D] H Q := by
  obtain ⟨bs, b1, b2⟩ := all_bs (K := K) hy hr
  exact ⟨D, bs, rfl, b1, by rw [b2]; exact k⟩
section
variable {P : Program} {w : World} {K : PySem.W.Frag} {mg : Str → Option Value} {base : Heap} {cW cS : Addr}
abbrev sIsWhole : Stmt := top 10
theorem scIsWhole : FnScope ["thing"] ["thing"] (defScope sIsWhole) := ⟨rfl, rfl, rfl, by decide +kernel, rfl, by decide +kernel, by decide +kernel⟩
theorem ok_IsWhole {f : Addr} {fd : FuncData} (F : Fun K "is_whole" "is_whole" sIsWhole f fd) (T : NoG mg)  : FnOk P w K mg base CX0 1 f fd ["thing"] (spIsWhole K cW cS) := by
  refine F.ok scIsWhole (fun vs H Q E h => ?_) (fun cdv A outer s H vs Q E hr h => ?_)
  · repeat (first | (obtain ⟨rfl, _⟩ := h; rfl) | (obtain ⟨_, h⟩ := h))
  · obtain ⟨x, rfl, ⟨n, hn⟩, k⟩ := h
    refine ⟨_, (pss_one (ps_ret (pe_and (pe_callB call_isi (by rfl) T.isinstance (by decide +kernel) (pa_cons (pv 0) (pa_cons (pe_bltn (v := .ty "int") (by rfl) T.int (by decide +kernel) rfl) pa_nil))) (pe_one (pe_not (pe_callB call_isi (by rfl) T.isinstance (by decide +kernel) (pa_cons (pv 0) (pa_cons (pe_bltn (v := .ty "bool") (by rfl) T.bool (by decide +kernel) rfl) pa_nil)))))))), ?_⟩
    refine ⟨_, rfl, _, _, _, _, _, rfl, .ty _, ty_of hn, kit_int hn, _, rfl, ?_⟩
    cases hI : (isI x || isB x) with
    | false =>
      refine iteF ?_
      rw [Bool.or_eq_false_iff] at hI
      rw [hI.1] at k
      exact k
    | true =>
      refine iteT ⟨_, rfl, _, _, _, _, _, rfl, .ty _, ty_of hn, kit_bool hn, _, rfl, ?_⟩
      have : isI x = !isB x := by cases x <;> simp_all [isI, isB]
      rw [this] at k
      exact k
abbrev sIsFrom : Stmt := top 11
theorem scIsFrom : FnScope ["thing", "low", "high"] ["thing", "low", "high"] (defScope sIsFrom) := ⟨rfl, rfl, rfl, by decide +kernel, rfl, by decide +kernel, by decide +kernel⟩
theorem ok_IsFrom {f : Addr} {fd : FuncData} (F : Fun K "is_from" "is_from" sIsFrom f fd) (T : NoG mg) (c_is_whole : Cal P w K mg base CX0 1 "is_whole" ["thing"] (spIsWhole K cW cS)) : FnOk P w K mg base CX0 2 f fd ["thing", "low", "high"] (spIsFrom K cW cS) := by
  refine F.ok scIsFrom (fun vs H Q E h => ?_) (fun cdv A outer s H vs Q E hr h => ?_)
  · repeat (first | (obtain ⟨rfl, _⟩ := h; rfl) | (obtain ⟨_, h⟩ := h))
  · obtain ⟨x, lo, hi, rfl, hx, k⟩ := h
    refine ⟨_, (pss_one (ps_ret (pe_and (pe_cal c_is_whole (hr.mono (by decide)) pass0 (pa_cons (pv 0) pa_nil)) (pe_one (pe_chain op_le op_le (pv 1) (pv 0) (pv 2)))))), ?_⟩
    refine ⟨_, rfl, x, rfl, hx, _, rfl, ?_⟩
    cases x with
    | int i =>
      refine iteT ⟨_, rfl, _, rfl, _, _, rfl, rfl, _, rfl, ite2 (fun e => ⟨_, rfl, _, _, rfl, rfl, ?_⟩) (fun e => ?_)⟩
      · have e1 : lo ≤ i := of_decide_eq_true e
        have e2 : inR (.int i) lo hi = decide (i ≤ hi) := by simp [inR, e1]
        rw [e2] at k; exact k
      · have e1 : ¬ lo ≤ i := fun z => e (decide_eq_true z)
        have e2 : inR (.int i) lo hi = false := by simp [inR, e1]
        rw [e2] at k; exact k
    | _ => exact iteF k
abbrev sIsAmount : Stmt := top 12
theorem scIsAmount : FnScope ["thing"] ["thing"] (defScope sIsAmount) := ⟨rfl, rfl, rfl, by decide +kernel, rfl, by decide +kernel, by decide +kernel⟩
theorem ok_IsAmount {f : Addr} {fd : FuncData} (F : Fun K "is_amount" "is_amount" sIsAmount f fd) (T : NoG mg) (C : Csts mg) (c_is_from : Cal P w K mg base CX0 2 "is_from" ["thing", "low", "high"] (spIsFrom K cW cS)) : FnOk P w K mg base CX0 3 f fd ["thing"] (spIsAmount K cW cS) := by
  refine F.ok scIsAmount (fun vs H Q E h => ?_) (fun cdv A outer s H vs Q E hr h => ?_)
  · repeat (first | (obtain ⟨rfl, _⟩ := h; rfl) | (obtain ⟨_, h⟩ := h))
  · obtain ⟨i, rfl, hi, k⟩ := h
    refine ⟨_, (pss_one (ps_ret (pe_cal c_is_from (hr.mono (by decide)) pass0 (pa_cons (pv 0) (pa_cons (pe_un un_neg (pe_const (by rfl) C.MOST_AMOUNT)) (pa_cons (pe_const (by rfl) C.MOST_AMOUNT) pa_nil)))))), ?_⟩
    refine ⟨_, rfl, _, rfl, _, _, _, rfl, flat_int i, ?_⟩
    have e2 : inR (.int i) (-1000000000) 1000000000 = true := by simp [inR]; exact hi
    rw [e2]; exact k
abbrev sAreAmounts : Stmt := top 13
theorem scAreAmounts : FnScope ["thing", "many", "one"] ["thing", "many"] (defScope sAreAmounts) := ⟨rfl, rfl, rfl, by decide +kernel, rfl, by decide +kernel, by decide +kernel⟩
theorem ok_AreAmounts {f : Addr} {fd : FuncData} (F : Fun K "are_amounts" "are_amounts" sAreAmounts f fd) (T : NoG mg) (c_is_amount : Cal P w K mg base CX0 3 "is_amount" ["thing"] (spIsAmount K cW cS)) : FnOk P w K mg base CX0 4 f fd ["thing", "many"] (spAreAmounts K cW cS) := by
  refine F.ok scAreAmounts (fun vs H Q E h => ?_) (fun cdv A outer s H vs Q E hr h => ?_)
  · repeat (first | (obtain ⟨rfl, _⟩ := h; rfl) | (obtain ⟨_, h⟩ := h))
  · obtain ⟨a, n, g, rfl, ha, hn, hg, k⟩ := h
    refine ⟨_, (pss_one (ps_ret (pe_and (pe_callB call_isi (by rfl) T.isinstance (by decide +kernel) (pa_cons (pv 0) (pa_cons (pe_bltn (v := .ty "tuple") (by rfl) T.tuple (by decide +kernel) rfl) pa_nil))) (pe_and (pe_cmpR op_eq (pe_callB call_len (by rfl) T.len PySem.boot_len (pa_cons (pv 0) pa_nil)) (pv 1) (nomark _)) (pe_one (pe_callB (cr_all rfl) (by rfl) T.all (by decide +kernel) (pa_cons (pe_lcD (own := [("one", 2)]) rfl scAreAmounts.nd (pi_tup (pv 0)) (blkOk_by (by kernel_rfl)) (fun _ _ _ _ _ => (pg_name (i := 2) scAreAmounts.nd rfl (Or.inl rfl))) (fun _ _ _ _ _ => pts_nil) (fun _ _ _ _ _ => (pe_cal c_is_amount (hr.mono (by decide)) pass0 (pa_cons (pv 2) pa_nil)))) pa_nil))))))), ?_⟩
    refine ⟨_, rfl, _, _, _, _, true, rfl, .ty _, .base (.tup ha), kit_ty (by decide +kernel), _, rfl, iteT ?_⟩
    refine ⟨_, rfl, _, n, rfl, .inr ⟨_, SqT.of ha, (nums_len _ _).symm⟩, _, rfl, rfl, _, rfl, ?_⟩
    rw [decide_eq_true rfl]
    refine iteT ⟨_, rfl, a, rfl, ⟨_, SqT.of ha⟩, fun D hD => lc_col walk_tup hD (by rw [nums_len]; omega)
      (fun i y H => y = .bl true) (fun i y H H' hk e => e) (fun H' s' => SqT.of (s' _ _ ha)) ?_ ?_⟩
    · rintro i x H2 _ K2 hi2 s2 ⟨acc, hacc⟩ ⟨rfl, hx⟩ hK
      obtain ⟨hin, rfl⟩ := nums_get hx
      exact ⟨rfl, _, rfl, _, rfl, hg i hin, hK _ _ Same.rf rfl⟩
    · rintro H4 ys s4 hy hl4 hr4
      exact all_true hy hr4 (k H4 s4)
abbrev sIsList : Stmt := top 14
theorem scIsList : FnScope ["thing"] ["thing"] (defScope sIsList) := ⟨rfl, rfl, rfl, by decide +kernel, rfl, by decide +kernel, by decide +kernel⟩
theorem ok_IsList {f : Addr} {fd : FuncData} (F : Fun K "is_list" "is_list" sIsList f fd) (T : NoG mg)  : FnOk P w K mg base CX0 1 f fd ["thing"] (spIsList K cW cS) := by
  refine F.ok scIsList (fun vs H Q E h => ?_) (fun cdv A outer s H vs Q E hr h => ?_)
  · repeat (first | (obtain ⟨rfl, _⟩ := h; rfl) | (obtain ⟨_, h⟩ := h))
  · obtain ⟨a, xs, rfl, ha, k⟩ := h
    refine ⟨_, (pss_one (ps_ret (pe_callB call_isiT (by rfl) T.isinstance (by decide +kernel) (pa_cons (pv 0) (pa_cons (pe_tup (pa_cons (pe_bltn (v := .ty "list") (by rfl) T.list (by decide +kernel) rfl) (pa_cons (pe_bltn (v := .ty "tuple") (by rfl) T.tuple (by decide +kernel) rfl) pa_nil))) pa_nil))))), ?_⟩
    refine ⟨_, rfl, big1000 (by simp), fun p hp => ?_⟩
    exact ⟨_, p, _, _, _, true, rfl, upd_same, .cons (.ty _) (.cons (.ty _) .nil), .base (.lst (sameUpd hp _ _ ha)), kitAny_cons (kit_ty (b := "list") (r := true) (by decide +kernel)) (fun e => by cases e) (fun _ => rfl), k _ (sameUpd hp)⟩
abbrev sIsBook : Stmt := top 27
theorem scIsBook : FnScope ["thing", "order", "many", "choice"] ["thing"] (defScope sIsBook) := ⟨rfl, rfl, rfl, by decide +kernel, rfl, by decide +kernel, by decide +kernel⟩
theorem ok_IsBook {f : Addr} {fd : FuncData} (F : Fun K "is_book" "is_book" sIsBook f fd) (T : NoG mg) (C : Csts mg) (c_are_amounts : Cal P w K mg base CX0 4 "are_amounts" ["thing", "many"] (spAreAmounts K cW cS)) (c_is_from : Cal P w K mg base CX0 2 "is_from" ["thing", "low", "high"] (spIsFrom K cW cS)) : FnOk P w K mg base CX0 5 f fd ["thing"] (spIsBook K cW cS) := by
  refine F.ok scIsBook (fun vs H Q E h => ?_) (fun cdv A outer s H vs Q E hr h => ?_)
  · repeat (first | (obtain ⟨rfl, _⟩ := h; rfl) | (obtain ⟨_, h⟩ := h))
  · obtain ⟨p, W, b, rfl, ok, hb, ⟨o, g, w, hp, ho, hg, hw⟩, k⟩ := h
    refine ⟨_, (pss_cons (ps_if (PW.pt (pw_or (pt_not (pt_val (pe_callB call_isi (by rfl) T.isinstance (by decide +kernel) (pa_cons (pv 0) (pa_cons (pe_bltn (v := .ty "tuple") (by rfl) T.tuple (by decide +kernel) rfl) pa_nil))))) (pw_or1 (pt_cmpR op_ne (pe_callB call_len (by rfl) T.len PySem.boot_len (pa_cons (pv 0) pa_nil)) pe_int (nomark _))))) (pss_one (ps_ret pe_bl)) pss_nil)
      (pss_cons (ps_set (i := 1) scIsBook.nd rfl (Or.inl rfl) (pe_ix ix_tup (pv 0) pe_int (fun _ _ => rfl)))
      (pss_cons (ps_if (PW.pt (pw_or (pt_not (pt_val (pe_callB call_isi (by rfl) T.isinstance (by decide +kernel) (pa_cons (pv 1) (pa_cons (pe_bltn (v := .ty "tuple") (by rfl) T.tuple (by decide +kernel) rfl) pa_nil))))) (pw_or1 (pt_not (pt_chain op_le op_le pe_int (pe_callB call_len (by rfl) T.len PySem.boot_len (pa_cons (pv 1) pa_nil)) (pe_const (by rfl) C.MOST_CHOICES)))))) (pss_one (ps_ret pe_bl)) pss_nil)
      (pss_cons (ps_set (i := 2) scIsBook.nd rfl (Or.inr rfl) (pe_callB call_len (by rfl) T.len PySem.boot_len (pa_cons (pv 1) pa_nil)))
      (pss_cons (ps_if (PW.pt (pw_or (pt_not (pt_val (pe_callB (cr_all rfl) (by rfl) T.all (by decide +kernel) (pa_cons (pe_lcD (own := [("choice", 3)]) rfl scIsBook.nd (pi_tup (pv 1)) (blkOk_by (by kernel_rfl)) (fun _ _ _ _ _ => (pg_name (i := 3) scIsBook.nd rfl (Or.inl rfl))) (fun _ _ _ _ _ => pts_nil) (fun _ _ _ _ _ => (pe_cal c_is_from (hr.mono (by decide)) pass0 (pa_cons (pv 3) (pa_cons pe_int (pa_cons (pe_op op_sub (pv 2) pe_int) pa_nil)))))) pa_nil)))) (pw_or1 (pt_cmpR op_ne (pe_lenSetT (by rfl) T.len (by rfl) T.set (pv 1)) (pv 2) (nomark _))))) (pss_one (ps_ret pe_bl)) pss_nil)
      (pss_one (ps_ret (pe_and (pe_cal c_are_amounts (hr.mono (by decide)) pass0 (pa_cons (pe_ix ix_tup (pv 0) pe_int (fun _ _ => rfl)) (pa_cons (pv 2) pa_nil))) (pe_one (pe_cal c_are_amounts (hr.mono (by decide)) pass0 (pa_cons (pe_ix ix_tup (pv 0) pe_int (fun _ _ => rfl)) (pa_cons (pv 2) pa_nil)))))))))))), ?_⟩
    have h1 := ok.s1 b hb
    have h5 := ok.s5 b hb
    have hl := ok.ln b hb
    refine ⟨_, rfl, _, _, _, _, true, rfl, .ty _, .base (.tup hp), kit_ty (by decide +kernel), _, rfl, iteF ?_⟩
    refine ⟨_, rfl, _, 3, rfl, .inr ⟨_, SqT.of hp, rfl⟩, rfl, _, rfl, iteF ?_⟩
    refine ⟨_, rfl, _, _, _, _, rfl, rfl, SqT.of hp, rfl, ?_⟩
    refine ⟨_, rfl, _, _, _, _, true, rfl, .ty _, ho.ty, kit_ty (by decide +kernel), _, rfl, iteF ?_⟩
    refine ⟨_, rfl, _, W.sz b, rfl, .inr ⟨_, ho.sq, by rw [ordV_len, hl]⟩, _, _, rfl, rfl, _, rfl, ?_⟩
    rw [decide_eq_true (by omega)]
    refine iteT ⟨_, _, rfl, rfl, _, rfl, ?_⟩
    rw [decide_eq_true (by omega)]
    refine iteF ?_
    refine ⟨_, rfl, _, W.sz b, rfl, .inr ⟨_, ho.sq, by rw [ordV_len, hl]⟩, ?_⟩
    refine ⟨_, rfl, o, rfl, ⟨_, ho.sq⟩, fun D hD => lc_col walk_tup hD (by rw [ordV_len]; omega)
      (fun i y H => y = .bl true) (fun i y H H' hk e => e) (fun H' s' => (ho.same s').sq) ?_ ?_⟩
    · rintro i x H2 _ K2 hi2 s2 ⟨acc, hacc⟩ ⟨rfl, hx⟩ hK
      obtain ⟨c, hc, rfl⟩ := ordV_get hx
      have hcn := (ok.mem b hb c).mp (List.mem_of_getElem? hc)
      refine ⟨rfl, _, rfl, _, rfl, _, _, rfl, rfl, _, _, _, rfl, flat_int _, hK _ _ Same.rf ?_⟩
      show V.bl (decide (0 ≤ (c : Int) ∧ (c : Int) ≤ (W.sz b : Int) - 1)) = _
      rw [decide_eq_true (by omega)]
    · rintro H4 ys s4 hy hl4 hr4
      obtain ⟨bs, b1, b2⟩ := all_bs (K := K) hy hr4
      refine ⟨D, bs, rfl, b1, ?_⟩
      rw [b2]
      refine ⟨_, rfl, iteF ?_⟩
      refine ⟨_, rfl, o, (W.ord b).map fun c => ((c : Nat) : Int), rfl, (by have := (ho.same s4).sq (K := K); rw [ordV_map] at this; exact this), ?_, ?_, _, rfl, rfl, _, rfl, ?_⟩
      · have := ok.nd b hb
        exact nodup_int this
      · rw [List.length_map]; omega
      rw [List.length_map, hl, decide_eq_true rfl]
      refine iteF ?_
      refine ⟨_, rfl, _, _, _, _, rfl, rfl, SqT.of (s4 _ _ hp), rfl, _, rfl, g, W.sz b, _, rfl, s4 _ _ hg, by omega, fun c hc => ok.g b c hb hc, fun H5 s5 => ⟨_, rfl, iteT ?_⟩⟩
      exact ⟨_, rfl, _, _, _, _, rfl, rfl, SqT.of (s5 _ _ (s4 _ _ hp)), rfl, _, rfl, w, W.sz b, _, rfl, s5 _ _ (s4 _ _ hw), by omega, fun c hc => ok.w b c hb hc, fun H6 s6 => k _ (Same.tr s4 (Same.tr s5 s6))⟩
abbrev sIsFeed : Stmt := top 28
theorem scIsFeed : FnScope ["thing", "sizes", "book", "choice"] ["thing", "sizes"] (defScope sIsFeed) := ⟨rfl, rfl, rfl, by decide +kernel, rfl, by decide +kernel, by decide +kernel⟩
theorem ok_IsFeed {f : Addr} {fd : FuncData} (F : Fun K "is_feed" "is_feed" sIsFeed f fd) (T : NoG mg) (c_is_amount : Cal P w K mg base CX0 3 "is_amount" ["thing"] (spIsAmount K cW cS)) (c_is_from : Cal P w K mg base CX0 2 "is_from" ["thing", "low", "high"] (spIsFrom K cW cS)) : FnOk P w K mg base CX0 4 f fd ["thing", "sizes"] (spIsFeed K cW cS) := by
  refine F.ok scIsFeed (fun vs H Q E h => ?_) (fun cdv A outer s H vs Q E hr h => ?_)
  · repeat (first | (obtain ⟨rfl, _⟩ := h; rfl) | (obtain ⟨_, h⟩ := h))
  · obtain ⟨q, fe, tl, W, rfl, ok, hq, ⟨f1, f2, f3, f4, f5, f6⟩, htl, k⟩ := h
    refine ⟨_, (pss_cons (ps_if (PW.pt (pw_or (pt_not (pt_val (pe_callB call_isi (by rfl) T.isinstance (by decide +kernel) (pa_cons (pv 0) (pa_cons (pe_bltn (v := .ty "tuple") (by rfl) T.tuple (by decide +kernel) rfl) pa_nil))))) (pw_or (pt_cmpR op_ne (pe_callB call_len (by rfl) T.len PySem.boot_len (pa_cons (pv 0) pa_nil)) pe_int (nomark _)) (pw_or1 (pt_not (pt_val (pe_cal c_is_amount (hr.mono (by decide)) pass0 (pa_cons (pe_ix ix_tup (pv 0) pe_int (fun _ _ => rfl)) pa_nil)))))))) (pss_one (ps_ret pe_bl)) pss_nil)
      (pss_cons (ps_for PassesOwn.never rfl (pi_tup (pe_tup (pa_cons (pe_slice sl_tupA (pv 0) po_none (po_some pe_int)) (pa_cons (pe_slice sl_tupA (pv 0) (po_some pe_int) (po_some pe_int)) pa_nil)))) (pg_tup (n := 2) rfl (pgs_cons (pg_name (i := 2) scIsFeed.nd rfl (Or.inl rfl)) (pgs_cons (pg_name (i := 3) scIsFeed.nd rfl (Or.inl rfl)) pgs_nil)))
        (pss_one (ps_if (PW.pt (pw_or (pt_not (pt_val (pe_cal c_is_from (hr.mono (by decide)) pass0 (pa_cons (pv 2) (pa_cons pe_int (pa_cons (pe_op op_sub (pe_callB call_len (by rfl) T.len PySem.boot_len (pa_cons (pv 1) pa_nil)) pe_int) pa_nil)))))) (pw_or1 (pt_not (pt_val (pe_cal c_is_from (hr.mono (by decide)) pass0 (pa_cons (pv 3) (pa_cons pe_int (pa_cons (pe_op op_sub (pe_ix ix_tup (pv 1) (pv 2) (fun _ _ => rfl)) pe_int) pa_nil))))))))) (pss_one (ps_ret pe_bl)) pss_nil)))
      (pss_one (ps_ret (pe_cmpR (op_neD hr.units) (pe_slice sl_tupA (pv 0) po_none (po_some pe_int)) (pe_slice sl_tupA (pv 0) (po_some pe_int) (po_some pe_int)) (nomark _)))))), ?_⟩
    refine ⟨_, rfl, _, _, _, _, true, rfl, .ty _, .base (.tup hq), kit_ty (by decide +kernel), _, rfl, iteF ?_⟩
    refine ⟨_, rfl, _, 5, rfl, .inr ⟨_, SqT.of hq, rfl⟩, rfl, _, rfl, iteF ?_⟩
    refine ⟨_, rfl, _, _, _, _, rfl, rfl, SqT.of hq, rfl, _, rfl, f6, _, rfl, iteF ?_⟩
    refine ⟨_, rfl, _, rfl, cut_ok hq ?_⟩
    intro r1 H1 s1 h1
    refine ⟨_, rfl, _, rfl, _, rfl, cut_ok (s1 _ _ hq) ?_⟩
    intro r2 H2 s2 h2
    have h1' : H2 r1 = some (.tup [.int (fe.b : Nat), .int (fe.c : Nat)]) := by rw [s2 _ _ h1]; rfl
    have h2' : H2 r2 = some (.tup [.int (fe.t : Nat), .int (fe.o : Nat)]) := by rw [h2]; rfl
    refine ⟨big1000 (by simp), fun T0 hT0 => ?_⟩
    have s3 : Same H2 (upd H2 T0 (.tup [.ref r1, .ref r2])) := sameUpd hT0
    have sH := Same.tr s1 (Same.tr s2 s3)
    refine ⟨T0, rfl, ⟨_, SqT.of upd_same⟩, for_it (walk_tup (xs := [V.ref r1, V.ref r2])) (fun i σ H' => Same (upd H2 T0 (.tup [.ref r1, .ref r2])) H' ∧ ∃ x y, σ = [some (.ref q), some (.ref tl), x, y]) ?_ ?_ ?_ ?_⟩
    · exact ⟨Same.rf, _, _, rfl⟩
    · rintro i σ H' _ ⟨s', _⟩; exact SqT.of (s' _ _ upd_same)
    · rintro i x σ _ H4 hi ⟨s4, x2, x3, rfl⟩ ⟨rfl, hx⟩
      have hpair : ∃ (r : Addr) (b c : Nat), x = .ref r ∧ H4 r = some (.tup [.int (b : Nat), .int (c : Nat)]) ∧ b < W.nb ∧ c < W.sz b := by
        match i, hi, hx with
        | 0, _, hx => cases hx; exact ⟨r1, fe.b, fe.c, rfl, s4 _ _ (s3 _ _ h1'), f1, f2⟩
        | 1, _, hx => cases hx; exact ⟨r2, fe.t, fe.o, rfl, s4 _ _ (s3 _ _ h2'), f3, f4⟩
      obtain ⟨r, b, c, rfl, hr1, hb, hc⟩ := hpair
      have htl4 := s4 _ _ (sH _ _ htl)
      refine ⟨r, _, rfl, SqT.of hr1, rfl, _, _, rfl, _, _, rfl, rfl, ?_⟩
      refine ⟨_, rfl, _, rfl, _, W.nb, rfl, .inr ⟨_, SqT.of htl4, (nums_len _ _).symm⟩, _, _, rfl, rfl, _, _, _, rfl, flat_int _, _, rfl, ?_⟩
      rw [show inR (.int (b : Nat)) 0 ((W.nb : Int) - 1) = true from decide_eq_true (by omega)]
      refine iteF ⟨_, rfl, _, rfl, _, rfl, _, _, _, _, rfl, rfl, SqT.of htl4, atI_nat (nums_at hb), _, _, rfl, rfl, _, _, _, rfl, flat_int _, _, rfl, ?_⟩
      rw [show inR (.int (c : Nat)) 0 ((W.sz b : Int) - 1) = true from decide_eq_true (by omega)]
      exact iteF ⟨s4, _, _, rfl⟩
    · rintro σ H4 ⟨s4, x, y, rfl⟩
      refine ⟨_, rfl, _, rfl, cut_ok (s4 _ _ (sH _ _ hq)) ?_⟩
      intro r5 H5 s5 h5
      refine ⟨_, rfl, _, rfl, _, rfl, cut_ok (s5 _ _ (s4 _ _ (sH _ _ hq))) ?_⟩
      intro r6 H6 s6 h6
      refine ⟨tI [(fe.b : Nat), (fe.c : Nat)], tI [(fe.t : Nat), (fe.o : Nat)], dp_ints (SqT.of ?_), dp_ints (SqT.of ?_), tI_shaped _, tI_shaped _, ?_⟩
      · rw [s6 _ _ h5]; rfl
      · rw [h6]; rfl
      rw [tI_eqv, decide_eq_false (fun z => f5 (by simp at z; exact Prod.ext (by omega) (by omega)))]
      exact k H6 (Same.tr sH (Same.tr s4 (Same.tr s5 s6)))
abbrev sFeedsByChoices : Stmt := top 29
theorem scFeedsByChoices : FnScope ["feeds", "found", "feed"] ["feeds"] (defScope sFeedsByChoices) := ⟨rfl, rfl, rfl, by decide +kernel, rfl, by decide +kernel, by decide +kernel⟩
theorem ok_FeedsByChoices {f : Addr} {fd : FuncData} (F : Fun K "feeds_by_choices" "feeds_by_choices" sFeedsByChoices f fd) (T : NoG mg)  : FnOk P w K mg base CX0 1 f fd ["feeds"] (spFeedsByChoices K cW cS) := by
  refine F.ok scFeedsByChoices (fun vs H Q E h => ?_) (fun cdv A outer s H vs Q E hr h => ?_)
  · repeat (first | (obtain ⟨rfl, _⟩ := h; rfl) | (obtain ⟨_, h⟩ := h))
  · obtain ⟨a, qs, fs, rfl, ha, hfd, hnd, hfl, k⟩ := h
    refine ⟨_, (pss_cons (ps_set (i := 1) scFeedsByChoices.nd rfl (Or.inl rfl) pe_dnewT)
      (pss_cons (ps_for PassesOwn.never rfl (pi_list (pv 0)) (pg_name (i := 2) scFeedsByChoices.nd rfl (Or.inl rfl))
        (pss_cons (ps_if (pt_cmp (pc_din (hu_of hr) (pe_slice sl_tupA (pv 2) po_none (po_some pe_int)) (pv 1))) (pss_one (ps_ret pe_non)) pss_nil)
          (pss_one (ps_dput (hu_of hr) (pv 1) (pe_slice sl_tupA (pv 2) po_none (po_some pe_int)) (pe_ix ix_tup (pv 2) pe_int (fun _ _ => rfl)) rfl))))
      (pss_one (ps_ret (pv 1))))), ?_⟩
    intro D hD
    have s0 : Same H (upd H D (.dT [])) := sameUpd hD
    refine ⟨_, rfl, a, rfl, ⟨_, SqL.of (s0 _ _ ha)⟩, for_it (walk_list (xs := qs.map V.ref)) (fun i σ H' => Same H H' ∧ (∃ x, σ = [some (.ref a), some (.ref D), x]) ∧ H' D = some (.dT ((fs.take i).map fun f => (kyV f.key, V.int f.amt)))) ?_ ?_ ?_ ?_⟩
    · exact ⟨s0, ⟨_, rfl⟩, upd_same⟩
    · rintro i σ H' _ ⟨s', _⟩; exact SqL.of (s' _ _ ha)
    · rintro i x σ _ H1 hi ⟨s1, ⟨y, rfl⟩, hD1⟩ ⟨rfl, hx⟩
      obtain ⟨q, hq, rfl⟩ := refs_get hx
      have hil : i < fs.length := by have := get_lt hq; have := hfd.1; omega
      have hf : fs[i]? = some fs[i] := List.getElem?_eq_getElem hil
      have hqt := s1 _ _ (hfd.2 i q _ hq hf)
      refine ⟨_, rfl, _, rfl, cut_ok hqt ?_⟩
      intro r2 H2 s2 h2
      have hk2 : H2 r2 = some (.tup ((kyV fs[i].key).map kV)) := by rw [h2]; rfl
      have hno : valV ((fs.take i).map fun f => (kyV f.key, V.int f.amt)) (kyV fs[i].key) = none := by
        unfold valV
        rw [Option.map_eq_none_iff, List.find?_eq_none]
        intro z hz
        obtain ⟨f, hfm, rfl⟩ := List.mem_map.mp hz
        intro e
        have e1 := kyV_inj.mp (of_decide_eq_true e)
        obtain ⟨j, hj⟩ := List.getElem?_of_mem hfm
        have hji : j < i := by have := get_lt hj; rw [List.length_take] at this; omega
        rw [List.getElem?_take_of_lt hji] at hj
        have hjl : j < fs.length := by omega
        have := (List.pairwise_iff_getElem.mp hnd) j i (by simpa using hjl) (by simpa using hil) hji
        rw [List.getElem?_eq_getElem hjl] at hj
        cases hj
        exact this (by simpa using e1)
      refine ⟨_, rfl, _, _, rfl, dget_t (s2 _ _ hD1) hk2 hno, _, rfl, iteF ?_⟩
      refine ⟨_, rfl, _, _, _, _, rfl, rfl, SqT.of (s2 _ _ hqt), rfl, _, rfl, _, rfl, _, rfl, cut_ok (s2 _ _ hqt) ?_⟩
      intro r3 H3 s3 h3
      have hk3 : H3 r3 = some (.tup ((kyV fs[i].key).map kV)) := by rw [h3]; rfl
      refine ⟨_, _, rfl, DPut.t (s3 _ _ (s2 _ _ hD1)) hk3 (small1000 (by rw [List.length_map, List.length_take]; omega)), ?_⟩
      refine ⟨sameW (Same.tr s1 (Same.tr s2 s3)) hD, ⟨_, rfl⟩, ?_⟩
      rw [upd_same, putK_new _ hno, List.take_succ_eq_append_getElem hil, List.map_append]
      rfl
    · rintro σ H1 ⟨s1, ⟨x, rfl⟩, hD1⟩
      rw [List.length_map, hfd.1, List.take_length] at hD1
      exact ⟨_, rfl, k D H1 s1 hD1⟩
end
end WB


namespace WB
open PySem L2
theorem dc_it {J : It} {n : Nat} {G : Hp → Prop} {Y : Nat → Hp → V → Hp → Prop} (w : Walk J n G Y) {g : TG} {tt : TT} {tk tv : TE} {vs : List Nat} {σ : L2.St} {H1 : Hp} {D : Addr} {Qd : Hp → Prop} (Pv : Nat → Hp → Prop) (h0 : Pv 0 (upd H1 D (.dK []))) (hG : ∀ i H, i ≤ n → Pv i H → G H)
    (hs : ∀ i x H H', i < n → Pv i H → Y i H x H' → g x (wipe σ vs) H' fun σ2 H2 => wipe σ2 vs = wipe σ vs ∧ tt σ2 H2 fun b H3 => if b = true then tk σ2 H3 fun y H4 => tv σ2 H4 fun z H5 => ∃ kvs k, y = kV k ∧ H5 D = some (.dK kvs) ∧ kvs.length < sizeLine ∧ Pv (i + 1) (upd H5 D (.dK (putK kvs k z))) else Pv (i + 1) H3)
    (hd : ∀ H, Pv n H → Qd H) :
    ∃ W : Nat → Nat → Hp → Prop, (∃ m, W 0 m (upd H1 D (.dK []))) ∧ ∀ i m H, W i m H → (J.stop i H ∧ Qd H) ∨ (J.go i H ∧ ∃ Nx : Hp → Prop, (∀ H', Nx H' → ∃ m', m' < m ∧ W (i + 1) m' H') ∧ ∀ x H', J.yld i H x H' → g x (wipe σ vs) H' fun σ2 H2 => wipe σ2 vs = wipe σ vs ∧ tt σ2 H2 fun b H3 =>
      if b = true then tk σ2 H3 fun y H4 => tv σ2 H4 fun z H5 => ∃ kvs k, y = kV k ∧ H5 D = some (.dK kvs) ∧ kvs.length < sizeLine ∧ Nx (upd H5 D (.dK (putK kvs k z))) else Nx H3) := by
  refine ⟨fun i m H => i ≤ n ∧ m = n - i ∧ Pv i H, ⟨n, Nat.zero_le _, by omega, h0⟩, fun i m H hw => ?_⟩
  obtain ⟨hi, hm, hp⟩ := hw
  by_cases h : i = n
  · subst h; exact .inl ⟨w.stops H (hG _ H hi hp), hd H hp⟩
  · exact .inr ⟨w.goes i H (by omega) (hG i H hi hp), Pv (i + 1), fun H' h' => ⟨n - (i + 1), by omega, by omega, rfl, h'⟩, fun x H' y => hs i x H H' (by omega) hp (w.yields i H x H' (by omega) (hG i H hi hp) y)⟩
/-- all but the thing at p -/
def hid (p : Addr) (H : Hp) : Hp := fun b => if b = p then none else H b
theorem hid_at {p b : Addr} {H : Hp} {o : HO} (h : H b = some o) (hne : b ≠ p) : hid p H b = some o := by unfold hid; rw [if_neg hne]; exact h
theorem hid_none {p : Addr} {H : Hp} : hid p H p = none := by unfold hid; rw [if_pos rfl]
theorem hid_same {p : Addr} {H : Hp} : Same (hid p H) H := fun b o e => by
  unfold hid at e
  by_cases h : b = p
  · rw [if_pos h] at e; cases e
  · rw [if_neg h] at e; exact e
theorem OT.hide {H : Hp} {p q : Addr} {xs : List V} {o : HO} (hp : H p = some o) (ho : ∀ ob u, o ≠ .frz ob u) (h : OT H q xs) : OT (hid p H) q xs := let ⟨ob, d, e⟩ := h; ⟨ob, d, hid_at e (ne_of e hp (ho _ _).symm)⟩
def isIns : HO → Bool
  | .ins _ _ _ => true | _ => false
theorem hid_of {p b : Addr} {H : Hp} {o o' : HO} (hp : H p = some o') (hi : isIns o' = true) (h : H b = some o) (ho : isIns o = false) : hid p H b = some o := hid_at h fun z => by subst z; rw [hp] at h; cases h; rw [hi] at ho; cases ho
theorem Told.hide {H : Hp} {p la lb : Addr} {W : Pm.Wd} {ps qs : List Addr} {fs : List Pm.Fd} {o : HO} (hp : H p = some o) (hi : isIns o = true) (t : Told H la lb W ps qs fs) : Told (hid p H) la lb W ps qs fs where
  a := hid_of hp hi t.a rfl
  b := hid_of hp hi t.b rfl
  bk := ⟨t.bk.1, fun b q e => let ⟨o, g, w, h1, h2, h3, h4⟩ := t.bk.2 b q e; ⟨o, g, w, hid_of hp hi h1 rfl, h2.hide hp (by intro ob u z; subst z; cases hi), hid_of hp hi h3 rfl, hid_of hp hi h4 rfl⟩⟩
  pm := t.pm
  fd := ⟨t.fd.1, fun i q f e e' => hid_of hp hi (t.fd.2 i q f e e') rfl⟩
theorem FdOk.of {W : Pm.Wd} (ok : W.Ok) {fs : List Pm.Fd} (pm : fs.Perm W.fs) {f : Pm.Fd} (h : f ∈ fs) : FdOk W f := ok.fi f (pm.mem_iff.mp h)
theorem setp {G Hn : Hp} {p : Addr} {o : HO} (s : Same G Hn) (hg : G p = none) : ∃ H5, upd Hn p o = H5 ∧ Same G H5 ∧ H5 p = some o ∧ ∀ b u, Hn b = some u → b ≠ p → H5 b = some u := ⟨_, rfl, sameW s hg, upd_same, fun b u e ne => (upd_ne ne).trans e⟩
theorem rk_at : ∀ {l : List Nat} {j c : Nat}, l.Nodup → l[j]? = some c → Pm.rk l c = j
  | [], j, c, _, h => by simp at h
  | x :: r, 0, c, _, h => by cases h; simp [Pm.rk]
  | x :: r, j + 1, c, hn, h => by
    rw [List.nodup_cons] at hn
    have h' : r[j]? = some c := by simpa using h
    have : ¬ x = c := fun e => hn.1 (by rw [e]; exact List.mem_of_getElem? h')
    rw [Pm.rk, if_neg this, rk_at hn.2 h']
def spWinit (K : PySem.W.Frag) (cW cS : Addr) : Sp := fun vs H Q _ => ∃ (p la lb : Addr) (W : Pm.Wd) (ps qs : List Addr) (fs : List Pm.Fd) (dx : Addr), vs = [.ref p, .ref la, .ref lb] ∧ W.Ok ∧ Told H la lb W ps qs fs ∧ H p = some (.ins cW dx []) ∧ ∀ H', Same (hid p H) H' → WontAt cW H' p W → Q .non H'
section
variable {P : Program} {w : World} {K : PySem.W.Frag} {mg : Str → Option Value} {base : Heap} {cW cS : Addr}
abbrev sWinit : Stmt := inClass (top 30) 0
theorem scWinit : FnScope ["self", "books", "feeds", "book", "order", "gains", "wanes", "feed", "rank", "choice"] ["self", "books", "feeds"] (defScope sWinit) := ⟨rfl, rfl, rfl, by decide +kernel, rfl, by decide +kernel, by decide +kernel⟩
theorem ok_Winit {f : Addr} {fd : FuncData} {dvs : List V} {kws : List (Str × V)} (F : FunD K "__init__" "Wont.__init__" (defArgs sWinit) (defBody sWinit) (defScope sWinit) dvs kws f fd) (T : NoG mg) (hW : WF K cW) (C : Csts mg) (c_feeds_by_choices : Cal P w K mg base CX0 1 "feeds_by_choices" ["feeds"] (spFeedsByChoices K cW cS)) (c_Wall_moves : CalM P w K mg base CX0 2 cW "all_moves" ["self"] (spWall_moves K cW cS)) (c_is_list : Cal P w K mg base CX0 1 "is_list" ["thing"] (spIsList K cW cS)) (c_is_book : Cal P w K mg base CX0 5 "is_book" ["thing"] (spIsBook K cW cS)) (c_is_feed : Cal P w K mg base CX0 4 "is_feed" ["thing", "sizes"] (spIsFeed K cW cS)) : FnOk P w K mg base CX0 6 f fd ["self", "books", "feeds"] (spWinit K cW cS) := by
  refine F.ok scWinit (fun vs H Q E h => ?_) (fun cdv A outer s H vs Q E hr h => ?_)
  · repeat (first | (obtain ⟨rfl, _⟩ := h; rfl) | (obtain ⟨_, h⟩ := h))
  · obtain ⟨p, la, lb, W, ps, qs, fs, dx, rfl, ok, t0, hp0, k⟩ := h
    refine ⟨_, PSs.nox (pss_cons (ps_if (PW.pt (pw_or (pt_not (pt_val (pe_cal c_is_list (hr.mono (by decide)) pass0 (pa_cons (pv 1) pa_nil)))) (pw_or (pt_not (pt_chain op_le op_le pe_int (pe_callB call_len (by rfl) T.len PySem.boot_len (pa_cons (pv 1) pa_nil)) (pe_const (by rfl) C.MOST_BOOKS))) (pw_or1 (pt_not (pt_val (pe_callB (cr_all rfl) (by rfl) T.all (by decide +kernel) (pa_cons (pe_lcD (own := [("book", 3)]) rfl scWinit.nd (pi_list (pv 1)) (blkOk_by (by kernel_rfl)) (fun _ _ _ _ _ => (pg_name (i := 3) scWinit.nd rfl (Or.inl rfl))) (fun _ _ _ _ _ => pts_nil) (fun _ _ _ _ _ => (pe_cal c_is_book (hr.mono (by decide)) pass0 (pa_cons (pv 3) pa_nil)))) pa_nil)))))))) (pss_one ps_never) pss_nil)
      (pss_cons (ps_fld (pv 0) (pe_tupleOf (by rfl) T.tuple (pv 1)) rfl)
      (pss_cons (ps_fld (pv 0) (pe_tupleOf (by rfl) T.tuple (pe_lcD (own := [("order", 4), ("gains", 5), ("wanes", 6)]) rfl scWinit.nd (pi_list (pv 1)) (blkOk_by (by kernel_rfl)) (fun _ _ _ _ _ => (pg_tup (n := 3) rfl (pgs_cons (pg_name (i := 4) scWinit.nd rfl (Or.inl rfl)) (pgs_cons (pg_name (i := 5) scWinit.nd rfl (Or.inl rfl)) (pgs_cons (pg_name (i := 6) scWinit.nd rfl (Or.inl rfl)) pgs_nil))))) (fun _ _ _ _ _ => pts_nil) (fun _ _ _ _ _ => (pe_callB call_len (by rfl) T.len PySem.boot_len (pa_cons (pv 4) pa_nil))))) rfl)
      (pss_cons (ps_if (PW.pt (pw_or (pt_not (pt_val (pe_cal c_is_list (hr.mono (by decide)) pass0 (pa_cons (pv 2) pa_nil)))) (pw_or1 (pt_not (pt_val (pe_callB (cr_all rfl) (by rfl) T.all (by decide +kernel) (pa_cons (pe_lcD (own := [("feed", 7)]) rfl scWinit.nd (pi_list (pv 2)) (blkOk_by (by kernel_rfl)) (fun _ _ _ _ _ => (pg_name (i := 7) scWinit.nd rfl (Or.inl rfl))) (fun _ _ _ _ _ => pts_nil) (fun _ _ _ _ _ => (pe_cal c_is_feed (hr.mono (by decide)) pass0 (pa_cons (pv 7) (pa_cons (pe_fld (pv 0) rfl) pa_nil))))) pa_nil))))))) (pss_one ps_never) pss_nil)
      (pss_cons (ps_fld (pv 0) (pe_cal c_feeds_by_choices (hr.mono (by decide)) pass0 (pa_cons (pv 2) pa_nil)) rfl)
      (pss_cons (ps_if (pt_cmp (pc_isN (pe_fld (pv 0) rfl))) (pss_one ps_never) pss_nil)
      (pss_cons (ps_fld (pv 0) (pe_mc0 (pv 0) c_Wall_moves (hr.mono (by decide)) pass0) rfl)
      (pss_one (ps_fld (pv 0) (pe_lcD (own := [("book", 3)]) rfl scWinit.nd (pi_tup (pe_fld (pv 0) rfl)) (blkOk_by (by kernel_rfl)) (fun _ _ _ _ _ => (pg_name (i := 3) scWinit.nd rfl (Or.inl rfl))) (fun _ _ _ _ _ => pts_nil) (fun _ _ _ _ _ => (pe_dcD (own := [("rank", 8), ("choice", 9)]) rfl scWinit.nd (pi_enumM (by rfl) T.enumerate (pa_cons (pe_ix ix_tup (pv 3) pe_int (fun _ _ => rfl)) pa_nil)) (blkOk_by (by kernel_rfl)) (fun _ _ _ _ _ => (pg_tup (n := 2) rfl (pgs_cons (pg_name (i := 8) scWinit.nd rfl (Or.inl rfl)) (pgs_cons (pg_name (i := 9) scWinit.nd rfl (Or.inl rfl)) pgs_nil)))) (fun _ _ _ _ _ => pts_nil) (fun _ _ _ _ _ => (pv 9)) (fun _ _ _ _ _ => (pv 8))))) rfl))))))))), ?_⟩
    have t := t0.hide hp0 rfl
    have g0 : Same (hid p H) H := hid_same
    have n1 := ok.n1
    have n4 := ok.n4
    have hpl := t.bk.1
    refine ⟨_, rfl, la, _, rfl, g0 _ _ t.a, fun H1 s1 => ⟨_, rfl, iteF ?_⟩⟩
    have g1 := Same.tr g0 s1
    refine ⟨_, rfl, _, W.nb, rfl, .inl ⟨_, SqL.of (g1 _ _ t.a), by rw [List.length_map, hpl]⟩, _, _, rfl, rfl, _, rfl, ?_⟩
    rw [decide_eq_true (by omega)]
    refine iteT ⟨_, _, rfl, rfl, _, rfl, ?_⟩
    rw [decide_eq_true (by omega)]
    refine iteF ⟨_, rfl, la, rfl, ⟨_, SqL.of (g1 _ _ t.a)⟩, fun D hD => lc_col walk_list hD (by rw [List.length_map]; omega)
      (fun i y H => y = .bl true) (fun i y H H' hk e => e) (fun H' s' => SqL.of (s' _ _ (g1 _ _ t.a))) ?_ ?_⟩
    · rintro i x _ H2 K2 hi2 s2 ⟨acc, hacc⟩ ⟨rfl, hx⟩ hK
      obtain ⟨q, hq, rfl⟩ := refs_get hx
      exact ⟨rfl, _, rfl, q, W, i, rfl, ok, by have := get_lt hq; omega, (t.bk.2 i q hq).same (Same.tr g1 s2), fun H3 s3 => hK _ _ s3 rfl⟩
    · rintro H4 ys s4 hy hl4 hr4
      obtain ⟨bs, b1, b2⟩ := all_bs (K := K) hy hr4
      refine ⟨D, bs, rfl, b1, ?_⟩
      rw [b2]
      refine ⟨_, rfl, iteF ?_⟩
      have g4 := Same.tr g1 s4
      have p4 : H4 p = some (.ins cW dx []) := s4 _ _ (s1 _ _ hp0)
      refine ⟨_, rfl, .inl ⟨la, _, rfl, SqL.of (g4 _ _ t.a), fun tb htb => ?_⟩⟩
      refine ⟨_, rfl, p, cW, dx, [], rfl, sameUpd htb _ _ p4, hW.cls, hW.books, by decide, ?_⟩
      obtain ⟨H5, e5, g5, p5, k5⟩ := setp (o := .ins cW dx (putF "books" (.ref tb) [])) (Same.tr g4 (sameUpd (o := .tup (ps.map V.ref)) htb)) (hid_none (p := p))
      rw [e5]
      have p5 : H5 p = some (.ins cW dx [("books", .ref tb)]) := p5
      have b5 : H5 tb = some (.tup (ps.map V.ref)) := k5 _ _ upd_same (ne_of_none p4 htb).symm
      -- the lengths
      refine ⟨_, rfl, la, rfl, ⟨_, SqL.of (g5 _ _ t.a)⟩, fun D2 hD2 => lc_col walk_list hD2 (by rw [List.length_map]; omega)
        (fun i y H => y = .int (W.sz i : Nat)) (fun i y H H' hk e => e) (fun H' s' => SqL.of (s' _ _ (g5 _ _ t.a))) ?_ ?_⟩
      · rintro i x _ H2 K2 hi2 s2 ⟨acc, hacc⟩ ⟨rfl, hx⟩ hK
        obtain ⟨q, hq, rfl⟩ := refs_get hx
        obtain ⟨o, gg, ww, h1, h2, h3, h4⟩ := (t.bk.2 i q hq).same (Same.tr g5 s2)
        exact ⟨q, _, rfl, SqT.of h1, rfl, _, _, rfl, _, _, rfl, _, _, rfl, rfl, rfl, _, rfl, _, W.sz i, rfl, .inr ⟨_, h2.sq, by rw [ordV_len, ok.ln i (by have := get_lt hq; omega)]⟩, hK _ _ Same.rf rfl⟩
      · rintro H7 ys s7 hy hl7 hr7
        have ey := eq_nums (f := fun i => ((W.sz i : Nat) : Int)) hl7 hr7
        rw [List.length_map, hpl] at ey
        subst ey
        have p7 := s7 _ _ p5
        refine .inl ⟨D2, _, rfl, SqL.of hy, fun tl htl => ⟨_, rfl, p, cW, dx, _, rfl, sameUpd htl _ _ p7, hW.cls, hW.lengths, by simp, ?_⟩⟩
        obtain ⟨H8, e8, g8, p8, k8⟩ := setp (o := .ins cW dx (putF "lengths" (.ref tl) [("books", .ref tb)])) (Same.tr (Same.tr g5 s7) (sameUpd (o := .tup (nums W.nb fun b => ((W.sz b : Nat) : Int))) htl)) (hid_none (p := p))
        rw [e8]
        have p8 : H8 p = some (.ins cW dx [("books", .ref tb), ("lengths", .ref tl)]) := p8
        have l8 : H8 tl = some (.tup (nums W.nb fun b => ((W.sz b : Nat) : Int))) := k8 _ _ upd_same (ne_of_none p7 htl).symm
        have b8 : H8 tb = some (.tup (ps.map V.ref)) := k8 _ _ (sameUpd htl _ _ (s7 _ _ b5)) (ne_of (s7 _ _ b5) p7 (by simp))
        -- the feeds
        refine ⟨_, rfl, lb, _, rfl, g8 _ _ t.b, fun H9 s9 => ⟨_, rfl, iteF ?_⟩⟩
        have g9 := Same.tr g8 s9
        have hql := t.fd.1
        have hfl : fs.length ≤ 1000 := by have := ok.fl; have := t.pm.length_eq; omega
        refine ⟨_, rfl, lb, rfl, ⟨_, SqL.of (g9 _ _ t.b)⟩, fun D3 hD3 => lc_col walk_list hD3 (by rw [List.length_map]; omega)
          (fun i y H => y = .bl true) (fun i y H H' hk e => e) (fun H' s' => SqL.of (s' _ _ (g9 _ _ t.b))) ?_ ?_⟩
        · rintro i x _ H2 K2 hi2 s2 ⟨acc, hacc⟩ ⟨rfl, hx⟩ hK
          obtain ⟨q, hq, rfl⟩ := refs_get hx
          have hil : i < fs.length := by have := get_lt hq; omega
          have hf : fs[i]? = some fs[i] := List.getElem?_eq_getElem hil
          exact ⟨rfl, _, rfl, _, rfl, _, _, _, _, _, rfl, s2 _ _ (s9 _ _ p8), hW.cls, hW.lengths, rfl, q, fs[i], tl, W, rfl, ok, (Same.tr g9 s2) _ _ (t.fd.2 i q _ hq hf), FdOk.of ok t.pm (List.mem_of_getElem? hf), s2 _ _ (s9 _ _ l8), fun H3 s3 => hK _ _ s3 rfl⟩
        · rintro H10 ys s10 hy10 hl10 hr10
          obtain ⟨bs, b1, b2⟩ := all_bs (K := K) hy10 hr10
          refine ⟨D3, bs, rfl, b1, ?_⟩
          rw [b2]
          refine ⟨_, rfl, iteF ?_⟩
          have g10 := Same.tr g9 s10
          refine ⟨_, rfl, lb, qs, fs, rfl, g10 _ _ t.b, t.fd.same g10, ((t.pm.map Pm.Fd.key).nodup_iff).mpr ok.fn, hfl, fun d H11 s11 hd => ?_⟩
          have p11 := s11 _ _ (s10 _ _ (s9 _ _ p8))
          refine ⟨_, rfl, p, cW, dx, _, rfl, p11, hW.cls, hW.fed, by simp, ?_⟩
          obtain ⟨H12, e12, g12, p12, k12⟩ := setp (o := .ins cW dx (putF "fed" (.ref d) [("books", .ref tb), ("lengths", .ref tl)])) (Same.tr g10 s11) (hid_none (p := p))
          rw [e12]
          have p12 : H12 p = some (.ins cW dx (preF tb tl d)) := p12
          have d12 : H12 d = _ := k12 _ _ hd (ne_of hd p11 (by simp))
          have l12 : H12 tl = _ := k12 _ _ (s11 _ _ (s10 _ _ (s9 _ _ l8))) (ne_of (s11 _ _ (s10 _ _ (s9 _ _ l8))) p11 (by simp))
          have b12 : H12 tb = _ := k12 _ _ (s11 _ _ (s10 _ _ (s9 _ _ b8))) (ne_of (s11 _ _ (s10 _ _ (s9 _ _ b8))) p11 (by simp))
          have pre : PreIn H12 W tb tl d ps fs := ⟨b12, t.bk.same g12, l12, d12, t.pm⟩
          refine ⟨_, rfl, _, _, _, _, _, rfl, p12, hW.cls, hW.fed, rfl, _, rfl, ?_⟩
          rw [decide_eq_false (by simp)]
          refine iteF ?_
          refine ⟨_, rfl, _, _, _, rfl, p12, rfl, p, W, dx, tb, tl, d, ps, fs, rfl, ok, p12, pre, fun m H13 mk s13 hm hmv => ?_⟩
          have p13 := s13 _ _ p12
          refine ⟨_, rfl, p, cW, dx, _, rfl, p13, hW.cls, hW.moves, by simp [preF], ?_⟩
          obtain ⟨H14, e14, g14, p14, k14⟩ := setp (o := .ins cW dx (putF "moves" (.ref m) (preF tb tl d))) (Same.tr g12 s13) (hid_none (p := p))
          rw [e14]
          have p14 : H14 p = some (.ins cW dx [("books", .ref tb), ("lengths", .ref tl), ("fed", .ref d), ("moves", .ref m)]) := p14
          have m14 : H14 m = _ := k14 _ _ hm (ne_of hm p13 (by simp))
          have kk : ∀ b u, H13 b = some u → isIns u = false → H14 b = some u := fun b u e hu => k14 _ _ e fun z => by subst z; rw [p13] at e; cases e; cases hu
          have pr13 := pre.same s13
          have b14 : H14 tb = _ := kk _ _ pr13.tb rfl
          have hbk14 : BooksAt H14 ps W := t.bk.same g14
          have mv14 : ∀ b c, b < W.nb → c < W.sz b → MvAt H14 mk W b c := fun b c hb hc => by
            obtain ⟨l, ts, h1, h2, h3, h4⟩ := hmv b c hb hc
            exact ⟨l, ts, h1, kk _ _ h2 rfl, h3, fun i q e => kk _ _ (h4 i q e) rfl⟩
          refine ⟨_, rfl, _, _, _, _, _, rfl, p14, hW.cls, hW.books, rfl, tb, rfl, ⟨_, SqT.of b14⟩, fun D4 hD4 => lc_col walk_tup hD4 (by rw [List.length_map]; omega)
            (fun i y H => ∃ q kvs, y = .ref q ∧ q ≠ D4 ∧ H q = some (.dK kvs) ∧ ∀ c ∈ W.ord i, valV kvs (Sum.inl (c : Int)) = some (.int (Pm.rk (W.ord i) c : Nat))) (fun i y H H' hk ⟨q, kvs, e, ne, hq, h⟩ => ⟨q, kvs, e, ne, hk _ _ hq ne, h⟩) (fun H' s' => SqT.of (s' _ _ b14)) ?_ ?_⟩
          · rintro i x _ H2 K2 hi2 s2 ⟨acc, hacc⟩ ⟨rfl, hx⟩ hK
            obtain ⟨q, hq, rfl⟩ := refs_get hx
            have hib : i < W.nb := by have := get_lt hq; omega
            obtain ⟨o, gg, ww, h1, h2, h3, h4⟩ := (hbk14.2 i q hq).same s2
            refine ⟨rfl, _, rfl, _, _, _, _, rfl, rfl, SqT.of h1, rfl, true, o, _, rfl, h2.sq, fun D5 hD5 => ?_⟩
            have s3 : Same H2 (upd H2 D5 (.dK [])) := sameUpd hD5
            refine dc_it (walk_enumM (xs := ordV (W.ord i))) (fun j H' => Same H2 H' ∧ ∃ kvs, H' D5 = some (.dK kvs) ∧ kvs.length ≤ j ∧ ∀ c ∈ (W.ord i).take j, valV kvs (Sum.inl (c : Int)) = some (.int (Pm.rk (W.ord i) c : Nat))) ?_ ?_ ?_ ?_
            · exact ⟨s3, [], upd_same, Nat.le_refl _, fun c hc => by simp at hc⟩
            · rintro j H' _ ⟨s', _⟩; exact (h2.same s').sq
            · rintro j x H3 H4 hj ⟨s3, kvs, hd3, hlen, hv⟩ ⟨T', y1, y2, rfl, hT, rfl, e1, e2⟩
              cases e1
              obtain ⟨c, hc, rfl⟩ := ordV_get e2
              have s4 : Same H3 (upd H3 T' (.tup [.int (j : Nat), .int (c : Nat)])) := sameUpd hT
              have hj5 : j < 5 := by have := get_lt hc; have := ok.ln i hib; have := ok.s5 i hib; omega
              refine ⟨T', _, rfl, SqT.of upd_same, rfl, _, _, rfl, _, _, rfl, rfl, rfl, _, rfl, _, rfl, kvs, Sum.inl (c : Int), rfl, s4 _ _ hd3, small1000 (by omega), ?_⟩
              refine ⟨sameW (Same.tr s3 s4) hD5, _, upd_same, by have := length_putK kvs (Sum.inl (c : Int)) (.int (j : Nat)); omega, fun c' hc' => ?_⟩
              rw [valV_put]
              by_cases he : c' = c
              · subst he
                rw [if_pos rfl, rk_at (ok.nd i hib) hc]
              · rw [if_neg (by intro z; exact he (by have := Sum.inl.inj z; omega))]
                refine hv c' ?_
                rw [List.take_succ_eq_append_getElem (get_lt hc), List.mem_append] at hc'
                rcases hc' with h | h
                · exact h
                · rw [List.mem_singleton] at h
                  have := (List.getElem?_eq_some_iff.mp hc).2
                  exact absurd (h.trans this) he
            · rintro H3 ⟨s3, kvs, hd3, hlen, hv⟩
              rw [ordV_len, List.take_length] at hv
              exact hK _ _ s3 ⟨D5, kvs, rfl, ne_of hd3 (s3 _ _ hacc) (by simp), hd3, hv⟩
          · rintro H15 ys s15 hy15 hl15 hr15
            obtain ⟨rs, rfl, hrs⟩ := refs_of (R := fun i q => ∃ kvs, q ≠ D4 ∧ H15 q = some (.dK kvs) ∧ ∀ c ∈ W.ord i, valV kvs (Sum.inl (c : Int)) = some (.int (Pm.rk (W.ord i) c : Nat))) fun i y e => by
              obtain ⟨q, kvs, e1, h⟩ := hr15 i y e
              exact ⟨q, e1, kvs, h⟩
            have p15 := s15 _ _ p14
            refine ⟨_, rfl, p, cW, dx, _, rfl, p15, hW.cls, hW.ranks, by simp, ?_⟩
            obtain ⟨H16, e16, g16, p16, k16⟩ := setp (o := .ins cW dx (putF "ranks" (.ref D4) [("books", .ref tb), ("lengths", .ref tl), ("fed", .ref d), ("moves", .ref m)])) (Same.tr g14 s15) (hid_none (p := p))
            rw [e16]
            have p16 : H16 p = some (.ins cW dx (wontF tb tl d m D4)) := p16
            have kk2 : ∀ b u, H15 b = some u → isIns u = false → H16 b = some u := fun b u e hu => k16 _ _ e fun z => by subst z; rw [p15] at e; cases e; cases hu
            have kk3 : ∀ b u, H13 b = some u → isIns u = false → H16 b = some u := fun b u e hu => kk2 _ _ (s15 _ _ (kk _ _ e hu)) hu
            refine k H16 g16 ⟨ok, dx, tb, tl, d, m, D4, ps, rs, fs, mk, p16, ⟨kk3 _ _ pr13.tb rfl, t.bk.same g16, kk3 _ _ pr13.tl rfl, kk3 _ _ pr13.d rfl, t.pm, kk3 _ _ hm rfl, ?_, kk2 _ _ hy15 rfl, ?_⟩⟩
            · intro b c hb hc
              obtain ⟨l, ts, h1, h2, h3, h4⟩ := hmv b c hb hc
              exact ⟨l, ts, h1, kk3 _ _ h2 rfl, h3, fun i q e => kk3 _ _ (h4 i q e) rfl⟩
            · refine ⟨by have := hl15; rw [List.length_map, List.length_map, hpl] at this; exact this, fun b q e => ?_⟩
              obtain ⟨kvs, _, h2, h3⟩ := hrs b q e
              exact ⟨kvs, kk2 _ _ h2 rfl, h3⟩
end
end WB


namespace WB
open PySem L2
/-! ### a wont turned -/
theorem keys_len {W : Pm.Wd} (n4 : W.nb ≤ 4) (s5 : ∀ b, b < W.nb → W.sz b ≤ 5) {fs : List Pm.Fd} (hn : (fs.map Pm.Fd.key).Nodup) (hf : ∀ f ∈ fs, f.b < W.nb ∧ f.c < W.sz f.b ∧ f.t < W.nb ∧ f.o < W.sz f.t) : fs.length ≤ 400 := by
  have := nodup_le (fs.map Pm.Fd.key) ((List.range 400).map fun n => (n / 100, n / 20 % 5, n / 5 % 4, n % 5)) hn fun x hx => by
    obtain ⟨f, hm, rfl⟩ := List.mem_map.mp hx
    obtain ⟨h1, h2, h3, h4⟩ := hf f hm
    have h5 := s5 _ h1
    have h6 := s5 _ h3
    refine List.mem_map.mpr ⟨f.b * 100 + f.c * 20 + f.t * 5 + f.o, List.mem_range.mpr (by omega), ?_⟩
    simp only [Pm.Fd.key, Prod.mk.injEq]
    refine ⟨by omega, by omega, by omega, by omega⟩
  simpa using this
theorem turn_nb (W : Pm.Wd) (k : Pm.Knob) (v : Int) : (W.turn k v).nb = W.nb := by cases k <;> rfl
theorem turn_sz (W : Pm.Wd) (k : Pm.Knob) (v : Int) : (W.turn k v).sz = W.sz := by cases k <;> rfl
theorem turn_ord (W : Pm.Wd) (k : Pm.Knob) (v : Int) : (W.turn k v).ord = W.ord := by cases k <;> rfl
theorem tfs_nodup {fs : List Pm.Fd} (hn : (fs.map Pm.Fd.key).Nodup) (k : Pm.K4) (v : Int) : ((Pm.tfs fs k v).map Pm.Fd.key).Nodup := by
  unfold Pm.tfs
  rw [List.map_append, List.nodup_append]
  refine ⟨List.Sublist.nodup (List.Sublist.map _ List.filter_sublist) hn, by simp, fun x hx y hy => ?_⟩
  obtain ⟨f, hf, rfl⟩ := List.mem_map.mp hx
  have h := (List.mem_filter.mp hf).2
  simp at hy
  intro e
  rw [hy] at e
  simp [Pm.Fd.key] at h e
  simp [Pm.Fd.key, e] at h
theorem put2_amt {f : Nat → Nat → Int} {b c x o : Nat} {v : Int} (hv : Pm.Amt v) (h : Pm.Amt (f x o)) : Pm.Amt (Pm.put2 f b c v x o) := by
  unfold Pm.put2
  split
  · exact hv
  · exact h
theorem turn_ok {W : Pm.Wd} (ok : W.Ok) {k : Pm.Knob} (hk : k.ok W) {v : Int} (hv : Pm.isStr k = true ∨ Pm.Amt v) : (W.turn k v).Ok := by
  cases k with
  | str b c => exact ok
  | gain b c =>
    have hv : Pm.Amt v := hv.resolve_left (by simp [Pm.isStr])
    exact { ok with g := fun x o hx ho => put2_amt hv (ok.g x o hx ho) }
  | wane b c =>
    have hv : Pm.Amt v := hv.resolve_left (by simp [Pm.isStr])
    exact { ok with w := fun x o hx ho => put2_amt hv (ok.w x o hx ho) }
  | feed b c t o =>
    have hv : Pm.Amt v := hv.resolve_left (by simp [Pm.isStr])
    have hfi : ∀ f ∈ Pm.tfs W.fs (b, c, t, o) v, f.b < W.nb ∧ f.c < W.sz f.b ∧ f.t < W.nb ∧ f.o < W.sz f.t ∧ (f.b, f.c) ≠ (f.t, f.o) ∧ Pm.Amt f.amt := fun f hf => by
      rcases List.mem_append.mp hf with h | h
      · exact ok.fi f (List.mem_filter.mp h).1
      · rw [List.mem_singleton] at h
        subst h
        exact ⟨hk.1, hk.2.1, hk.2.2.1, hk.2.2.2.1, hk.2.2.2.2, hv⟩
    have hfn := tfs_nodup ok.fn (b, c, t, o) v
    exact { ok with
      fi := hfi
      fn := hfn
      fl := Nat.le_trans (keys_len (W := W) ok.n4 ok.s5 hfn fun f hf => let h := hfi f hf; ⟨h.1, h.2.1, h.2.2.1, h.2.2.2.1⟩) (by omega) }
theorem tfs_perm {fs gs : List Pm.Fd} (h : fs.Perm gs) (k : Pm.K4) (v : Int) : (Pm.tfs fs k v).Perm (Pm.tfs gs k v) := (h.filter _).append (List.Perm.refl _)
/-! ### a comprehension with a test -/
theorem lc_colF {J : It} {n : Nat} {G : Hp → Prop} {Y : Nat → Hp → V → Hp → Prop} (w : Walk J n G Y) {g : TG} {tt : TT} {te : TE} {vs : List Nat} {σ : L2.St} {H1 : Hp} {D : Addr} {Qd : Hp → Prop} (hD : H1 D = none) (hn : n ≤ 10000)
    (p : Nat → Bool) (R : Nat → V → Hp → Prop) (mono : ∀ i y H H', Kd D H H' → R i y H → R i y H') (hG : ∀ H', Same H1 H' → G H')
    (hs : ∀ i x H H' (K : V → Hp → Prop) (N : Hp → Prop), i < n → Same H1 H → (∃ acc, H D = some (.lst acc)) → Y i H x H' → (p i = true → ∀ y H4, Same H H4 → R i y H4 → K y H4) → (p i = false → ∀ H4, Same H H4 → N H4) →
      g x (wipe σ vs) H' fun σ2 H2 => wipe σ2 vs = wipe σ vs ∧ tt σ2 H2 fun b H3 => if b = true then te σ2 H3 K else N H3)
    (hd : ∀ H ys, Same H1 H → H D = some (.lst ys) → ys.length = ((List.range n).filter p).length → (∀ (j : Nat) (y : V), ys[j]? = some y → ∃ i, ((List.range n).filter p)[j]? = some i ∧ R i y H) → Qd H) :
    ∃ W : Nat → Nat → Hp → Prop, (∃ m, W 0 m (upd H1 D (.lst []))) ∧ ∀ i m H, W i m H → (J.stop i H ∧ Qd H) ∨ (J.go i H ∧ ∃ Nx : Hp → Prop, (∀ H', Nx H' → ∃ m', m' < m ∧ W (i + 1) m' H') ∧ ∀ x H', J.yld i H x H' → g x (wipe σ vs) H' fun σ2 H2 => wipe σ2 vs = wipe σ vs ∧ tt σ2 H2 fun b H3 => if b = true then te σ2 H3 fun y H4 => ∃ acc, H4 D = some (.lst acc) ∧ acc.length < sizeLine ∧ Nx (upd H4 D (.lst (acc ++ [y]))) else Nx H3) := by
  have len : ∀ i, ((List.range i).filter p).length ≤ i := fun i => by have := List.length_filter_le p (List.range i); simpa using this
  have rs : ∀ i, (List.range (i + 1)).filter p = (List.range i).filter p ++ if p i = true then [i] else [] := fun i => by
    rw [List.range_succ, List.filter_append]
    cases h : p i <;> simp [h]
  refine lc_it w (fun i H => Same H1 H ∧ ∃ ys, H D = some (.lst ys) ∧ ys.length = ((List.range i).filter p).length ∧ ∀ (j : Nat) (y : V), ys[j]? = some y → ∃ i', ((List.range i).filter p)[j]? = some i' ∧ R i' y H) ⟨sameUpd hD, [], upd_same, rfl, by simp⟩ (fun i H _ q => hG H q.1) ?_ ?_
  · rintro i x H H' hi ⟨s, ys, hy, hl, hr⟩ y
    refine hs i x H H' _ _ hi s ⟨ys, hy⟩ y (fun hp z H4 s4 r4 => ?_) (fun hp H4 s4 => ?_)
    · have hk : Kd D H4 (upd H4 D (.lst (ys ++ [z]))) := fun b o e ne => by rw [upd_ne ne]; exact e
      refine ⟨ys, s4 _ _ hy, by have := len i; rw [hl, sizeLine_eq]; omega, fun b o e => ?_, ys ++ [z], upd_same, by rw [rs, if_pos hp]; simp [hl], fun j v hv => ?_⟩
      · rw [upd_ne (ne_of_none e hD)]; exact s4 b o (s b o e)
      · rw [rs, if_pos hp]
        by_cases hj : j < ys.length
        · rw [List.getElem?_append_left hj] at hv
          obtain ⟨i', e1, e2⟩ := hr j v hv
          exact ⟨i', by rw [List.getElem?_append_left (by omega)]; exact e1, mono _ _ _ _ hk (mono _ _ _ _ (Same.kd s4) e2)⟩
        · have hj2 : j = ys.length := by
            have := (List.getElem?_eq_some_iff.mp hv).1
            simp at this; omega
          subst hj2
          simp at hv
          subst hv
          exact ⟨i, by rw [hl]; simp, mono _ _ _ _ hk r4⟩
    · refine ⟨Same.tr s s4, ys, s4 _ _ hy, by rw [rs, hp]; simpa using hl, fun j v hv => ?_⟩
      obtain ⟨i', e1, e2⟩ := hr j v hv
      refine ⟨i', ?_, mono _ _ _ _ (Same.kd s4) e2⟩
      rw [rs, hp]
      simpa using e1
  · rintro H ⟨s, ys, hy, hl, hr⟩
    exact hd H ys s hy hl hr
theorem filter_ix {α : Type} (l : List α) (d : α) (q : α → Bool) : l.filter q = ((List.range l.length).filter fun i => q (l.getD i d)).map fun i => l.getD i d := by
  have h : l = (List.range l.length).map fun i => l.getD i d := by
    apply List.ext_getElem?
    intro i
    rw [List.getElem?_map]
    by_cases h : i < l.length
    · rw [List.getElem?_range h, List.getElem?_eq_getElem h]
      simp [List.getD, List.getElem?_eq_getElem h]
    · rw [List.getElem?_eq_none (by omega), List.getElem?_eq_none (by simp; omega)]; rfl
  conv => lhs; rw [h]
  rw [List.filter_map]
  rfl
end WB

namespace WB
open PySem L2
/-! ### knobs -/
def knobV : Pm.Knob → List V
  | .str b c => [.str "strength", .int (b : Nat), .int (c : Nat)]
  | .gain b c => [.str "gain", .int (b : Nat), .int (c : Nat)]
  | .wane b c => [.str "wane", .int (b : Nat), .int (c : Nat)]
  | .feed b c t o => [.str "feed", .int (b : Nat), .int (c : Nat), .int (t : Nat), .int (o : Nat)]
def KnobAt (H : Hp) (a : Addr) (k : Pm.Knob) : Prop := H a = some (.tup (knobV k))
/-- what is asked for and is no knob -/
inductive OddKnob (H : Hp) : V → Prop
  | non : OddKnob H .non
  | str (z : Str) : OddKnob H (.str z)
  | gain {a : Addr} (h : H a = some (.tup [.str "gain", .int 9, .int 0])) : OddKnob H (.ref a)
  | feed {a : Addr} (h : H a = some (.tup [.str "feed", .int 0, .int 0, .int 0, .int 0])) : OddKnob H (.ref a)
def iOf : V → Nat
  | .int i => i.toNat | _ => 0
def chOk (W : Pm.Wd) (x y : V) : Bool := inR x 0 ((W.nb : Int) - 1) && inR y 0 ((W.sz (iOf x) : Int) - 1)
theorem strF {a b : Str} (h : a ≠ b) : decide (V.str a = V.str b) = false := decide_eq_false fun z => h (V.str.inj z)
theorem strT {a : Str} : decide (V.str a = V.str a) = true := decide_eq_true rfl
structure Wds (K : PySem.W.Frag) (w : World) (mg : Str → Option Value) (dW : Addr) (es : Array DictEntry) (n : Nat) : Prop where
  D : KDict K w dW es n
  gl : mg "WORDS" = some (.ref dW)
  strength : ∃ t, PySem.W.nsIn K dW "strength" = some (some (.int 3 t))
  gain : ∃ t, PySem.W.nsIn K dW "gain" = some (some (.int 3 t))
  wane : ∃ t, PySem.W.nsIn K dW "wane" = some (some (.int 3 t))
  feed : ∃ t, PySem.W.nsIn K dW "feed" = some (some (.int 5 t))
def spIsChoice (K : PySem.W.Frag) (cW cS : Addr) : Sp := fun vs H Q _ => ∃ (p : Addr) (W : Pm.Wd) (x y : V), vs = [.ref p, x, y] ∧ WontAt cW H p W ∧ Flat x ∧ Flat y ∧ Q (.bl (chOk W x y)) H
def spIsKnob (K : PySem.W.Frag) (cW cS : Addr) : Sp := fun vs H Q _ => ∃ (p : Addr) (W : Pm.Wd) (x : V) (b : Bool), vs = [.ref p, x] ∧ WontAt cW H p W ∧ ((b = true ∧ ∃ a k, x = .ref a ∧ KnobAt H a k ∧ k.ok W) ∨ (b = false ∧ OddKnob H x)) ∧ ∀ H', Same H H' → Q (.bl b) H'
def spValueOf (K : PySem.W.Frag) (cW cS : Addr) : Sp := fun vs H Q _ => ∃ (p : Addr) (W : Pm.Wd) (a kk : Addr) (st : Nat → Nat → Int) (k : Pm.Knob), vs = [.ref p, .ref a, .ref kk] ∧ WontAt cW H p W ∧ StAt H a W.nb W.sz st ∧ KnobAt H kk k ∧ k.ok W ∧ ∀ H', Same H H' → Q (.int (Pm.own W st k)) H'
/-- giver, taker, slope -/
abbrev Slp := (Nat × Nat) × (Nat × Nat) × Int
def slopesL (W : Pm.Wd) : Pm.Knob → List Slp
  | .str _ _ => []
  | .gain b c => [((b, c), (b, c), 1)]
  | .wane b c => ((List.range (W.sz b)).filter fun o => !decide (o = c)).map fun o => ((b, o), (b, c), -1)
  | .feed b c t o => [((b, c), (t, o), 1)]
def SlpAt (H : Hp) (q : Addr) (s : Slp) : Prop := ∃ g t, H q = some (.tup [.ref g, .ref t, .int s.2.2]) ∧ H g = some (.tup [.int (s.1.1 : Nat), .int (s.1.2 : Nat)]) ∧ H t = some (.tup [.int (s.2.1.1 : Nat), .int (s.2.1.2 : Nat)])
theorem SlpAt.same {H H' : Hp} {q : Addr} {s : Slp} (h : Same H H') (x : SlpAt H q s) : SlpAt H' q s := let ⟨g, t, a, b, c⟩ := x; ⟨g, t, h _ _ a, h _ _ b, h _ _ c⟩
def SlpsAt (H : Hp) (a : Addr) (l : List Slp) : Prop := ∃ qs : List Addr, H a = some (.lst (qs.map V.ref)) ∧ qs.length = l.length ∧ ∀ (i : Nat) (q : Addr) (s : Slp), qs[i]? = some q → l[i]? = some s → SlpAt H q s
theorem SlpsAt.same {H H' : Hp} {a : Addr} {l : List Slp} (h : Same H H') (x : SlpsAt H a l) : SlpsAt H' a l := let ⟨qs, b, c, d⟩ := x; ⟨qs, h _ _ b, c, fun i q s e e' => (d i q s e e').same h⟩
def spSlopesOf (K : PySem.W.Frag) (cW cS : Addr) : Sp := fun vs H Q _ => ∃ (p : Addr) (W : Pm.Wd) (kk : Addr) (k : Pm.Knob), vs = [.ref p, .ref kk] ∧ WontAt cW H p W ∧ KnobAt H kk k ∧ k.ok W ∧ ∀ r H', Same H H' → SlpsAt H' r (slopesL W k) → Q (.ref r) H'
def spTurnedTo (K : PySem.W.Frag) (cW cS : Addr) : Sp := fun vs H Q _ => ∃ (p : Addr) (W : Pm.Wd) (a kk : Addr) (st : Nat → Nat → Int) (k : Pm.Knob) (v : Int), vs = [.ref p, .ref a, .ref kk, .int v] ∧ WontAt cW H p W ∧ StAt H a W.nb W.sz st ∧ KnobAt H kk k ∧ k.ok W ∧ (Pm.isStr k = true ∨ Pm.Amt v) ∧ ∀ r H' p' a', Same H H' → H' r = some (.tup [.ref p', .ref a']) → WontAt cW H' p' (W.turn k v) → StAt H' a' W.nb W.sz (Pm.turnS st k v) → Q (.ref r) H'
def spNearestIn (K : PySem.W.Frag) (cW cS : Addr) : Sp := fun vs H Q _ => ∃ a b v : Int, vs = [.int a, .int b, .int v] ∧ Q (.int (min (max a v) b)) H
theorem cut_oN {K : PySem.W.Frag} {σ : L2.St} {H : Hp} {a : Addr} {xs : List V} {lo : Option Int} {Q : VK} (ha : H a = some (.tup xs))
    (h : ∀ r H', Same H H' → H' r = some (.tup (cutV xs lo none)) → Q (.ref r) H') : tNoPart σ H fun u H3 => rSlA K (.ref a) lo u H3 Q := cut_ok ha h
theorem gw0 : ∀ (m : Nat) (z : V), m < 0 → ([V.str "gain", V.str "wane"] : List V)[m]? = some z → eqV z (.str "gain") = false := fun m z h => absurd h (Nat.not_lt_zero _)
theorem gw1 : ∀ (m : Nat) (z : V), m < 1 → ([V.str "gain", V.str "wane"] : List V)[m]? = some z → eqV z (.str "wane") = false := fun m z h hz => by
  have : m = 0 := by omega
  subst this
  cases hz
  decide
section
variable {P : Program} {w : World} {K : PySem.W.Frag} {mg : Str → Option Value} {base : Heap} {cW cS dW : Addr} {es : Array DictEntry} {n : Nat}
abbrev sNearestIn : Stmt := top 44
theorem scNearestIn : FnScope ["first", "last", "value"] ["first", "last", "value"] (defScope sNearestIn) := ⟨rfl, rfl, rfl, by decide +kernel, rfl, by decide +kernel, by decide +kernel⟩
theorem ok_NearestIn {f : Addr} {fd : FuncData} (F : Fun K "nearest_in" "nearest_in" sNearestIn f fd) (T : NoG mg)  : FnOk P w K mg base CX0 1 f fd ["first", "last", "value"] (spNearestIn K cW cS) := by
  refine F.ok scNearestIn (fun vs H Q E h => ?_) (fun cdv A outer s H vs Q E hr h => ?_)
  · repeat (first | (obtain ⟨rfl, _⟩ := h; rfl) | (obtain ⟨_, h⟩ := h))
  · obtain ⟨a, b, v, rfl, k⟩ := h
    refine ⟨_, (pss_one (ps_ret (pe_callB (call_min2 rfl) (by rfl) T.min (by decide +kernel) (pa_cons (pe_callB (call_max2 rfl) (by rfl) T.max (by decide +kernel) (pa_cons (pv 0) (pa_cons (pv 2) pa_nil))) (pa_cons (pv 1) pa_nil))))), ?_⟩
    refine ⟨_, rfl, _, rfl, _, _, rfl, _, rfl, _, _, rfl, ?_⟩
    have e1 : (if v > a then v else a) = max a v := by split <;> omega
    dsimp only
    rw [e1]
    have e2 : (if b < max a v then b else max a v) = min (max a v) b := by split <;> omega
    rw [e2]
    exact k
abbrev sIsChoice : Stmt := top 35
theorem scIsChoice : FnScope ["wont", "book", "choice"] ["wont", "book", "choice"] (defScope sIsChoice) := ⟨rfl, rfl, rfl, by decide +kernel, rfl, by decide +kernel, by decide +kernel⟩
theorem ok_IsChoice {f : Addr} {fd : FuncData} (F : Fun K "is_choice" "is_choice" sIsChoice f fd) (T : NoG mg) (c_is_from : Cal P w K mg base CX0 2 "is_from" ["thing", "low", "high"] (spIsFrom K cW cS)) (c_Wsizes : CalM P w K mg base CX0 1 cW "sizes" ["self"] (spWsizes K cW cS)) : FnOk P w K mg base CX0 3 f fd ["wont", "book", "choice"] (spIsChoice K cW cS) := by
  refine F.ok scIsChoice (fun vs H Q E h => ?_) (fun cdv A outer s H vs Q E hr h => ?_)
  · repeat (first | (obtain ⟨rfl, _⟩ := h; rfl) | (obtain ⟨_, h⟩ := h))
  · obtain ⟨p, W, x, y, rfl, hWt, hx, hy, k⟩ := h
    refine ⟨_, (pss_one (ps_ret (pe_and (pe_cal c_is_from (hr.mono (by decide)) pass0 (pa_cons (pv 1) (pa_cons pe_int (pa_cons (pe_op op_sub (pe_callB call_len (by rfl) T.len PySem.boot_len (pa_cons (pe_mc0 (pv 0) c_Wsizes (hr.mono (by decide)) pass0) pa_nil)) pe_int) pa_nil)))) (pe_one (pe_cal c_is_from (hr.mono (by decide)) pass0 (pa_cons (pv 2) (pa_cons pe_int (pa_cons (pe_op op_sub (pe_ix ix_tup (pe_mc0 (pv 0) c_Wsizes (hr.mono (by decide)) pass0) (pv 1) (fun _ _ => rfl)) pe_int) pa_nil)))))))), ?_⟩
    obtain ⟨ok, dx, tb, tl, d, m, r, ps, rs, fs, mk, hp, hi⟩ := id hWt
    refine ⟨_, rfl, _, rfl, _, _, _, rfl, hp, rfl, p, W, rfl, hWt, fun tl2 htl => ?_⟩
    refine ⟨_, W.nb, rfl, .inr ⟨_, SqT.of htl, (nums_len _ _).symm⟩, _, _, rfl, rfl, x, _, _, rfl, hx, _, rfl, ?_⟩
    cases hb : inR x 0 ((W.nb : Int) - 1) with
    | false =>
      have : chOk W x y = false := by unfold chOk; rw [hb]; rfl
      rw [this] at k
      exact iteF k
    | true =>
      refine iteT ?_
      cases x with
      | int i =>
        have hib : 0 ≤ i ∧ i ≤ (W.nb : Int) - 1 := of_decide_eq_true hb
        obtain ⟨j, rfl⟩ : ∃ j : Nat, i = (j : Int) := ⟨i.toNat, by omega⟩
        have : chOk W (.int (j : Nat)) y = inR y 0 ((W.sz j : Int) - 1) := by unfold chOk; rw [hb]; rfl
        rw [this] at k
        exact ⟨_, rfl, _, rfl, _, _, _, rfl, hp, rfl, p, W, rfl, hWt, fun tl3 htl3 => ⟨_, rfl, _, _, _, _, rfl, rfl, SqT.of htl3, atI_nat (nums_at (by omega)), _, _, rfl, rfl, y, _, _, rfl, hy, k⟩⟩
      | _ => simp [inR] at hb
abbrev sValueOf : Stmt := top 38
theorem scValueOf : FnScope ["wont", "stand", "knob", "word", "book", "choice", "more"] ["wont", "stand", "knob"] (defScope sValueOf) := ⟨rfl, rfl, rfl, by decide +kernel, rfl, by decide +kernel, by decide +kernel⟩
theorem ok_ValueOf {f : Addr} {fd : FuncData} (F : Fun K "value_of" "value_of" sValueOf f fd) (T : NoG mg) (hW : WF K cW)  : FnOk P w K mg base CX0 1 f fd ["wont", "stand", "knob"] (spValueOf K cW cS) := by
  refine F.ok scValueOf (fun vs H Q E h => ?_) (fun cdv A outer s H vs Q E hr h => ?_)
  · repeat (first | (obtain ⟨rfl, _⟩ := h; rfl) | (obtain ⟨_, h⟩ := h))
  · obtain ⟨p, W, a, kk, st, k, rfl, hWt, ⟨ss, ha, hsl, hss⟩, hk, hok, kont⟩ := h
    refine ⟨_, (pss_cons (ps_asg (pv 2) (pg_star (n := 4) (i := 3) rfl (pgs_cons (pg_name (i := 3) scValueOf.nd rfl (Or.inl rfl)) (pgs_cons (pg_name (i := 4) scValueOf.nd rfl (Or.inl rfl)) (pgs_cons (pg_name (i := 5) scValueOf.nd rfl (Or.inl rfl)) (pgs_star (pg_name (i := 6) scValueOf.nd rfl (Or.inl rfl)) pgs_nil))))))
      (pss_cons (ps_if (pt_cmpR op_eq (pv 3) pe_str (nomark _)) (pss_one (ps_ret (pe_ix ix_tup (pe_ix ix_tup (pv 1) (pv 4) (fun _ _ => rfl)) (pv 5) (fun _ _ => rfl)))) pss_nil)
      (pss_cons (ps_if (pt_cmpR op_eq (pv 3) pe_str (nomark _)) (pss_one (ps_ret (pe_dget2 (hu_of hr) (pe_fld (pv 0) rfl) (pe_slice sl_tupA (pv 2) (po_some pe_int) po_none) pe_int ⟨rfl, rfl, rfl, rfl⟩))) pss_nil)
      (pss_one (ps_ret (pe_ix ix_tup (pe_ix ix_tup (pe_ix ix_tup (pe_fld (pv 0) rfl) (pv 4) (fun _ _ => rfl)) (pe_op op_add (pe_bm PySem.F.plainAttrs_list PySem.F.slot_list_index PySem.F.type_list_index mt_index (pe_lst (pa_cons pe_str (pa_cons pe_str pa_nil))) (pa_cons (pv 3) pa_nil)) pe_int) (fun _ _ => rfl)) (pv 5) (fun _ _ => rfl))))))), ?_⟩
    obtain ⟨ok, dx, tb, tl, d, m, r, ps, rs, fs, mk, hp, hi⟩ := id hWt
    cases k with
    | str b c =>
      refine ⟨_, rfl, kk, knobV (.str b c), rfl, SqT.of hk, by decide, by simp [knobV], by simp [knobV], fun D hD => ?_⟩
      refine ⟨_, _, rfl, _, _, rfl, _, _, rfl, _, _, rfl, rfl, ?_⟩
      have e : ss[b]? = some (ss[b]'(by rw [hsl]; exact hok.1)) := List.getElem?_eq_getElem _
      have s1 : Same H (upd H D (.lst [])) := sameUpd hD
      refine ⟨_, rfl, rfl, _, rfl, ?_⟩
      rw [strT]
      refine iteT ⟨_, rfl, _, rfl, _, _, _, _, rfl, rfl, SqT.of (s1 _ _ ha), atI_nat (refs_at e), _, rfl, _, _, _, _, rfl, rfl, SqT.of (s1 _ _ (hss b _ e)), atI_nat (nums_at hok.2), kont _ s1⟩
    | gain b c =>
      refine ⟨_, rfl, kk, knobV (.gain b c), rfl, SqT.of hk, by decide, by simp [knobV], by simp [knobV], fun D hD => ?_⟩
      refine ⟨_, _, rfl, _, _, rfl, _, _, rfl, _, _, rfl, rfl, ?_⟩
      have s1 : Same H (upd H D (.lst [])) := sameUpd hD
      refine ⟨_, rfl, rfl, _, rfl, ?_⟩
      rw [strF (by decide)]
      refine iteF ⟨_, rfl, rfl, _, rfl, ?_⟩
      rw [strF (by decide)]
      refine iteF ?_
      obtain ⟨q, o, gg, ww, e, h1, h2, h3, h4⟩ := (hi.same s1).len hok.1
      refine ⟨_, rfl, _, _, _, _, _, rfl, s1 _ _ hp, hW.cls, hW.books, rfl, _, rfl, _, _, _, _, rfl, rfl, SqT.of (hi.same s1).tb, atI_nat (refs_at e), big1000 (by simp), fun l hl => ?_⟩
      have s2 : Same (upd H D (.lst [])) (upd (upd H D (.lst [])) l (.lst [.str "gain", .str "wane"])) := sameUpd hl
      refine ⟨.inl ⟨rfl, _, SqL.of upd_same⟩, _, rfl, l, _, _, 0, _, rfl, rfl, SqL.of upd_same, by decide, by decide, rfl, by decide, gw0, _, _, rfl, rfl, ?_⟩
      refine ⟨q, _, _, _, rfl, rfl, SqT.of (s2 _ _ h1), rfl, _, rfl, _, _, _, _, rfl, rfl, SqT.of (s2 _ _ h3), atI_nat (nums_at hok.2), kont _ (Same.tr s1 s2)⟩
    | wane b c =>
      refine ⟨_, rfl, kk, knobV (.wane b c), rfl, SqT.of hk, by decide, by simp [knobV], by simp [knobV], fun D hD => ?_⟩
      refine ⟨_, _, rfl, _, _, rfl, _, _, rfl, _, _, rfl, rfl, ?_⟩
      have s1 : Same H (upd H D (.lst [])) := sameUpd hD
      refine ⟨_, rfl, rfl, _, rfl, ?_⟩
      rw [strF (by decide)]
      refine iteF ⟨_, rfl, rfl, _, rfl, ?_⟩
      rw [strF (by decide)]
      refine iteF ?_
      obtain ⟨q, o, gg, ww, e, h1, h2, h3, h4⟩ := (hi.same s1).len hok.1
      refine ⟨_, rfl, _, _, _, _, _, rfl, s1 _ _ hp, hW.cls, hW.books, rfl, _, rfl, _, _, _, _, rfl, rfl, SqT.of (hi.same s1).tb, atI_nat (refs_at e), big1000 (by simp), fun l hl => ?_⟩
      have s2 : Same (upd H D (.lst [])) (upd (upd H D (.lst [])) l (.lst [.str "gain", .str "wane"])) := sameUpd hl
      refine ⟨.inl ⟨rfl, _, SqL.of upd_same⟩, _, rfl, l, _, _, 1, _, rfl, rfl, SqL.of upd_same, by decide, by decide, rfl, by decide, gw1, _, _, rfl, rfl, ?_⟩
      refine ⟨q, _, _, _, rfl, rfl, SqT.of (s2 _ _ h1), rfl, _, rfl, _, _, _, _, rfl, rfl, SqT.of (s2 _ _ h4), atI_nat (nums_at hok.2), kont _ (Same.tr s1 s2)⟩
    | feed b c t o =>
      refine ⟨_, rfl, kk, knobV (.feed b c t o), rfl, SqT.of hk, by decide, by simp [knobV], by simp [knobV], fun D hD => ?_⟩
      refine ⟨_, _, rfl, _, _, rfl, _, _, rfl, _, _, rfl, rfl, ?_⟩
      have s1 : Same H (upd H D (.lst [.int (t : Nat), .int (o : Nat)])) := sameUpd hD
      refine ⟨_, rfl, rfl, _, rfl, ?_⟩
      rw [strF (by decide)]
      refine iteF ⟨_, rfl, rfl, _, rfl, ?_⟩
      rw [strT]
      refine iteT ⟨_, rfl, _, _, _, _, _, rfl, s1 _ _ hp, hW.cls, hW.fed, rfl, d, rfl, .inr ⟨_, .inl (s1 _ _ hi.d)⟩, _, rfl, _, rfl, ?_⟩
      refine cut_oN (s1 _ _ hk) ?_
      intro r2 H2 s2 h2
      refine ⟨_, dget_t (k := kyV (b, c, t, o)) (s2 _ _ (s1 _ _ hi.d)) (by rw [h2]; rfl) rfl, ?_⟩
      rw [fed_get (((hi.pm.map Pm.Fd.key).nodup_iff).mpr ok.fn), famt_perm hi.pm]
      exact kont _ (Same.tr s1 s2)
abbrev sSlopesOf : Stmt := top 41
theorem scSlopesOf : FnScope ["wont", "knob", "word", "book", "choice", "more", "others", "other"] ["wont", "knob"] (defScope sSlopesOf) := ⟨rfl, rfl, rfl, by decide +kernel, rfl, by decide +kernel, by decide +kernel⟩
theorem ok_SlopesOf {f : Addr} {fd : FuncData} (F : Fun K "slopes_of" "slopes_of" sSlopesOf f fd) (T : NoG mg) (c_Wsizes : CalM P w K mg base CX0 1 cW "sizes" ["self"] (spWsizes K cW cS)) : FnOk P w K mg base CX0 2 f fd ["wont", "knob"] (spSlopesOf K cW cS) := by
  refine F.ok scSlopesOf (fun vs H Q E h => ?_) (fun cdv A outer s H vs Q E hr h => ?_)
  · repeat (first | (obtain ⟨rfl, _⟩ := h; rfl) | (obtain ⟨_, h⟩ := h))
  · obtain ⟨p, W, kk, k, rfl, hWt, hk, hok, kont⟩ := h
    refine ⟨_, (pss_cons (ps_asg (pv 1) (pg_star (n := 4) (i := 3) rfl (pgs_cons (pg_name (i := 2) scSlopesOf.nd rfl (Or.inl rfl)) (pgs_cons (pg_name (i := 3) scSlopesOf.nd rfl (Or.inr rfl)) (pgs_cons (pg_name (i := 4) scSlopesOf.nd rfl (Or.inr rfl)) (pgs_star (pg_name (i := 5) scSlopesOf.nd rfl (Or.inl rfl)) pgs_nil))))))
      (pss_cons (ps_if (pt_cmpR op_eq (pv 2) pe_str (nomark _)) (pss_one (ps_ret (pe_lst pa_nil))) pss_nil)
      (pss_cons (ps_if (pt_cmpR op_eq (pv 2) pe_str (nomark _)) (pss_one (ps_ret (pe_lst (pa_cons (pe_tup (pa_cons (pe_tup (pa_cons (pv 3) (pa_cons (pv 4) pa_nil))) (pa_cons (pe_tup (pa_cons (pv 3) (pa_cons (pv 4) pa_nil))) (pa_cons pe_int pa_nil)))) pa_nil)))) pss_nil)
      (pss_cons (ps_if (pt_cmpR op_eq (pv 2) pe_str (nomark _)) (pss_cons (ps_setLcD (i := 6) (own := [("other", 7)]) rfl scSlopesOf.nd rfl rfl (sw_true rfl rfl rfl (by decide +kernel)) (pi_range1 (by rfl) T.range (pa_cons (pe_ix ix_tup (pe_mc0 (pv 0) c_Wsizes (hr.mono (by decide)) pass0) (pv 3) (fun _ _ => rfl)) pa_nil)) (blkOk_by (by kernel_rfl)) (fun _ _ _ _ _ => (pg_name (i := 7) scSlopesOf.nd rfl (Or.inl rfl))) (fun _ _ _ _ _ => pts_one (pt_cmpR op_ne (pv 7) (pv 4) (nomark _))) (fun _ _ _ _ _ => (pv 7)))
          (pss_one (ps_ret (pe_lcD (own := [("other", 7)]) rfl scSlopesOf.nd (pi_list (pv 6)) (blkOk_by (by kernel_rfl)) (fun _ _ _ _ _ => (pg_name (i := 7) scSlopesOf.nd rfl (Or.inl rfl))) (fun _ _ _ _ _ => pts_nil) (fun _ _ _ _ _ => (pe_tup (pa_cons (pe_tup (pa_cons (pv 3) (pa_cons (pv 7) pa_nil))) (pa_cons (pe_tup (pa_cons (pv 3) (pa_cons (pv 4) pa_nil))) (pa_cons (pe_un un_neg pe_int) pa_nil))))))))) pss_nil)
      (pss_one (ps_ret (pe_lst (pa_cons (pe_tup (pa_cons (pe_tup (pa_cons (pv 3) (pa_cons (pv 4) pa_nil))) (pa_cons (pe_tupleOf (by rfl) T.tuple (pv 5)) (pa_cons pe_int pa_nil)))) pa_nil)))))))), ?_⟩
    obtain ⟨ok, dx, tb, tl, d, m, r, ps, rs, fs, mk, hp, hi⟩ := id hWt
    cases k with
    | str b c =>
      refine ⟨_, rfl, kk, knobV (.str b c), rfl, SqT.of hk, by decide, by simp [knobV], by simp [knobV], fun D hD => ?_⟩
      refine ⟨_, _, rfl, _, _, rfl, _, _, rfl, _, _, rfl, rfl, ?_⟩
      have s1 : Same H (upd H D (.lst [])) := sameUpd hD
      refine ⟨_, rfl, rfl, _, rfl, ?_⟩
      rw [strT]
      refine iteT ⟨big1000 (by simp), fun l hl => kont l _ (Same.tr s1 (sameUpd hl)) ⟨[], upd_same, rfl, fun i q s e => by simp at e⟩⟩
    | gain b c =>
      refine ⟨_, rfl, kk, knobV (.gain b c), rfl, SqT.of hk, by decide, by simp [knobV], by simp [knobV], fun D hD => ?_⟩
      refine ⟨_, _, rfl, _, _, rfl, _, _, rfl, _, _, rfl, rfl, ?_⟩
      have s1 : Same H (upd H D (.lst [])) := sameUpd hD
      refine ⟨_, rfl, rfl, _, rfl, ?_⟩
      rw [strF (by decide)]
      refine iteF ⟨_, rfl, rfl, _, rfl, ?_⟩
      rw [strT]
      refine iteT ⟨_, rfl, _, rfl, big1000 (by simp), fun g hg => ⟨_, rfl, _, rfl, big1000 (by simp), fun t ht => ⟨big1000 (by simp), fun q hq => ⟨big1000 (by simp), fun l hl => ?_⟩⟩⟩⟩
      refine kont l _ (Same.tr s1 (Same.tr (sameUpd hg) (Same.tr (sameUpd ht) (Same.tr (sameUpd hq) (sameUpd hl))))) ⟨[q], upd_same, rfl, fun i q' s e e2 => ?_⟩
      have hi0 : i = 0 := by have := get_lt e; simp at this; omega
      subst hi0
      cases e; cases e2
      exact ⟨g, t, sameUpd hl _ _ upd_same, sameUpd hl _ _ (sameUpd hq _ _ (sameUpd ht _ _ upd_same)), sameUpd hl _ _ (sameUpd hq _ _ upd_same)⟩
    | wane b c =>
      refine ⟨_, rfl, kk, knobV (.wane b c), rfl, SqT.of hk, by decide, by simp [knobV], by simp [knobV], fun D hD => ?_⟩
      refine ⟨_, _, rfl, _, _, rfl, _, _, rfl, _, _, rfl, rfl, ?_⟩
      have s1 : Same H (upd H D (.lst [])) := sameUpd hD
      refine ⟨_, rfl, rfl, _, rfl, ?_⟩
      rw [strF (by decide)]
      refine iteF ⟨_, rfl, rfl, _, rfl, ?_⟩
      rw [strF (by decide)]
      refine iteF ⟨_, rfl, rfl, _, rfl, ?_⟩
      rw [strT]
      have h5 := ok.s5 b hok.1
      have hlen := List.length_filter_le (fun o => !decide (o = c)) (List.range (W.sz b))
      rw [List.length_range] at hlen
      refine iteT ⟨_, rfl, _, _, _, rfl, s1 _ _ hp, rfl, p, W, rfl, hWt.same s1, fun tl3 htl3 => ⟨_, rfl, _, _, _, _, rfl, rfl, SqT.of htl3, atI_nat (nums_at hok.1), _, rfl, by omega, by omega, fun D2 hD2 => ?_⟩⟩
      refine lc_colF wrn hD2 (by omega) (fun o => !decide (o = c)) (fun i y H => y = .int (i : Nat)) (fun i y H H' hk e => e) (fun _ _ => trivial) ?_ ?_
      · rintro i x _ H3 K3 N3 hi3 s3 ⟨acc, hacc⟩ ⟨rfl, rfl⟩ hK hN
        refine ⟨rfl, _, rfl, _, rfl, rfl, _, rfl, ?_⟩
        by_cases hic : i = c
        · rw [decide_eq_true (by rw [hic])]
          exact iteF (hN (by simp [hic]) _ Same.rf)
        · rw [decide_eq_false (fun z => hic (by have := V.int.inj z; omega))]
          exact iteT ⟨_, rfl, hK (by simp [hic]) _ _ Same.rf rfl⟩
      · rintro H4 ys s4 hy hl4 hr4
        refine ⟨_, rfl, D2, rfl, ⟨_, SqL.of hy⟩, fun D3 hD3 => lc_col (walk_list (xs := ys)) hD3 (by omega)
          (fun i y H => ∃ q, y = .ref q ∧ q ≠ D3 ∧ ∃ o, ((List.range (W.sz b)).filter fun o => !decide (o = c))[i]? = some o ∧ ∃ g t, g ≠ D3 ∧ t ≠ D3 ∧ H q = some (.tup [.ref g, .ref t, .int (-1)]) ∧ H g = some (.tup [.int (b : Nat), .int (o : Nat)]) ∧ H t = some (.tup [.int (b : Nat), .int (c : Nat)]))
          (fun i y H H' hk ⟨q, e, ne, o, e2, g, t, n1, n2, h1, h2, h3⟩ => ⟨q, e, ne, o, e2, g, t, n1, n2, hk _ _ h1 ne, hk _ _ h2 n1, hk _ _ h3 n2⟩) (fun H' s' => SqL.of (s' _ _ hy)) ?_ ?_⟩
        · rintro i x _ H5 K5 hi5 s5 ⟨acc, hacc⟩ ⟨rfl, hx⟩ hK
          obtain ⟨o, eo, rfl⟩ := hr4 i x hx
          refine ⟨rfl, _, rfl, _, rfl, big1000 (by simp), fun g hg => ⟨_, rfl, _, rfl, big1000 (by simp), fun t ht => ⟨_, rfl, big1000 (by simp), fun q hq => ?_⟩⟩⟩
          exact hK _ _ (Same.tr (sameUpd hg) (Same.tr (sameUpd ht) (sameUpd hq))) ⟨q, rfl, (ne_of_none (sameUpd ht _ _ (sameUpd hg _ _ hacc)) hq).symm, o, eo, g, t, (ne_of_none hacc hg).symm, (ne_of_none (sameUpd hg _ _ hacc) ht).symm, upd_same, sameUpd hq _ _ (sameUpd ht _ _ upd_same), sameUpd hq _ _ upd_same⟩
        · rintro H6 ys6 s6 hy6 hl6 hr6
          obtain ⟨qs, rfl, hqs⟩ := refs_of (R := fun i q => ∃ o, ((List.range (W.sz b)).filter fun o => !decide (o = c))[i]? = some o ∧ ∃ g t, H6 q = some (.tup [.ref g, .ref t, .int (-1)]) ∧ H6 g = some (.tup [.int (b : Nat), .int (o : Nat)]) ∧ H6 t = some (.tup [.int (b : Nat), .int (c : Nat)])) fun i y e => by
            obtain ⟨q, e1, _, o, e2, g, t, _, _, h⟩ := hr6 i y e
            exact ⟨q, e1, o, e2, g, t, h⟩
          refine kont D3 H6 (Same.tr s1 (Same.tr s4 s6)) ⟨qs, hy6, ?_, fun i q s e e2 => ?_⟩
          · rw [List.length_map] at hl6
            rw [hl6, hl4]
            simp [slopesL]
          · obtain ⟨o, eo, g, t, h1, h2, h3⟩ := hqs i q e
            simp only [slopesL, List.getElem?_map, eo, Option.map_some, Option.some.injEq] at e2
            subst e2
            exact ⟨g, t, h1, h2, h3⟩
    | feed b c t o =>
      refine ⟨_, rfl, kk, knobV (.feed b c t o), rfl, SqT.of hk, by decide, by simp [knobV], by simp [knobV], fun D hD => ?_⟩
      refine ⟨_, _, rfl, _, _, rfl, _, _, rfl, _, _, rfl, rfl, ?_⟩
      have s1 : Same H (upd H D (.lst [.int (t : Nat), .int (o : Nat)])) := sameUpd hD
      refine ⟨_, rfl, rfl, _, rfl, ?_⟩
      rw [strF (by decide)]
      refine iteF ⟨_, rfl, rfl, _, rfl, ?_⟩
      rw [strF (by decide)]
      refine iteF ⟨_, rfl, rfl, _, rfl, ?_⟩
      rw [strF (by decide)]
      refine iteF ⟨_, rfl, _, rfl, big1000 (by simp), fun g hg => ⟨_, rfl, .inl ⟨D, _, rfl, SqL.of (sameUpd hg _ _ upd_same), fun t' ht => ⟨big1000 (by simp), fun q hq => ⟨big1000 (by simp), fun l hl => ?_⟩⟩⟩⟩⟩
      refine kont l _ (Same.tr s1 (Same.tr (sameUpd hg) (Same.tr (sameUpd ht) (Same.tr (sameUpd hq) (sameUpd hl))))) ⟨[q], upd_same, rfl, fun i q' s e e2 => ?_⟩
      have hi0 : i = 0 := by have := get_lt e; simp at this; omega
      subst hi0
      cases e; cases e2
      exact ⟨g, t', sameUpd hl _ _ upd_same, sameUpd hl _ _ (sameUpd hq _ _ (sameUpd ht _ _ upd_same)), sameUpd hl _ _ (sameUpd hq _ _ upd_same)⟩
end
end WB


namespace WB
open PySem L2
theorem chOk_nat {W : Pm.Wd} {b c : Nat} (hb : b < W.nb) (hc : c < W.sz b) : chOk W (.int (b : Nat)) (.int (c : Nat)) = true := by
  have h1 : inR (.int (b : Nat)) 0 ((W.nb : Int) - 1) = true := decide_eq_true (by omega)
  have h2 : inR (.int (c : Nat)) 0 ((W.sz (iOf (.int (b : Nat))) : Int) - 1) = true := decide_eq_true (by show 0 ≤ (c : Int) ∧ (c : Int) ≤ (W.sz ((b : Int).toNat) : Int) - 1; rw [Int.toNat_natCast]; omega)
  unfold chOk
  rw [h1, h2]; rfl
section
variable {P : Program} {w : World} {K : PySem.W.Frag} {mg : Str → Option Value} {base : Heap} {cW cS dW : Addr} {es : Array DictEntry} {n : Nat}
abbrev sIsKnob : Stmt := top 36
theorem scIsKnob : FnScope ["wont", "thing"] ["wont", "thing"] (defScope sIsKnob) := ⟨rfl, rfl, rfl, by decide +kernel, rfl, by decide +kernel, by decide +kernel⟩
theorem ok_IsKnob {f : Addr} {fd : FuncData} (F : Fun K "is_knob" "is_knob" sIsKnob f fd) (T : NoG mg) (Wo : Wds K w mg dW es n) (c_is_choice : Cal P w K mg base CX0 3 "is_choice" ["wont", "book", "choice"] (spIsChoice K cW cS)) : FnOk P w K mg base CX0 4 f fd ["wont", "thing"] (spIsKnob K cW cS) := by
  refine F.ok scIsKnob (fun vs H Q E h => ?_) (fun cdv A outer s H vs Q E hr h => ?_)
  · repeat (first | (obtain ⟨rfl, _⟩ := h; rfl) | (obtain ⟨_, h⟩ := h))
  · obtain ⟨p, W, x, bb, rfl, hWt, hx, kont⟩ := h
    refine ⟨_, (pss_cons (ps_if (PW.pt (pw_or (pt_not (pt_val (pe_callB call_isi (by rfl) T.isinstance (by decide +kernel) (pa_cons (pv 1) (pa_cons (pe_bltn (v := .ty "tuple") (by rfl) T.tuple (by decide +kernel) rfl) pa_nil))))) (pw_or (pt_cmpR op_eq (pe_callB call_len (by rfl) T.len PySem.boot_len (pa_cons (pv 1) pa_nil)) pe_int (nomark _)) (pw_or1 (pt_not (pt_val (pe_callB call_isi (by rfl) T.isinstance (by decide +kernel) (pa_cons (pe_ix ix_tup (pv 1) pe_int (fun _ _ => rfl)) (pa_cons (pe_bltn (v := .ty "str") (by rfl) T.str (by decide +kernel) rfl) pa_nil))))))))) (pss_one (ps_ret pe_bl)) pss_nil)
      (pss_cons (ps_if (PW.pt (pw_or (pt_cmpR op_ne (pe_kget Wo.D (pe_glob (v := .ref dW) (by rfl) Wo.gl rfl) (pe_ix ix_tup (pv 1) pe_int (fun _ _ => rfl)) ⟨rfl, rfl, rfl, rfl⟩) (pe_callB call_len (by rfl) T.len PySem.boot_len (pa_cons (pv 1) pa_nil)) (nomark _)) (pw_or1 (pt_not (pt_val (pe_cal c_is_choice (hr.mono (by decide)) pass0 (pa_cons (pv 0) (pa_cons (pe_ix ix_tup (pv 1) pe_int (fun _ _ => rfl)) (pa_cons (pe_ix ix_tup (pv 1) pe_int (fun _ _ => rfl)) pa_nil))))))))) (pss_one (ps_ret pe_bl)) pss_nil)
      (pss_one (ps_ret (pe_or (pe_cmpR op_eq (pe_callB call_len (by rfl) T.len PySem.boot_len (pa_cons (pv 1) pa_nil)) pe_int (nomark _)) (pe_one (pe_and (pe_cal c_is_choice (hr.mono (by decide)) pass0 (pa_cons (pv 0) (pa_cons (pe_ix ix_tup (pv 1) pe_int (fun _ _ => rfl)) (pa_cons (pe_ix ix_tup (pv 1) pe_int (fun _ _ => rfl)) pa_nil)))) (pe_one (pe_cmpR (op_neD hr.units) (pe_slice sl_tupA (pv 1) (po_some pe_int) (po_some pe_int)) (pe_slice sl_tupA (pv 1) (po_some pe_int) po_none) (nomark _)))))))))), ?_⟩
    obtain ⟨ok, _⟩ := id hWt
    have hx2 : (∃ (a : Addr) (wd : Str) (b c : Int), x = .ref a ∧ H a = some (.tup [.str wd, .int b, .int c]) ∧ (∃ t, PySem.W.nsIn K dW wd = some (some (.int 3 t))) ∧ chOk W (.int b) (.int c) = bb) ∨
        (∃ (a : Addr) (b c t o : Int), x = .ref a ∧ H a = some (.tup [.str "feed", .int b, .int c, .int t, .int o]) ∧ chOk W (.int b) (.int c) = true ∧ chOk W (.int t) (.int o) = true ∧ bb = !decide ([b, c] = [t, o])) ∨
        (bb = false ∧ ∃ nm, tyN x = some nm ∧ kitB nm "tuple" = some false) := by
      rcases hx with ⟨rfl, a, k, rfl, hk, hok⟩ | ⟨rfl, ho⟩
      · cases k with
        | str b c => exact .inl ⟨a, _, b, c, rfl, hk, Wo.strength, chOk_nat hok.1 hok.2⟩
        | gain b c => exact .inl ⟨a, _, b, c, rfl, hk, Wo.gain, chOk_nat hok.1 hok.2⟩
        | wane b c => exact .inl ⟨a, _, b, c, rfl, hk, Wo.wane, chOk_nat hok.1 hok.2⟩
        | feed b c t o =>
          obtain ⟨h1, h2, h3, h4, h5⟩ := hok
          refine .inr (.inl ⟨a, b, c, t, o, rfl, hk, chOk_nat h1 h2, chOk_nat h3 h4, ?_⟩)
          rw [decide_eq_false (fun z => h5 (by simp at z; exact Prod.ext (by omega) (by omega)))]; rfl
      · cases ho with
        | non => exact .inr (.inr ⟨rfl, _, rfl, by decide +kernel⟩)
        | str z => exact .inr (.inr ⟨rfl, _, rfl, by decide +kernel⟩)
        | gain h => exact .inl ⟨_, _, 9, 0, rfl, h, Wo.gain, by
            have : inR (.int 9) 0 ((W.nb : Int) - 1) = false := decide_eq_false (by have := ok.n4; omega)
            unfold chOk
            rw [this]; rfl⟩
        | feed h =>
          have h00 := chOk_nat (W := W) (b := 0) (c := 0) ok.n1 (ok.s1 0 ok.n1)
          exact .inr (.inl ⟨_, 0, 0, 0, 0, rfl, h, h00, h00, by simp⟩)
    rcases hx2 with ⟨a, wd, b, c, rfl, ha, ⟨tk, hns⟩, hch⟩ | ⟨a, b, c, t, o, rfl, ha, h1, h2, hbb⟩ | ⟨rfl, nm, hn1, hn2⟩
    · refine ⟨_, rfl, _, _, _, _, true, rfl, .ty _, .base (.tup ha), kit_ty (by decide +kernel), _, rfl, iteF ?_⟩
      refine ⟨_, rfl, _, 3, rfl, .inr ⟨_, SqT.of ha, rfl⟩, rfl, _, rfl, iteF ?_⟩
      refine ⟨_, rfl, _, _, _, _, rfl, rfl, SqT.of ha, rfl, _, _, _, _, true, rfl, .ty _, .base (.str _), kit_ty (by decide +kernel), _, rfl, iteF ?_⟩
      refine ⟨rfl, _, rfl, _, _, _, _, rfl, rfl, SqT.of ha, rfl, wd, _, .int 3, rfl, hns, ⟨tk, rfl⟩, _, rfl, _, 3, rfl, .inr ⟨_, SqT.of ha, rfl⟩, rfl, _, rfl, iteF ?_⟩
      refine ⟨_, rfl, _, rfl, _, _, _, _, rfl, rfl, SqT.of ha, rfl, _, rfl, _, _, _, _, rfl, rfl, SqT.of ha, rfl, p, W, _, _, rfl, hWt, flat_int _, flat_int _, _, rfl, ?_⟩
      rw [hch]
      cases bb with
      | false => exact iteT (kont _ Same.rf)
      | true => exact iteF ⟨_, rfl, _, 3, rfl, .inr ⟨_, SqT.of ha, rfl⟩, rfl, _, rfl, iteT (kont _ Same.rf)⟩
    · obtain ⟨tk, hns⟩ := Wo.feed
      refine ⟨_, rfl, _, _, _, _, true, rfl, .ty _, .base (.tup ha), kit_ty (by decide +kernel), _, rfl, iteF ?_⟩
      refine ⟨_, rfl, _, 5, rfl, .inr ⟨_, SqT.of ha, rfl⟩, rfl, _, rfl, iteF ?_⟩
      refine ⟨_, rfl, _, _, _, _, rfl, rfl, SqT.of ha, rfl, _, _, _, _, true, rfl, .ty _, .base (.str _), kit_ty (by decide +kernel), _, rfl, iteF ?_⟩
      refine ⟨rfl, _, rfl, _, _, _, _, rfl, rfl, SqT.of ha, rfl, _, _, .int 5, rfl, hns, ⟨tk, rfl⟩, _, rfl, _, 5, rfl, .inr ⟨_, SqT.of ha, rfl⟩, rfl, _, rfl, iteF ?_⟩
      refine ⟨_, rfl, _, rfl, _, _, _, _, rfl, rfl, SqT.of ha, rfl, _, rfl, _, _, _, _, rfl, rfl, SqT.of ha, rfl, p, W, _, _, rfl, hWt, flat_int _, flat_int _, _, rfl, ?_⟩
      rw [h1]
      refine iteF ⟨_, rfl, _, 5, rfl, .inr ⟨_, SqT.of ha, rfl⟩, rfl, _, rfl, iteF ?_⟩
      refine ⟨_, rfl, _, rfl, _, _, _, _, rfl, rfl, SqT.of ha, rfl, _, rfl, _, _, _, _, rfl, rfl, SqT.of ha, rfl, p, W, _, _, rfl, hWt, flat_int _, flat_int _, _, rfl, ?_⟩
      rw [h2]
      refine iteT ⟨_, rfl, _, rfl, _, rfl, cut_ok ha ?_⟩
      intro r1 H1 s1 e1
      refine ⟨_, rfl, _, rfl, cut_oN (s1 _ _ ha) ?_⟩
      intro r2 H2 s2 e2
      refine ⟨tI [b, c], tI [t, o], dp_ints (SqT.of ?_), dp_ints (SqT.of ?_), tI_shaped _, tI_shaped _, ?_⟩
      · rw [s2 _ _ e1]; rfl
      · rw [e2]; rfl
      rw [tI_eqv, ← hbb]
      exact kont _ (Same.tr s1 s2)
    · refine ⟨_, rfl, _, _, _, _, false, rfl, .ty _, ty_of hn1, kit_ty hn2, _, rfl, iteT ?_⟩
      exact iteT (kont _ Same.rf)
end
end WB


namespace WB
open PySem L2
theorem nums_set (n : Nat) (f : Nat → Int) (c : Nat) (v : Int) : (nums n f).set c (.int v) = nums n fun o => if o = c then v else f o := by
  refine eq_nums (by rw [List.length_set, nums_len]) fun i y hy => ?_
  by_cases h : i = c
  · subst h
    by_cases hl : i < n
    · rw [List.getElem?_set_self (by rw [nums_len]; exact hl)] at hy
      cases hy; simp
    · rw [List.getElem?_eq_none (by rw [List.length_set, nums_len]; omega)] at hy; cases hy
  · rw [List.getElem?_set_ne (fun z => h z.symm)] at hy
    obtain ⟨_, rfl⟩ := nums_get hy
    simp [h]
theorem nums_put_same (n : Nat) (f : Nat → Nat → Int) (b c : Nat) (v : Int) : (nums n (f b)).set c (.int v) = nums n (Pm.put2 f b c v b) := by
  rw [nums_set]
  congr 1
  funext o
  simp [Pm.put2]
theorem put2_ne (f : Nat → Nat → Int) (b c x : Nat) (v : Int) (h : x ≠ b) : Pm.put2 f b c v x = f x := by
  funext o
  simp [Pm.put2, h]
theorem set_map_refs (ss : List Addr) (b : Nat) (r : Addr) : (ss.map V.ref).set b (.ref r) = (ss.set b r).map V.ref := by rw [List.map_set]
theorem set_cases {ss : List Addr} {b i : Nat} {r p : Addr} (h : (ss.set b r)[i]? = some p) : (i = b ∧ p = r) ∨ (i ≠ b ∧ ss[i]? = some p) := by
  by_cases hi : i = b
  · subst hi
    have hl : i < ss.length := by have := get_lt h; rwa [List.length_set] at this
    rw [List.getElem?_set_self hl] at h
    cases h; exact .inl ⟨rfl, rfl⟩
  · rw [List.getElem?_set_ne (fun z => hi z.symm)] at h
    exact .inr ⟨hi, h⟩
theorem StAt.put {H : Hp} {ss : List Addr} {n : Nat} {sz : Nat → Nat} {f : Nat → Nat → Int} {a r b c : Addr} {v : Int} (hl : ss.length = n) (hs : RowsAt H ss sz f) (ha : H a = some (.tup ((ss.map V.ref).set b (.ref r)))) (hr : H r = some (.tup ((nums (sz b) (f b)).set c (.int v)))) : StAt H a n sz (Pm.put2 f b c v) := by
  refine ⟨ss.set b r, by rw [ha, set_map_refs], by rw [List.length_set]; exact hl, fun i p hp => ?_⟩
  rcases set_cases hp with ⟨rfl, rfl⟩ | ⟨ne, h⟩
  · rw [hr, nums_put_same]
  · rw [put2_ne _ _ _ _ _ ne]; exact hs i p h
theorem BooksAt.gain {H : Hp} {ps : List Addr} {W : Pm.Wd} {b c : Nat} {v : Int} {r2 o r1 w : Addr} (hb : BooksAt H ps W) (h2 : H r2 = some (.tup [.ref o, .ref r1, .ref w])) (ho : OT H o (ordV (W.ord b))) (h1 : H r1 = some (.tup ((nums (W.sz b) (W.g b)).set c (.int v)))) (hw : H w = some (.tup (nums (W.sz b) (W.w b)))) : BooksAt H (ps.set b r2) (W.turn (.gain b c) v) := by
  refine ⟨by rw [List.length_set]; exact hb.1, fun i p hp => ?_⟩
  rcases set_cases hp with ⟨rfl, rfl⟩ | ⟨ne, h⟩
  · exact ⟨o, r1, w, h2, ho, by rw [h1, nums_put_same]; rfl, hw⟩
  · obtain ⟨o', g', w', q1, q2, q3, q4⟩ := hb.2 i p h
    exact ⟨o', g', w', q1, q2, by rw [q3]; show _ = some (HO.tup (nums (W.sz i) (Pm.put2 W.g b c v i))); rw [put2_ne _ _ _ _ _ ne], q4⟩
theorem BooksAt.wane {H : Hp} {ps : List Addr} {W : Pm.Wd} {b c : Nat} {v : Int} {r2 o r1 g : Addr} (hb : BooksAt H ps W) (h2 : H r2 = some (.tup [.ref o, .ref g, .ref r1])) (ho : OT H o (ordV (W.ord b))) (h1 : H r1 = some (.tup ((nums (W.sz b) (W.w b)).set c (.int v)))) (hg : H g = some (.tup (nums (W.sz b) (W.g b)))) : BooksAt H (ps.set b r2) (W.turn (.wane b c) v) := by
  refine ⟨by rw [List.length_set]; exact hb.1, fun i p hp => ?_⟩
  rcases set_cases hp with ⟨rfl, rfl⟩ | ⟨ne, h⟩
  · exact ⟨o, g, r1, h2, ho, hg, by rw [h1, nums_put_same]; rfl⟩
  · obtain ⟨o', g', w', q1, q2, q3, q4⟩ := hb.2 i p h
    exact ⟨o', g', w', q1, q2, q3, by rw [q4]; show _ = some (HO.tup (nums (W.sz i) (Pm.put2 W.w b c v i))); rw [put2_ne _ _ _ _ _ ne]⟩
theorem mk_same {H : Hp} {x dx : Addr} {o o' : HO} (hx : H x = none) (hdx : H dx = none) : Same H (hid x (upd (upd H dx o') x o)) := fun b u e => by
  have h1 : b ≠ x := ne_of_none e hx
  have h2 : b ≠ dx := ne_of_none e hdx
  exact hid_at ((upd_ne h1).trans ((upd_ne h2).trans e)) h1
theorem ixN_nat {n b : Nat} (h : b < n) : ixN n (b : Int) = some b := by
  unfold ixN
  rw [if_pos (by omega), if_pos (by omega), Int.toNat_natCast]
theorem hid_ne {p b : Addr} {H : Hp} {o o' : HO} (hp : H p = some o') (h : H b = some o) (ho : o ≠ o') : hid p H b = some o := hid_at h (ne_of h hp ho)
theorem BooksAt.hide {H : Hp} {ps : List Addr} {W : Pm.Wd} {la : Addr} {xs : List V} (hl : H la = some (.lst xs)) (h : BooksAt H ps W) : BooksAt (hid la H) ps W := ⟨h.1, fun b q e => let ⟨o, g, w, h1, h2, h3, h4⟩ := h.2 b q e; ⟨o, g, w, hid_ne hl h1 (by simp), h2.hide hl (by simp), hid_ne hl h3 (by simp), hid_ne hl h4 (by simp)⟩⟩
theorem FeedsAt.hide {H : Hp} {qs : List Addr} {fs : List Pm.Fd} {la : Addr} {xs : List V} (hl : H la = some (.lst xs)) (h : FeedsAt H qs fs) : FeedsAt (hid la H) qs fs := ⟨h.1, fun i q f e e' => hid_ne hl (h.2 i q f e e') (by simp)⟩
theorem none_same {H H1 : Hp} {a : Addr} (s : Same H H1) (h : H1 a = none) : H a = none := by
  cases e : H a with
  | none => rfl
  | some o => rw [s _ _ e] at h; cases h
section
variable {P : Program} {w : World} {K : PySem.W.Frag} {mg : Str → Option Value} {base : Heap} {cW cS dW : Addr}
abbrev sTurnedTo : Stmt := top 40
theorem scTurnedTo : FnScope ["wont", "stand", "knob", "value", "word", "book", "choice", "more", "books", "feeds", "kept", "feed", "part"] ["wont", "stand", "knob", "value"] (defScope sTurnedTo) := ⟨rfl, rfl, rfl, by decide +kernel, rfl, by decide +kernel, by decide +kernel⟩
theorem ok_TurnedTo {f : Addr} {fd : FuncData} (F : Fun K "turned_to" "turned_to" sTurnedTo f fd) (T : NoG mg) (hW : WF K cW) (c_Wtold : CalM P w K mg base CX0 1 cW "told" ["self"] (spWtold K cW cS)) (c_put_in : Cal P w K mg base CX0 1 "put_in" ["some", "at", "thing"] (spPutIn K cW cS)) (c_Wont : CalC P w K mg base CX0 6 "Wont" cW ["self", "books", "feeds"] (spWinit K cW cS)) : FnOk P w K mg base CX0 8 f fd ["wont", "stand", "knob", "value"] (spTurnedTo K cW cS) := by
  refine F.ok scTurnedTo (fun vs H Q E h => ?_) (fun cdv A outer s H vs Q E hr h => ?_)
  · repeat (first | (obtain ⟨rfl, _⟩ := h; rfl) | (obtain ⟨_, h⟩ := h))
  · obtain ⟨p, W, a, kk, st, k, v, rfl, hWt, ⟨ss, ha, hsl, hss⟩, hk, hok, hv, kont⟩ := h
    refine ⟨_, (pss_cons (ps_asg (pv 2) (pg_star (n := 4) (i := 3) rfl (pgs_cons (pg_name (i := 4) scTurnedTo.nd rfl (Or.inl rfl)) (pgs_cons (pg_name (i := 5) scTurnedTo.nd rfl (Or.inl rfl)) (pgs_cons (pg_name (i := 6) scTurnedTo.nd rfl (Or.inl rfl)) (pgs_star (pg_name (i := 7) scTurnedTo.nd rfl (Or.inl rfl)) pgs_nil))))))
      (pss_cons (ps_if (pt_cmpR op_eq (pv 4) pe_str (nomark _)) (pss_one (ps_ret (pe_tup (pa_cons (pv 0) (pa_cons (pe_cal c_put_in (hr.mono (by decide)) pass0 (pa_cons (pv 1) (pa_cons (pv 5) (pa_cons (pe_cal c_put_in (hr.mono (by decide)) pass0 (pa_cons (pe_ix ix_tup (pv 1) (pv 5) (fun _ _ => rfl)) (pa_cons (pv 6) (pa_cons (pv 3) pa_nil)))) pa_nil)))) pa_nil))))) pss_nil)
      (pss_cons (ps_asg (pe_mc0 (pv 0) c_Wtold (hr.mono (by decide)) pass0) (pg_tup (n := 2) rfl (pgs_cons (pg_name (i := 8) scTurnedTo.nd rfl (Or.inl rfl)) (pgs_cons (pg_name (i := 9) scTurnedTo.nd rfl (Or.inl rfl)) pgs_nil))))
      (pss_cons (ps_if (pt_cmpR op_eq (pv 4) pe_str (nomark _)) (pss_cons (ps_setLcD (i := 10) (own := [("feed", 11)]) rfl scTurnedTo.nd rfl rfl (sw_true rfl rfl rfl (by decide +kernel)) (pi_list (pv 9)) (blkOk_by (by kernel_rfl)) (fun _ _ _ _ _ => (pg_name (i := 11) scTurnedTo.nd rfl (Or.inl rfl))) (fun _ _ _ _ _ => pts_one (pt_cmpR (op_neD hr.units) (pe_slice sl_tupA (pv 11) po_none (po_some pe_int)) (pe_slice sl_tupA (pv 2) (po_some pe_int) po_none) (nomark _))) (fun _ _ _ _ _ => (pv 11)))
          (pss_one (ps_ret (pe_tup (pa_cons (pe_mk c_Wont (hr.mono (by decide)) pass0 (pa_cons (pv 8) (pa_cons (pe_op op_cat (pv 10) (pe_lst (pa_cons (pe_op op_catA (pe_slice sl_tupA (pv 2) (po_some pe_int) po_none) (pe_tup (pa_cons (pv 3) pa_nil))) pa_nil))) pa_nil))) (pa_cons (pv 1) pa_nil)))))) pss_nil)
      (pss_cons (ps_set (i := 12) scTurnedTo.nd rfl (Or.inl rfl) (pe_op op_add (pe_bm PySem.F.plainAttrs_list PySem.F.slot_list_index PySem.F.type_list_index mt_index (pe_lst (pa_cons pe_str (pa_cons pe_str pa_nil))) (pa_cons (pv 4) pa_nil)) pe_int))
      (pss_cons (ps_asg (pe_cal c_put_in (hr.mono (by decide)) pass0 (pa_cons (pe_ix ix_list (pv 8) (pv 5) (fun _ _ => rfl)) (pa_cons (pv 12) (pa_cons (pe_cal c_put_in (hr.mono (by decide)) pass0 (pa_cons (pe_ix ix_tup (pe_ix ix_list (pv 8) (pv 5) (fun _ _ => rfl)) (pv 12) (fun _ _ => rfl)) (pa_cons (pv 6) (pa_cons (pv 3) pa_nil)))) pa_nil)))) (pg_sub (pv 8) (pv 5) set_list))
      (pss_one (ps_ret (pe_tup (pa_cons (pe_mk c_Wont (hr.mono (by decide)) pass0 (pa_cons (pv 8) (pa_cons (pv 9) pa_nil))) (pa_cons (pv 1) pa_nil))))))))))), ?_⟩
    obtain ⟨ok, dx0, tb, tl, d, m, r, ps0, rs, fs0, mk, hp, hi⟩ := id hWt
    have n4 := ok.n4
    have tok := turn_ok ok hok hv
    cases k with
    | str b c =>
      refine ⟨_, rfl, kk, knobV (.str b c), rfl, SqT.of hk, by decide, by simp [knobV], by simp [knobV], fun D hD => ?_⟩
      refine ⟨_, _, rfl, _, _, rfl, _, _, rfl, _, _, rfl, rfl, ?_⟩
      have e : ss[b]? = some (ss[b]'(by rw [hsl]; exact hok.1)) := List.getElem?_eq_getElem _
      have s1 : Same H (upd H D (.lst [])) := sameUpd hD
      have h5 := ok.s5 b hok.1
      refine ⟨_, rfl, rfl, _, rfl, ?_⟩
      rw [strT]
      refine iteT ⟨_, rfl, _, rfl, _, rfl, _, rfl, _, rfl, _, _, _, _, rfl, rfl, SqT.of (s1 _ _ ha), atI_nat (refs_at e), _, rfl, _, rfl, _, c, .int v, _, rfl, s1 _ _ (hss b _ e), by rw [nums_len]; exact hok.2, by rw [nums_len]; omega, fun r1 H2 s2 h2 => ?_⟩
      refine ⟨a, b, .ref r1, _, rfl, s2 _ _ (s1 _ _ ha), by rw [List.length_map, hsl]; exact hok.1, by rw [List.length_map, hsl]; omega, fun r2 H3 s3 h3 => ?_⟩
      have s13 := Same.tr s1 (Same.tr s2 s3)
      refine ⟨big1000 (by simp), newT fun r4 H4 _ s4 h4 => kont r4 H4 p r2 (Same.tr s13 s4) h4 (hWt.same (Same.tr s13 s4)) ?_⟩
      exact (StAt.put (r := r1) hsl (fun i q hq => s4 _ _ (s13 _ _ (hss i q hq))) (s4 _ _ h3) (s4 _ _ (s3 _ _ h2)))
    | gain b c =>
      refine ⟨_, rfl, kk, knobV (.gain b c), rfl, SqT.of hk, by decide, by simp [knobV], by simp [knobV], fun D hD => ?_⟩
      refine ⟨_, _, rfl, _, _, rfl, _, _, rfl, _, _, rfl, rfl, ?_⟩
      have s1 : Same H (upd H D (.lst [])) := sameUpd hD
      have h5 := ok.s5 b hok.1
      refine ⟨_, rfl, rfl, _, rfl, ?_⟩
      rw [strF (by decide)]
      refine iteF ⟨_, rfl, _, _, _, rfl, s1 _ _ hp, rfl, p, W, rfl, hWt.same s1, fun a2 H2 la lb ps qs fs s2 hla hlb h2 td => ?_⟩
      refine ⟨a2, _, rfl, SqT.of h2, rfl, _, _, rfl, _, _, rfl, rfl, _, rfl, rfl, _, rfl, ?_⟩
      rw [strF (by decide)]
      refine iteF ⟨big1000 (by simp), fun l hl => ?_⟩
      have s3 : Same H2 (upd H2 l (.lst [.str "gain", .str "wane"])) := sameUpd hl
      refine ⟨.inl ⟨rfl, _, SqL.of upd_same⟩, _, rfl, l, _, _, 0, _, rfl, rfl, SqL.of upd_same, by decide, by decide, rfl, by decide, gw0, _, _, rfl, rfl, ?_⟩
      have hbp : ps[b]? = some (ps[b]'(by rw [td.bk.1]; exact hok.1)) := List.getElem?_eq_getElem _
      generalize ps[b]'(by rw [td.bk.1]; exact hok.1) = q at hbp
      have td3 := td.same s3
      obtain ⟨o, gg, ww, q1, q2, q3, q4⟩ := td3.bk.2 b q hbp
      refine ⟨_, rfl, _, rfl, _, _, _, _, rfl, rfl, SqL.of td3.a, atI_nat (refs_at hbp), _, rfl, _, rfl, _, rfl, _, _, _, _, rfl, rfl, SqL.of td3.a, atI_nat (refs_at hbp), _, rfl, _, _, _, _, rfl, rfl, SqT.of q1, rfl, _, rfl, _, rfl, gg, c, .int v, _, rfl, q3, by rw [nums_len]; exact hok.2, by rw [nums_len]; omega, fun r1 H4 s4 h4 => ?_⟩
      refine ⟨q, 1, .ref r1, _, rfl, s4 _ _ q1, by simp, by simp, fun r2 H5 s5 h5 => ?_⟩
      have td5 := (td3.same s4).same s5
      refine ⟨_, rfl, _, rfl, la, _, (b : Int), b, rfl, rfl, td5.a, by rw [List.length_map, td.bk.1]; exact ixN_nat hok.1, ?_⟩
      have bk5 : BooksAt H5 (ps.set b r2) (W.turn (.gain b c) v) := td5.bk.gain h5 ((q2.same s4).same s5) (s5 _ _ h4) (s5 _ _ (s4 _ _ q4))
      have g6 : Same (hid la H5) (upd H5 la (.lst ((ps.map V.ref).set b (.ref r2)))) := sameW hid_same hid_none
      have s6 : Same H (upd H5 la (.lst ((ps.map V.ref).set b (.ref r2)))) := sameW (Same.tr s1 (Same.tr s2 (Same.tr s3 (Same.tr s4 s5)))) (none_same s1 hla)
      have td6 : Told (upd H5 la (.lst ((ps.map V.ref).set b (.ref r2)))) la lb (W.turn (.gain b c) v) (ps.set b r2) qs fs := ⟨by rw [upd_same, set_map_refs], (upd_ne hlb).trans td5.b, (bk5.hide td5.a).same g6, td5.pm, (td5.fd.hide td5.a).same g6⟩
      refine ⟨_, rfl, _, rfl, fun x dx hx hdx hne => ⟨x, la, lb, W.turn (.gain b c) v, ps.set b r2, qs, fs, dx, rfl, tok, ?_, upd_same, fun H7 s7 hw => ⟨rfl, _, rfl, big1000 (by simp), newT fun r8 H8 _ s8 h8 => ?_⟩⟩⟩
      · exact (td6.same (mk_same hx hdx)).same hid_same
      · have s68 := Same.tr s6 (Same.tr (mk_same hx hdx) (Same.tr s7 s8))
        exact kont r8 H8 x a s68 h8 (hw.same s8) ⟨ss, s68 _ _ ha, hsl, hss.same s68⟩
    | wane b c =>
      refine ⟨_, rfl, kk, knobV (.wane b c), rfl, SqT.of hk, by decide, by simp [knobV], by simp [knobV], fun D hD => ?_⟩
      refine ⟨_, _, rfl, _, _, rfl, _, _, rfl, _, _, rfl, rfl, ?_⟩
      have s1 : Same H (upd H D (.lst [])) := sameUpd hD
      have h5 := ok.s5 b hok.1
      refine ⟨_, rfl, rfl, _, rfl, ?_⟩
      rw [strF (by decide)]
      refine iteF ⟨_, rfl, _, _, _, rfl, s1 _ _ hp, rfl, p, W, rfl, hWt.same s1, fun a2 H2 la lb ps qs fs s2 hla hlb h2 td => ?_⟩
      refine ⟨a2, _, rfl, SqT.of h2, rfl, _, _, rfl, _, _, rfl, rfl, _, rfl, rfl, _, rfl, ?_⟩
      rw [strF (by decide)]
      refine iteF ⟨big1000 (by simp), fun l hl => ?_⟩
      have s3 : Same H2 (upd H2 l (.lst [.str "gain", .str "wane"])) := sameUpd hl
      refine ⟨.inl ⟨rfl, _, SqL.of upd_same⟩, _, rfl, l, _, _, 1, _, rfl, rfl, SqL.of upd_same, by decide, by decide, rfl, by decide, gw1, _, _, rfl, rfl, ?_⟩
      have hbp : ps[b]? = some (ps[b]'(by rw [td.bk.1]; exact hok.1)) := List.getElem?_eq_getElem _
      generalize ps[b]'(by rw [td.bk.1]; exact hok.1) = q at hbp
      have td3 := td.same s3
      obtain ⟨o, gg, ww, q1, q2, q3, q4⟩ := td3.bk.2 b q hbp
      refine ⟨_, rfl, _, rfl, _, _, _, _, rfl, rfl, SqL.of td3.a, atI_nat (refs_at hbp), _, rfl, _, rfl, _, rfl, _, _, _, _, rfl, rfl, SqL.of td3.a, atI_nat (refs_at hbp), _, rfl, _, _, _, _, rfl, rfl, SqT.of q1, rfl, _, rfl, _, rfl, ww, c, .int v, _, rfl, q4, by rw [nums_len]; exact hok.2, by rw [nums_len]; omega, fun r1 H4 s4 h4 => ?_⟩
      refine ⟨q, 2, .ref r1, _, rfl, s4 _ _ q1, by simp, by simp, fun r2 H5 s5 h5 => ?_⟩
      have td5 := (td3.same s4).same s5
      refine ⟨_, rfl, _, rfl, la, _, (b : Int), b, rfl, rfl, td5.a, by rw [List.length_map, td.bk.1]; exact ixN_nat hok.1, ?_⟩
      have bk5 : BooksAt H5 (ps.set b r2) (W.turn (.wane b c) v) := td5.bk.wane h5 ((q2.same s4).same s5) (s5 _ _ h4) (s5 _ _ (s4 _ _ q3))
      have g6 : Same (hid la H5) (upd H5 la (.lst ((ps.map V.ref).set b (.ref r2)))) := sameW hid_same hid_none
      have s6 : Same H (upd H5 la (.lst ((ps.map V.ref).set b (.ref r2)))) := sameW (Same.tr s1 (Same.tr s2 (Same.tr s3 (Same.tr s4 s5)))) (none_same s1 hla)
      have td6 : Told (upd H5 la (.lst ((ps.map V.ref).set b (.ref r2)))) la lb (W.turn (.wane b c) v) (ps.set b r2) qs fs := ⟨by rw [upd_same, set_map_refs], (upd_ne hlb).trans td5.b, (bk5.hide td5.a).same g6, td5.pm, (td5.fd.hide td5.a).same g6⟩
      refine ⟨_, rfl, _, rfl, fun x dx hx hdx hne => ⟨x, la, lb, W.turn (.wane b c) v, ps.set b r2, qs, fs, dx, rfl, tok, ?_, upd_same, fun H7 s7 hw => ⟨rfl, _, rfl, big1000 (by simp), newT fun r8 H8 _ s8 h8 => ?_⟩⟩⟩
      · exact (td6.same (mk_same hx hdx)).same hid_same
      · have s68 := Same.tr s6 (Same.tr (mk_same hx hdx) (Same.tr s7 s8))
        exact kont r8 H8 x a s68 h8 (hw.same s8) ⟨ss, s68 _ _ ha, hsl, hss.same s68⟩
    | feed b c t o =>
      refine ⟨_, rfl, kk, knobV (.feed b c t o), rfl, SqT.of hk, by decide, by simp [knobV], by simp [knobV], fun D hD => ?_⟩
      refine ⟨_, _, rfl, _, _, rfl, _, _, rfl, _, _, rfl, rfl, ?_⟩
      have s1 : Same H (upd H D (.lst [.int (t : Nat), .int (o : Nat)])) := sameUpd hD
      refine ⟨_, rfl, rfl, _, rfl, ?_⟩
      rw [strF (by decide)]
      refine iteF ⟨_, rfl, _, _, _, rfl, s1 _ _ hp, rfl, p, W, rfl, hWt.same s1, fun a2 H2 la lb ps qs fs s2 hla hlb h2 td => ?_⟩
      refine ⟨a2, _, rfl, SqT.of h2, rfl, _, _, rfl, _, _, rfl, rfl, _, rfl, rfl, _, rfl, ?_⟩
      rw [strT]
      have s12 := Same.tr s1 s2
      have hfl : fs.length ≤ 1000 := by have := ok.fl; have := td.pm.length_eq; omega
      have hql := td.fd.1
      refine iteT ⟨_, rfl, lb, rfl, ⟨_, SqL.of td.b⟩, fun D2 hD2 => ?_⟩
      refine lc_colF walk_list hD2 (by rw [List.length_map]; omega) (fun i => !decide ((fs.getD i ⟨0, 0, 0, 0, 0⟩).key = (b, c, t, o))) (fun i y H => ∃ q, y = .ref q ∧ q ≠ D2 ∧ H q = some (.tup (fdV (fs.getD i ⟨0, 0, 0, 0, 0⟩)))) (fun i y H H' hk ⟨q, e, ne, hq⟩ => ⟨q, e, ne, hk _ _ hq ne⟩) (fun H' s' => SqL.of (s' _ _ td.b)) ?_ ?_
      · rintro i x _ H3 K3 N3 hi3 s3 ⟨acc, hacc⟩ ⟨rfl, hx⟩ hK hN
        obtain ⟨q, hq, rfl⟩ := refs_get hx
        have hil : i < fs.length := by have := get_lt hq; omega
        have hf : fs[i]? = some (fs.getD i ⟨0, 0, 0, 0, 0⟩) := by rw [List.getElem?_eq_getElem hil]; simp [List.getD, List.getElem?_eq_getElem hil]
        generalize fs.getD i ⟨0, 0, 0, 0, 0⟩ = fe at hK hN hf
        have hqt := s3 _ _ (td.fd.2 i q _ hq hf)
        refine ⟨rfl, _, rfl, _, rfl, cut_ok hqt ?_⟩
        intro r4 H4 s4 h4
        refine ⟨_, rfl, _, rfl, cut_oN (s4 _ _ (s3 _ _ (s12 _ _ hk))) ?_⟩
        intro r5 H5 s5 h5
        refine ⟨tI [(fe.b : Nat), (fe.c : Nat), (fe.t : Nat), (fe.o : Nat)], tI [(b : Nat), (c : Nat), (t : Nat), (o : Nat)], dp_ints (SqT.of ?_), dp_ints (SqT.of ?_), tI_shaped _, tI_shaped _, _, rfl, ?_⟩
        · rw [s5 _ _ h4]; rfl
        · rw [h5]; rfl
        rw [tI_eqv]
        by_cases hkey : fe.key = (b, c, t, o)
        · rw [decide_eq_true (by have := hkey; simp [Pm.Fd.key] at this; simp [this])]
          exact iteF (hN (by simp [hkey]) _ (Same.tr s4 s5))
        · rw [decide_eq_false (fun z => hkey (by simp at z; simp only [Pm.Fd.key, Prod.mk.injEq]; omega))]
          exact iteT ⟨_, rfl, hK (by simp [hkey]) _ _ (Same.tr s4 s5) ⟨q, rfl, ne_of hqt hacc (by simp), s5 _ _ (s4 _ _ hqt)⟩⟩
      · rintro H4 ys s4 hy hl4 hr4
        obtain ⟨qs', rfl, hqs'⟩ := refs_of (R := fun j q => ∃ i, ((List.range (qs.map V.ref).length).filter fun i => !decide ((fs.getD i ⟨0, 0, 0, 0, 0⟩).key = (b, c, t, o)))[j]? = some i ∧ H4 q = some (.tup (fdV (fs.getD i ⟨0, 0, 0, 0, 0⟩)))) fun j y e => by
          obtain ⟨i, e1, q, e2, _, h⟩ := hr4 j y e
          exact ⟨q, e2, i, e1, h⟩
        have hfilt := filter_ix fs ⟨0, 0, 0, 0, 0⟩ fun f => !decide (f.key = (b, c, t, o))
        simp only [List.length_map, hql] at hl4 hqs'
        have hlf : (fs.filter fun f => !decide (f.key = (b, c, t, o))).length ≤ fs.length := List.length_filter_le _ _
        have hl4' : qs'.length = (fs.filter fun f => !decide (f.key = (b, c, t, o))).length := by rw [hfilt, List.length_map]; simpa using hl4
        have s14 := Same.tr s12 s4
        refine ⟨_, rfl, _, rfl, _, rfl, _, rfl, cut_oN (s14 _ _ hk) ?_⟩
        intro r5 H5 s5 h5
        refine ⟨_, rfl, big1000 (by simp), fun r6 hr6 => ?_⟩
        have s6 : Same H5 (upd H5 r6 (.tup [.int v])) := sameUpd hr6
        refine cat_ok (s6 _ _ h5) upd_same (by simp [cutV, knobV, HT.sIx]) fun r7 H7 s7 h7 => ?_
        have h7' : H7 r7 = some (.tup (fdV ⟨b, c, t, o, v⟩)) := by rw [h7]; rfl
        refine ⟨big1000 (by simp), fun l8 hl8 => ?_⟩
        have s8 : Same H7 (upd H7 l8 (.lst [.ref r7])) := sameUpd hl8
        have s48 := Same.tr s5 (Same.tr s6 (Same.tr s7 s8))
        refine ⟨D2, l8, _, _, rfl, rfl, s48 _ _ hy, upd_same, (by rw [List.length_map, hl4', sizeLine_eq]; simp; omega), fun l9 hl9 => ?_⟩
        have s9 := sameUpd (o := .lst (qs'.map V.ref ++ [.ref r7])) hl9
        have s49 := Same.tr s48 s9
        have s19 := Same.tr s14 s49
        have td9 : Told (upd (upd H7 l8 (.lst [.ref r7])) l9 (.lst (qs'.map V.ref ++ [.ref r7]))) la l9 (W.turn (.feed b c t o) v) ps (qs' ++ [r7]) (Pm.tfs fs (b, c, t, o) v) := by
          refine ⟨s49 _ _ (s4 _ _ td.a), by rw [upd_same, List.map_append]; rfl, td.bk.same (Same.tr s4 s49), tfs_perm td.pm _ v, ?_, fun i q f e e2 => ?_⟩
          · unfold Pm.tfs
            rw [List.length_append, List.length_append, hl4']; rfl
          · unfold Pm.tfs at e2
            by_cases hil : i < qs'.length
            · rw [List.getElem?_append_left hil] at e
              rw [List.getElem?_append_left (by omega), hfilt, List.getElem?_map] at e2
              obtain ⟨i', e3, h3⟩ := hqs' i q e
              rw [e3] at e2
              simp only [Option.map_some, Option.some.injEq] at e2
              rw [← e2]
              exact s49 _ _ h3
            · have hie : i = qs'.length := by have := get_lt e; simp at this; omega
              subst hie
              rw [List.getElem?_append_right (Nat.le_refl _)] at e
              rw [hl4', List.getElem?_append_right (Nat.le_refl _)] at e2
              simp at e e2
              subst e e2
              exact s9 _ _ (s8 _ _ h7')
        refine fun x dx hx hdx hne => ⟨x, la, l9, W.turn (.feed b c t o) v, ps, qs' ++ [r7], Pm.tfs fs (b, c, t, o) v, dx, rfl, tok, ?_, upd_same, fun H10 s10 hw => ⟨rfl, _, rfl, big1000 (by simp), newT fun r11 H11 _ s11 h11 => ?_⟩⟩
        · exact (td9.same (mk_same hx hdx)).same hid_same
        · have sE := Same.tr s19 (Same.tr (mk_same hx hdx) (Same.tr s10 s11))
          exact kont r11 H11 x a sE h11 (hw.same s11) ⟨ss, sE _ _ ha, hsl, hss.same sE⟩
end
end WB


namespace WB
open PySem L2
/-! ### a sight as it stands -/
def hiV : Option Int → V
  | none => .non | some h => .int h
def sightF (kk : Addr) (v : Int) (pw a l d : Addr) (hi : Option Int) : List (Str × V) := [("knob", .ref kk), ("value", .int v), ("wont", .ref pw), ("stand", .ref a), ("slopes", .ref l), ("more", .ref d), ("high", hiV hi)]
structure SF (K : PySem.W.Frag) (cS : Addr) : Prop where
  cls : Cls K cS
  knob : NoAttr K cS "knob"
  value : NoAttr K cS "value"
  wont : NoAttr K cS "wont"
  stand : NoAttr K cS "stand"
  slopes : NoAttr K cS "slopes"
  more : NoAttr K cS "more"
  high : NoAttr K cS "high"
structure SgB (cW : Addr) (B : Hp) (W : Pm.Wd) (k : Pm.Knob) (v : Int) (kk pw l : Addr) : Prop where
  kn : KnobAt B kk k
  wt : WontAt cW B pw (W.turn k v)
  sl : SlpsAt B l (slopesL W k)
def MoreAt (H : Hp) (d : Addr) (n : Nat) (f : Nat → Nat → Int) : Prop := ∃ mk, H d = some (.dT mk) ∧ mk.length ≤ n ∧ ∀ x o : Nat, (valV mk [Sum.inl (x : Int), Sum.inl (o : Int)]).getD (.int 0) = .int (f x o)
structure SightAt (cW cS : Addr) (H : Hp) (p d dx : Addr) (W : Pm.Wd) (st0 : Pm.Stand) (k : Pm.Knob) (v : Int) (t : Nat) (kk pw a l : Addr) (hi : Option Int) : Prop where
  ex : ∃ B, Same B H ∧ B p = none ∧ B d = none ∧ SgB cW B W k v kk pw l
  st : StAt H a W.nb W.sz ((Pm.sys W st0 k).st v t)
  ins : H p = some (.ins cS dx (sightF kk v pw a l d hi))
  mo : MoreAt H d (5 * t + 1) ((Pm.sys W st0 k).sl v t)
def hid2 (p d : Addr) (H : Hp) : Hp := hid d (hid p H)
theorem hid2_same {p d : Addr} {H : Hp} : Same (hid2 p d H) H := Same.tr hid_same hid_same
theorem hid2_p {p d : Addr} {H : Hp} : hid2 p d H p = none := by
  unfold hid2 hid
  by_cases h : p = d <;> simp [h]
theorem hid2_d {p d : Addr} {H : Hp} : hid2 p d H d = none := hid_none
theorem hid2_at {p d b : Addr} {H : Hp} {o : HO} (h : H b = some o) (h1 : b ≠ p) (h2 : b ≠ d) : hid2 p d H b = some o := hid_at (hid_at h h1) h2
theorem hid2_of {p d : Addr} {B H : Hp} (s : Same B H) (h1 : B p = none) (h2 : B d = none) : Same B (hid2 p d H) := fun b o e => hid2_at (s _ _ e) (ne_of_none e h1) (ne_of_none e h2)
theorem sys_turn {W : Pm.Wd} {st0 : Pm.Stand} {k : Pm.Knob} {v : Int} : (Pm.sys W st0 k).M v = fun J t o => Pm.sumTo (fun b => (W.turn k v).mv b (J b) t o) W.nb := rfl
def spSnarrow (K : PySem.W.Frag) (cW cS : Addr) : Sp := fun vs H Q _ => ∃ (p : Addr) (lead slope : Int) (dx kk : Addr) (v : Int) (pw a l d : Addr) (hi : Option Int), vs = [.ref p, .int lead, .int slope] ∧ H p = some (.ins cS dx (sightF kk v pw a l d hi)) ∧ -1000000 < slope ∧ Q .non (upd H p (.ins cS dx (sightF kk v pw a l d (Pm.hiO v hi (lead, slope)))))
def spSinit (K : PySem.W.Frag) (cW cS : Addr) : Sp := fun vs H Q _ => ∃ (p pw a kk : Addr) (v : Int) (dx : Addr) (W : Pm.Wd) (st0 : Pm.Stand) (k : Pm.Knob), vs = [.ref p, .ref pw, .ref a, .ref kk, .int v] ∧ WontAt cW H pw W ∧ StAt H a W.nb W.sz st0 ∧ KnobAt H kk k ∧ k.ok W ∧ (Pm.isStr k = true ∨ Pm.Amt v) ∧ H p = some (.ins cS dx []) ∧ ∀ H' d pw' a' l, Same (hid p H) H' → H d = none → SightAt cW cS H' p d dx W st0 k v 0 kk pw' a' l none → Q .non H'
theorem RowsAt.hideI {H : Hp} {p : Addr} {ps : List Addr} {sz : Nat → Nat} {f : Nat → Nat → Int} {o : HO} (hp : H p = some o) (ho : ∀ xs, o ≠ .tup xs) (h : RowsAt H ps sz f) : RowsAt (hid p H) ps sz f := fun b q e => hid_ne hp (h b q e) (ho _).symm
theorem StAt.hideI {H : Hp} {p a : Addr} {n : Nat} {sz : Nat → Nat} {f : Nat → Nat → Int} {o : HO} (hp : H p = some o) (ho : ∀ xs, o ≠ .tup xs) (h : StAt H a n sz f) : StAt (hid p H) a n sz f := let ⟨ps, h1, h2, h3⟩ := h; ⟨ps, hid_ne hp h1 (ho _).symm, h2, h3.hideI hp ho⟩
theorem BookAt.hideI {H : Hp} {p q : Addr} {W : Pm.Wd} {b : Nat} {o : HO} (hp : H p = some o) (ho : ∀ xs, o ≠ .tup xs) (ho2 : ∀ ob u, o ≠ .frz ob u) (h : BookAt H q W b) : BookAt (hid p H) q W b := let ⟨x, g, w, h1, h2, h3, h4⟩ := h; ⟨x, g, w, hid_ne hp h1 (ho _).symm, h2.hide hp ho2, hid_ne hp h3 (ho _).symm, hid_ne hp h4 (ho _).symm⟩
theorem WontAt.hideI {cW C dx : Addr} {H : Hp} {p q : Addr} {W : Pm.Wd} {fs : List (Str × V)} (hp : H p = some (.ins C dx fs)) (hf : ∀ a b c d e, fs ≠ wontF a b c d e) (h : WontAt cW H q W) : WontAt cW (hid p H) q W := by
  obtain ⟨ok, dx', tb, tl, d, m, r, ps, rs, gs, mk, h1, h2⟩ := h
  refine ⟨ok, dx', tb, tl, d, m, r, ps, rs, gs, mk, hid_ne hp h1 (fun z => by injection z with _ _ z; exact hf _ _ _ _ _ z.symm), hid_ne hp h2.tb (by simp), ⟨h2.bk.1, fun b q e => (h2.bk.2 b q e).hideI hp (by simp) (by simp)⟩, hid_ne hp h2.tl (by simp), hid_ne hp h2.d (by simp), h2.pm, hid_ne hp h2.m (by simp), fun b c hb hc => ?_, hid_ne hp h2.r (by simp), ⟨h2.rk.1, fun b q e => ?_⟩⟩
  · obtain ⟨l, ts, x1, x2, x3, x4⟩ := h2.mv b c hb hc
    exact ⟨l, ts, x1, hid_ne hp x2 (by simp), x3, x4.hideI hp (by simp)⟩
  · obtain ⟨kvs, x1, x2⟩ := h2.rk.2 b q e
    exact ⟨kvs, hid_ne hp x1 (by simp), x2⟩
theorem SlpsAt.hideI {H : Hp} {p a C dx : Addr} {l : List Slp} {fs : List (Str × V)} (hp : H p = some (.ins C dx fs)) (h : SlpsAt H a l) : SlpsAt (hid p H) a l := let ⟨qs, h1, h2, h3⟩ := h; ⟨qs, hid_ne hp h1 (by simp), h2, fun i q s e e' => let ⟨g, t, x, y, z⟩ := h3 i q s e e'; ⟨g, t, hid_ne hp x (by simp), hid_ne hp y (by simp), hid_ne hp z (by simp)⟩⟩
theorem hiO_n {v lead slope : Int} (h : slope < 0) : Pm.hiO v none (lead, slope) = some (v + lead / -slope) := by unfold Pm.hiO; rw [if_pos h]
theorem hiO_s {v lead slope m : Int} (h : slope < 0) : Pm.hiO v (some m) (lead, slope) = some (min m (v + lead / -slope)) := by unfold Pm.hiO; rw [if_pos h]
theorem upd_id {H : Hp} {p : Addr} {o : HO} (h : H p = some o) : upd H p o = H := by
  funext b
  by_cases hb : b = p
  · subst hb; rw [upd_same, h]
  · rw [upd_ne hb]
section
variable {P : Program} {w : World} {K : PySem.W.Frag} {mg : Str → Option Value} {base : Heap} {cW cS dW : Addr}
abbrev sSnarrow : Stmt := inClass (top 42) 1
theorem scSnarrow : FnScope ["self", "lead", "slope", "most"] ["self", "lead", "slope"] (defScope sSnarrow) := ⟨rfl, rfl, rfl, by decide +kernel, rfl, by decide +kernel, by decide +kernel⟩
theorem ok_Snarrow {f : Addr} {fd : FuncData} (F : Fun K "narrow" "Sight.narrow" sSnarrow f fd) (T : NoG mg) (hS : SF K cS)  : FnOk P w K mg base CX0 1 f fd ["self", "lead", "slope"] (spSnarrow K cW cS) := by
  refine F.ok scSnarrow (fun vs H Q E h => ?_) (fun cdv A outer s H vs Q E hr h => ?_)
  · repeat (first | (obtain ⟨rfl, _⟩ := h; rfl) | (obtain ⟨_, h⟩ := h))
  · obtain ⟨p, lead, slope, dx, kk, v, pw, a, l, d, hi, rfl, hp, hb, k⟩ := h
    refine ⟨_, (pss_one (ps_if (pt_cmpR op_lt (pv 2) pe_int (nomark _)) (pss_cons (ps_set (i := 3) scSnarrow.nd rfl (Or.inl rfl) (pe_op op_add (pe_fld (pv 0) rfl) (pe_op op_fdiv (pv 1) (pe_un un_neg (pv 2)))))
          (pss_one (ps_fld (pv 0) (pe_ifExp (pt_cmp (pc_isN (pe_fld (pv 0) rfl))) (pv 3) (pe_callB (call_min2 rfl) (by rfl) T.min (by decide +kernel) (pa_cons (pe_fld (pv 0) rfl) (pa_cons (pv 3) pa_nil)))) rfl))) pss_nil)), ?_⟩
    refine ⟨_, rfl, _, _, rfl, rfl, _, rfl, ite2 (fun e => ?_) (fun e => ?_)⟩
    · have e1 : slope < 0 := of_decide_eq_true e
      refine ⟨_, rfl, _, _, _, _, _, rfl, hp, hS.cls, hS.value, rfl, _, rfl, _, rfl, _, rfl, _, _, rfl, rfl, ⟨by omega, by omega⟩, _, _, rfl, rfl, ?_⟩
      cases hi with
      | none =>
        rw [hiO_n e1] at k
        refine ⟨_, rfl, _, _, _, _, _, rfl, hp, hS.cls, hS.high, rfl, _, rfl, iteT ⟨_, rfl, _, rfl, p, cS, dx, _, rfl, hp, hS.cls, hS.high, by simp [sightF], k⟩⟩
      | some h =>
        rw [hiO_s e1] at k
        refine ⟨_, rfl, _, _, _, _, _, rfl, hp, hS.cls, hS.high, rfl, _, rfl, iteF ⟨_, rfl, _, _, _, _, _, rfl, hp, hS.cls, hS.high, rfl, _, rfl, _, _, rfl, _, rfl, p, cS, dx, _, rfl, hp, hS.cls, hS.high, by simp [sightF], ?_⟩⟩
        have : (if v + lead / -slope < h then v + lead / -slope else h) = min h (v + lead / -slope) := by split <;> omega
        dsimp only
        rw [this]
        exact k
    · have e1 : ¬ slope < 0 := fun z => e (decide_eq_true z)
      have hk : Pm.hiO v hi (lead, slope) = hi := by unfold Pm.hiO; rw [if_neg e1]
      rw [hk, upd_id hp] at k
      exact k
abbrev sSinit : Stmt := inClass (top 42) 0
theorem scSinit : FnScope ["self", "wont", "stand", "knob", "value"] ["self", "wont", "stand", "knob", "value"] (defScope sSinit) := ⟨rfl, rfl, rfl, by decide +kernel, rfl, by decide +kernel, by decide +kernel⟩
theorem ok_Sinit {f : Addr} {fd : FuncData} (F : Fun K "__init__" "Sight.__init__" sSinit f fd) (T : NoG mg) (hS : SF K cS) (c_turned_to : Cal P w K mg base CX0 8 "turned_to" ["wont", "stand", "knob", "value"] (spTurnedTo K cW cS)) (c_slopes_of : Cal P w K mg base CX0 2 "slopes_of" ["wont", "knob"] (spSlopesOf K cW cS)) : FnOk P w K mg base CX0 9 f fd ["self", "wont", "stand", "knob", "value"] (spSinit K cW cS) := by
  refine F.ok scSinit (fun vs H Q E h => ?_) (fun cdv A outer s H vs Q E hr h => ?_)
  · repeat (first | (obtain ⟨rfl, _⟩ := h; rfl) | (obtain ⟨_, h⟩ := h))
  · obtain ⟨p, pw, a, kk, v, dx, W, st0, k, rfl, hWt, hst, hk, hok, hv, hp, kont⟩ := h
    refine ⟨_, (pss_cons (ps_fld (pv 0) (pv 3) rfl)
      (pss_cons (ps_fld (pv 0) (pv 4) rfl)
      (pss_cons (ps_asg (pe_cal c_turned_to (hr.mono (by decide)) pass0 (pa_cons (pv 1) (pa_cons (pv 2) (pa_cons (pv 3) (pa_cons (pv 4) pa_nil))))) (pg_tup (n := 2) rfl (pgs_cons (pg_fld (pv 0)) (pgs_cons (pg_fld (pv 0)) pgs_nil))))
      (pss_cons (ps_fld (pv 0) (pe_cal c_slopes_of (hr.mono (by decide)) pass0 (pa_cons (pv 1) (pa_cons (pv 3) pa_nil))) rfl)
      (pss_cons (ps_fld (pv 0) pe_dnewT rfl)
      (pss_cons (ps_if (pt_cmpR op_eq (pe_ix ix_tup (pv 3) pe_int (fun _ _ => rfl)) pe_str (nomark _)) (pss_one (ps_dput (hu_of hr) (pe_fld (pv 0) rfl) (pe_slice sl_tupA (pv 3) (po_some pe_int) po_none) pe_int rfl)) pss_nil)
      (pss_one (ps_fld (pv 0) pe_non rfl)))))))), ?_⟩
    have p0 : H p = some (.ins cS dx []) := hp
    refine ⟨_, rfl, _, rfl, p, cS, dx, _, rfl, p0, hS.cls, hS.knob, by simp, ?_⟩
    obtain ⟨H1, e1, g1, p1, k1⟩ := setp (o := .ins cS dx (putF "knob" (.ref kk) [])) (hid_same (p := p) (H := H)) (hid_none (p := p))
    rw [e1]
    have p1 : H1 p = some (.ins cS dx [("knob", .ref kk)]) := p1
    refine ⟨_, rfl, _, rfl, p, cS, dx, _, rfl, p1, hS.cls, hS.value, by simp, ?_⟩
    obtain ⟨H2, e2, g2, p2, k2⟩ := setp (o := .ins cS dx (putF "value" (.int v) [("knob", .ref kk)])) g1 (hid_none (p := p))
    rw [e2]
    have p2 : H2 p = some (.ins cS dx [("knob", .ref kk), ("value", .int v)]) := p2
    -- the base, without p
    have w0 : WontAt cW (hid p H) pw W := hWt.hideI hp (by simp [wontF])
    have st00 : StAt (hid p H) a W.nb W.sz st0 := hst.hideI hp (by simp)
    have kn0 : KnobAt (hid p H) kk k := hid_ne hp hk (by simp)
    refine ⟨_, rfl, _, rfl, _, rfl, _, rfl, pw, W, a, kk, st0, k, v, rfl, w0.same g2, st00.same g2, g2 _ _ kn0, hok, hv, fun r H3 pw' a' s3 h3 w3 st3 => ?_⟩
    have p3 := s3 _ _ p2
    have g3 := Same.tr g2 s3
    refine ⟨r, _, rfl, SqT.of h3, rfl, _, _, rfl, _, rfl, p, cS, dx, _, rfl, p3, hS.cls, hS.wont, by simp, ?_⟩
    obtain ⟨H4, e4, g4, p4, k4⟩ := setp (o := .ins cS dx (putF "wont" (.ref pw') [("knob", .ref kk), ("value", .int v)])) g3 (hid_none (p := p))
    rw [e4]
    have p4 : H4 p = some (.ins cS dx [("knob", .ref kk), ("value", .int v), ("wont", .ref pw')]) := p4
    refine ⟨_, _, rfl, _, rfl, p, cS, dx, _, rfl, p4, hS.cls, hS.stand, by simp, rfl, ?_⟩
    obtain ⟨H5, e5, g5, p5, k5⟩ := setp (o := .ins cS dx (putF "stand" (.ref a') [("knob", .ref kk), ("value", .int v), ("wont", .ref pw')])) g4 (hid_none (p := p))
    rw [e5]
    have p5 : H5 p = some (.ins cS dx [("knob", .ref kk), ("value", .int v), ("wont", .ref pw'), ("stand", .ref a')]) := p5
    -- all that was made stands in H5 without p
    have b35 : Same (hid p H3) (hid p H5) := fun b o e => by
      have hbp : b ≠ p := ne_of_none e hid_none
      have := hid_same _ _ e
      exact hid_at (k5 _ _ (k4 _ _ this hbp) hbp) hbp
    have w5 : WontAt cW (hid p H5) pw' (W.turn k v) := (w3.hideI p3 (by simp [wontF])).same b35
    have st5 : StAt (hid p H5) a' W.nb W.sz (Pm.turnS st0 k v) := (st3.hideI p3 (by simp)).same b35
    have g05 : Same (hid p H) (hid p H5) := fun b o e => hid_at (g5 _ _ e) (ne_of_none e hid_none)
    refine ⟨_, rfl, _, rfl, pw, W, kk, k, rfl, w0.same g5, g5 _ _ kn0, hok, fun l H6 s6 sl6 => ?_⟩
    have p6 := s6 _ _ p5
    refine ⟨_, rfl, p, cS, dx, _, rfl, p6, hS.cls, hS.slopes, by simp, ?_⟩
    obtain ⟨H7, e7, g7, p7, k7⟩ := setp (o := .ins cS dx (putF "slopes" (.ref l) [("knob", .ref kk), ("value", .int v), ("wont", .ref pw'), ("stand", .ref a')])) (Same.tr g5 s6) (hid_none (p := p))
    rw [e7]
    have p7 : H7 p = some (.ins cS dx [("knob", .ref kk), ("value", .int v), ("wont", .ref pw'), ("stand", .ref a'), ("slopes", .ref l)]) := p7
    have b57 : Same (hid p H5) (hid p H7) := fun b o e => by
      have hbp : b ≠ p := ne_of_none e hid_none
      exact hid_at (k7 _ _ (s6 _ _ (hid_same _ _ e)) hbp) hbp
    have sl7 : SlpsAt (hid p H7) l (slopesL W k) := (sl6.hideI p6).same fun b o e => by
      have hbp : b ≠ p := ne_of_none e hid_none
      exact hid_at (k7 _ _ (hid_same _ _ e) hbp) hbp
    intro d hd
    have hdp : d ≠ p := (ne_of_none p7 hd).symm
    have sd : Same H7 (upd H7 d (.dT [])) := sameUpd hd
    refine ⟨_, rfl, p, cS, dx, _, rfl, sd _ _ p7, hS.cls, hS.more, by simp, ?_⟩
    obtain ⟨H8, e8, g8, p8, k8⟩ := setp (o := .ins cS dx (putF "more" (.ref d) [("knob", .ref kk), ("value", .int v), ("wont", .ref pw'), ("stand", .ref a'), ("slopes", .ref l)])) (Same.tr g7 sd) (hid_none (p := p))
    rw [e8]
    have p8 : H8 p = some (.ins cS dx [("knob", .ref kk), ("value", .int v), ("wont", .ref pw'), ("stand", .ref a'), ("slopes", .ref l), ("more", .ref d)]) := p8
    have d8 : H8 d = some (.dT []) := k8 _ _ upd_same hdp
    have b78 : Same (hid p H7) H8 := fun b o e => k8 _ _ (sd _ _ (hid_same _ _ e)) (ne_of_none e hid_none)
    have bn : hid p H7 d = none := by unfold hid; rw [if_neg hdp]; exact hd
    have sg : SgB cW (hid p H7) W k v kk pw' l := ⟨b57 _ _ (g05 _ _ kn0), w5.same b57, sl7⟩
    have hd0 : H d = none := by
      cases e : H d with
      | none => rfl
      | some o => have := g7 _ _ (hid_at e hdp); rw [hd] at this; cases this
    -- the first entry of more
    have fin : ∀ H9, Same (hid p H7) H9 → Same (hid p H) H9 → H9 p = some (.ins cS dx [("knob", .ref kk), ("value", .int v), ("wont", .ref pw'), ("stand", .ref a'), ("slopes", .ref l), ("more", .ref d)]) → MoreAt H9 d 1 (fun x o => if Pm.isStr k = true ∧ (x, o) = k.tk then 1 else 0) →
        Q .non (upd H9 p (.ins cS dx (sightF kk v pw' a' l d none))) := fun H9 s79 s09 p9 m9 => by
      refine kont _ d pw' a' l (sameW s09 hid_none) hd0 ⟨⟨hid p H7, sameW s79 hid_none, hid_none, bn, sg⟩, (st5.same b57).same (sameW s79 hid_none), upd_same, ?_⟩
      obtain ⟨mk, m1, m2, m3⟩ := m9
      exact ⟨mk, (upd_ne hdp).trans m1, m2, m3⟩
    have tst : ∀ z : V, (∃ r, (knobV k)[0]? = some (V.str r) ∧ z = V.str r) → (decide (z = V.str "strength") = Pm.isStr k) := fun z ⟨r, e, hz⟩ => by
      subst hz
      cases k <;> cases e <;> first | exact strT | exact strF (by decide)
    have hk8 : H8 kk = some (.tup (knobV k)) := g8 _ _ kn0
    have h0 : ∃ r, (knobV k)[0]? = some (V.str r) := by cases k <;> exact ⟨_, rfl⟩
    obtain ⟨r0, h0⟩ := h0
    refine ⟨_, rfl, _, _, 0, _, rfl, rfl, SqT.of hk8, atI_nat h0, ?_, _, rfl, ?_⟩
    · cases k <;> cases h0 <;> rfl
    rw [tst _ ⟨r0, h0, rfl⟩]
    cases k with
    | str b c =>
      refine iteT ⟨_, rfl, _, _, _, _, _, rfl, p8, hS.cls, hS.more, rfl, _, rfl, _, rfl, ?_⟩
      dsimp only [tNoPart]
      refine cut_ok hk8 ?_
      intro r9 H9 s9 h9
      have h9' : H9 r9 = some (.tup (([Sum.inl (b : Int), Sum.inl (c : Int)] : List Key).map kV)) := by rw [h9]; rfl
      refine ⟨d, _, rfl, DPut.t (s9 _ _ d8) h9' (small1000 (by simp)), ?_⟩
      refine ⟨_, rfl, p, cS, dx, _, rfl, (upd_ne hdp.symm).trans (s9 _ _ p8), hS.cls, hS.high, by simp, ?_⟩
      refine fin _ (sameW (Same.tr b78 s9) bn) (sameW (Same.tr g8 s9) (by unfold hid; rw [if_neg hdp]; exact hd0)) ((upd_ne hdp.symm).trans (s9 _ _ p8)) ⟨_, upd_same, by simp [putK], fun x o => ?_⟩
      rw [valV_put]
      by_cases hxo : x = b ∧ o = c
      · obtain ⟨rfl, rfl⟩ := hxo
        rw [if_pos rfl]
        simp [Pm.isStr, Pm.Knob.tk]
      · rw [if_neg (by intro z; simp at z; omega)]
        have : ¬ ((x, o) = (b, c)) := fun z => hxo (by simpa using z)
        simp [Pm.isStr, Pm.Knob.tk, this, valV]
    | _ =>
      refine iteF ⟨_, rfl, p, cS, dx, _, rfl, p8, hS.cls, hS.high, by simp, ?_⟩
      exact fin _ b78 g8 p8 ⟨[], d8, by simp, fun x o => by simp [valV, Pm.isStr]⟩
end
end WB


namespace WB
open PySem L2
theorem by_bound (k : Pm.Knob) (j : Nat) : -1 ≤ k.by' j ∧ k.by' j ≤ 1 := by
  cases k <;> (simp only [Pm.Knob.by']; first | (split <;> omega) | omega)
theorem sl_bound (W : Pm.Wd) (st0 : Pm.Stand) (k : Pm.Knob) (v : Int) : ∀ (t x o : Nat), -((t : Int) + 1) ≤ (Pm.sys W st0 k).sl v t x o ∧ (Pm.sys W st0 k).sl v t x o ≤ (t : Int) + 1
  | 0, x, o => by
    show _ ≤ (if Pm.isStr k = true ∧ (x, o) = k.tk then (1 : Int) else 0) ∧ (if Pm.isStr k = true ∧ (x, o) = k.tk then (1 : Int) else 0) ≤ _
    split <;> simp
  | t + 1, x, o => by
    have ih := sl_bound W st0 k v t x o
    show _ ≤ (Pm.sys W st0 k).sl v t x o + (if (x, o) = k.tk then k.by' ((Pm.sys W st0 k).J ((Pm.sys W st0 k).st v t) k.b) else 0) ∧ (Pm.sys W st0 k).sl v t x o + (if (x, o) = k.tk then k.by' ((Pm.sys W st0 k).J ((Pm.sys W st0 k).st v t) k.b) else 0) ≤ _
    have := by_bound k ((Pm.sys W st0 k).J ((Pm.sys W st0 k).st v t) k.b)
    split <;> omega
/-- what some slopes add -/
def accS (l : List Slp) (J : Nat → Nat) (x o : Nat) : Int := ((l.filter fun s => decide (J s.1.1 = s.1.2 ∧ s.2.1 = (x, o))).map (·.2.2)).sum
theorem accS_nil (J : Nat → Nat) (x o : Nat) : accS [] J x o = 0 := rfl
theorem accS_snoc (l : List Slp) (s : Slp) (J : Nat → Nat) (x o : Nat) : accS (l ++ [s]) J x o = accS l J x o + if J s.1.1 = s.1.2 ∧ s.2.1 = (x, o) then s.2.2 else 0 := by
  unfold accS
  rw [List.filter_append, List.map_append, List.sum_append]
  congr 1
  by_cases h : J s.1.1 = s.1.2 ∧ s.2.1 = (x, o)
  · rw [if_pos h]; simp [h]
  · rw [if_neg h]; simp only [List.filter_cons, decide_eq_true_eq, if_neg h]; rfl
theorem accS_wane (b c : Nat) (J : Nat → Nat) (x o : Nat) : ∀ n, accS (((List.range n).filter fun o => !decide (o = c)).map fun o => ((b, o), (b, c), (-1 : Int))) J x o = if (x, o) = (b, c) ∧ J b < n ∧ J b ≠ c then -1 else 0
  | 0 => by rw [if_neg (by omega)]; rfl
  | n + 1 => by
    rw [List.range_succ, List.filter_append, List.map_append]
    have ih := accS_wane b c J x o n
    by_cases hn : n = c
    · subst hn
      simp only [List.filter_cons, decide_true, Bool.not_true, Bool.false_eq_true, if_false, List.filter_nil, List.map_nil, List.append_nil]
      rw [ih]
      by_cases h : (x, o) = (b, n) ∧ J b < n ∧ J b ≠ n
      · rw [if_pos h, if_pos ⟨h.1, by omega, h.2.2⟩]
      · rw [if_neg h, if_neg (fun z => h ⟨z.1, by have := z.2.1; have := z.2.2; omega, z.2.2⟩)]
    · have : (([n] : List Nat).filter fun o => !decide (o = c)).map (fun o => ((b, o), (b, c), (-1 : Int))) = [((b, n), (b, c), (-1 : Int))] := by simp [hn]
      rw [this, accS_snoc, ih]
      by_cases h1 : (x, o) = (b, c)
      · by_cases h2 : J b = n
        · rw [if_neg (by omega), if_pos ⟨h2, h1.symm⟩, if_pos ⟨h1, by omega, by omega⟩]; rfl
        · rw [if_neg (fun z : J b = n ∧ _ => h2 z.1)]
          by_cases h3 : J b < n ∧ J b ≠ c
          · rw [if_pos ⟨h1, h3⟩, if_pos ⟨h1, by omega, h3.2⟩]; rfl
          · rw [if_neg (fun z => h3 z.2), if_neg (fun z => h3 ⟨by omega, z.2.2⟩)]; rfl
      · rw [if_neg (fun z => h1 z.1), if_neg (fun z => h1 z.2.symm), if_neg (fun z => h1 z.1)]; rfl
theorem accS_all (W : Pm.Wd) (k : Pm.Knob) (J : Nat → Nat) (hJ : J k.b < W.sz k.b) (x o : Nat) : accS (slopesL W k) J x o = if (x, o) = k.tk then k.by' (J k.b) else 0 := by
  cases k with
  | str b c =>
    show accS [] J x o = if (x, o) = (b, c) then (0 : Int) else 0
    rw [accS_nil]; split <;> rfl
  | gain b c =>
    show accS ([] ++ [((b, c), (b, c), (1 : Int))]) J x o = if (x, o) = (b, c) then (if J b = c then (1 : Int) else 0) else 0
    rw [accS_snoc, accS_nil, Int.zero_add]
    by_cases h1 : (x, o) = (b, c)
    · by_cases h2 : J b = c
      · rw [if_pos ⟨h2, h1.symm⟩, if_pos h1, if_pos h2]
      · rw [if_neg (fun z => h2 z.1), if_pos h1, if_neg h2]
    · rw [if_neg (fun z => h1 z.2.symm), if_neg h1]
  | wane b c =>
    show accS (((List.range (W.sz b)).filter fun o => !decide (o = c)).map fun o => ((b, o), (b, c), (-1 : Int))) J x o = if (x, o) = (b, c) then ((if J b = c then (1 : Int) else 0) - 1) else 0
    rw [accS_wane]
    have hJ' : J b < W.sz b := hJ
    by_cases h1 : (x, o) = (b, c)
    · by_cases h2 : J b = c
      · rw [if_neg (fun z => z.2.2 h2), if_pos h1, if_pos h2]; rfl
      · rw [if_pos ⟨h1, hJ', h2⟩, if_pos h1, if_neg h2]; rfl
    · rw [if_neg (fun z => h1 z.1), if_neg h1]
  | feed b c t o' =>
    show accS ([] ++ [((b, c), (t, o'), (1 : Int))]) J x o = if (x, o) = (t, o') then (if J b = c then (1 : Int) else 0) else 0
    rw [accS_snoc, accS_nil, Int.zero_add]
    by_cases h1 : (x, o) = (t, o')
    · by_cases h2 : J b = c
      · rw [if_pos ⟨h2, h1.symm⟩, if_pos h1, if_pos h2]
      · rw [if_neg (fun z => h2 z.1), if_pos h1, if_neg h2]
    · rw [if_neg (fun z => h1 z.2.symm), if_neg h1]
theorem slp_len (W : Pm.Wd) (k : Pm.Knob) (h1 : 0 < W.sz k.b) : (slopesL W k).length ≤ W.sz k.b := by
  cases k with
  | wane b c =>
    have := List.length_filter_le (fun o => !decide (o = c)) (List.range (W.sz b))
    show (List.map _ _).length ≤ W.sz b
    rw [List.length_map]
    rw [List.length_range] at this
    omega
  | str b c => simp [slopesL]
  | _ => exact h1
theorem slp_ok {W : Pm.Wd} {k : Pm.Knob} (h : k.ok W) : ∀ s ∈ slopesL W k, s.1.1 < W.nb := by
  cases k with
  | str b c => simp [slopesL]
  | gain b c => intro s hs; simp [slopesL] at hs; subst hs; exact h.1
  | wane b c =>
    intro s hs
    obtain ⟨o, _, rfl⟩ := List.mem_map.mp hs
    exact h.1
  | feed b c t o => intro s hs; simp [slopesL] at hs; subst hs; exact h.1
def spSbeat (K : PySem.W.Frag) (cW cS : Addr) : Sp := fun vs H Q _ => ∃ (p d dx : Addr) (W : Pm.Wd) (st0 : Pm.Stand) (k : Pm.Knob) (v : Int) (t : Nat) (kk pw a l : Addr) (hi : Option Int), vs = [.ref p] ∧ k.ok W ∧ W.Ok ∧ t ≤ 100 ∧ SightAt cW cS H p d dx W st0 k v t kk pw a l hi ∧
  ∀ r H' a', Same (hid2 p d H) H' → JtAt H' r W.nb ((Pm.sys W st0 k).J ((Pm.sys W st0 k).st v t)) → StAt H' a' W.nb W.sz ((Pm.sys W st0 k).st v (t + 1)) → H' p = some (.ins cS dx (sightF kk v pw a' l d (((Pm.sys W st0 k).conT v t).foldl (Pm.hiO v) hi))) → MoreAt H' d (5 * (t + 1) + 1) ((Pm.sys W st0 k).sl v (t + 1)) → Q (.ref r) H'
def PieceAt (H : Hp) (q : Addr) (Y : Pm.Sys) (lo hi : Int) (T : Nat) : Prop := ∃ (rw : Addr) (js : List Addr), H q = some (.tup [.int lo, .int hi, .ref rw]) ∧ H rw = some (.lst (js.map V.ref)) ∧ js.length = T ∧ ∀ (t : Nat) (j : Addr), js[t]? = some j → JtAt H j Y.nb (Y.J (Y.st lo t))
theorem PieceAt.same {H H' : Hp} {q : Addr} {Y : Pm.Sys} {lo hi : Int} {T : Nat} (s : Same H H') (h : PieceAt H q Y lo hi T) : PieceAt H' q Y lo hi T := let ⟨rw, js, h1, h2, h3, h4⟩ := h; ⟨rw, js, s _ _ h1, s _ _ h2, h3, fun t j e => s _ _ (h4 t j e)⟩
def spSpiece (K : PySem.W.Frag) (cW cS : Addr) : Sp := fun vs H Q _ => ∃ (p d dx : Addr) (W : Pm.Wd) (st0 : Pm.Stand) (k : Pm.Knob) (v : Int) (kk pw a l : Addr) (T : Nat) (hi : Int), vs = [.ref p, .int (T : Nat), .int hi] ∧ k.ok W ∧ W.Ok ∧ T ≤ 100 ∧ SightAt cW cS H p d dx W st0 k v 0 kk pw a l none ∧
  ∀ r H', Same (hid2 p d H) H' → PieceAt H' r (Pm.sys W st0 k) v ((Pm.sys W st0 k).last v T hi) T → Q (.ref r) H'
section
variable {P : Program} {w : World} {K : PySem.W.Frag} {mg : Str → Option Value} {base : Heap} {cW cS dW : Addr}
abbrev sSbeat : Stmt := inClass (top 42) 2
theorem scSbeat : FnScope ["self", "joint", "book", "choice", "other", "strength", "lead", "giver", "taker", "slope"] ["self"] (defScope sSbeat) := ⟨rfl, rfl, rfl, by decide +kernel, rfl, by decide +kernel, by decide +kernel⟩
theorem ok_Sbeat {f : Addr} {fd : FuncData} (F : Fun K "beat" "Sight.beat" sSbeat f fd) (T : NoG mg) (hW : WF K cW) (hS : SF K cS) (c_joint_of : Cal P w K mg base CX0 3 "joint_of" ["wont", "stand"] (spJointOf K cW cS)) (c_summed : Cal P w K mg base CX0 1 "summed" ["one", "other"] (spSummed K cW cS)) (c_moved : Cal P w K mg base CX0 3 "moved" ["wont", "joint"] (spMoved K cW cS)) (c_Snarrow : CalM P w K mg base CX0 1 cS "narrow" ["self", "lead", "slope"] (spSnarrow K cW cS)) (c_Wis_ahead : CalM P w K mg base CX0 1 cW "is_ahead" ["self", "book", "one", "other"] (spWis_ahead K cW cS)) : FnOk P w K mg base CX0 4 f fd ["self"] (spSbeat K cW cS) := by
  refine F.ok scSbeat (fun vs H Q E h => ?_) (fun cdv A outer s H vs Q E hr h => ?_)
  · repeat (first | (obtain ⟨rfl, _⟩ := h; rfl) | (obtain ⟨_, h⟩ := h))
  · obtain ⟨p, d, dx, W, st0, k, v, t, kk, pw, a, l, hi, rfl, hok, wok, ht, hs, kont⟩ := h
    refine ⟨_, (pss_cons (ps_set (i := 1) scSbeat.nd rfl (Or.inl rfl) (pe_cal c_joint_of (hr.mono (by decide)) pass0 (pa_cons (pe_fld (pv 0) rfl) (pa_cons (pe_fld (pv 0) rfl) pa_nil))))
      (pss_cons (ps_for PassesOwn.never rfl (pi_enumM (by rfl) T.enumerate (pa_cons (pv 1) pa_nil)) (pg_tup (n := 2) rfl (pgs_cons (pg_name (i := 2) scSbeat.nd rfl (Or.inl rfl)) (pgs_cons (pg_name (i := 3) scSbeat.nd rfl (Or.inl rfl)) pgs_nil)))
        (pss_one (ps_for PassesOwn.never rfl (pi_enumM (by rfl) T.enumerate (pa_cons (pe_ix ix_tup (pe_fld (pv 0) rfl) (pv 2) (fun _ _ => rfl)) pa_nil)) (pg_tup (n := 2) rfl (pgs_cons (pg_name (i := 4) scSbeat.nd rfl (Or.inl rfl)) (pgs_cons (pg_name (i := 5) scSbeat.nd rfl (Or.inl rfl)) pgs_nil)))
            (pss_cons (ps_set (i := 6) scSbeat.nd rfl (Or.inl rfl) (pe_op op_sub (pe_op op_sub (pe_ix ix_tup (pe_ix ix_tup (pe_fld (pv 0) rfl) (pv 2) (fun _ _ => rfl)) (pv 3) (fun _ _ => rfl)) (pv 5)) (pe_callTy call_int1 (by rfl) T.int (by decide +kernel) (pa_cons (pe_mc (pe_fld (pv 0) rfl) c_Wis_ahead (hr.mono (by decide)) pass0 (pa_cons (pv 2) (pa_cons (pv 4) (pa_cons (pv 3) pa_nil)))) pa_nil))))
              (pss_one (ps_expr (pe_mc (pv 0) c_Snarrow (hr.mono (by decide)) pass0 (pa_cons (pv 6) (pa_cons (pe_op op_sub (pe_dget2 (hu_of hr) (pe_fld (pv 0) rfl) (pe_tup (pa_cons (pv 2) (pa_cons (pv 3) pa_nil))) pe_int ⟨rfl, rfl, rfl, rfl⟩) (pe_dget2 (hu_of hr) (pe_fld (pv 0) rfl) (pe_tup (pa_cons (pv 2) (pa_cons (pv 4) pa_nil))) pe_int ⟨rfl, rfl, rfl, rfl⟩)) pa_nil)))))))))
      (pss_cons (ps_for PassesOwn.never rfl (pi_list (pe_fld (pv 0) rfl)) (pg_tup (n := 3) rfl (pgs_cons (pg_name (i := 7) scSbeat.nd rfl (Or.inl rfl)) (pgs_cons (pg_name (i := 8) scSbeat.nd rfl (Or.inl rfl)) (pgs_cons (pg_name (i := 9) scSbeat.nd rfl (Or.inl rfl)) pgs_nil))))
        (pss_one (ps_if (pt_cmpR op_eq (pe_ix ix_tup (pv 1) (pe_ix ix_tup (pv 7) pe_int (fun _ _ => rfl)) (fun _ _ => rfl)) (pe_ix ix_tup (pv 7) pe_int (fun _ _ => rfl)) (nomark _)) (pss_one (ps_dput (hu_of hr) (pe_fld (pv 0) rfl) (pv 8) (pe_op op_add (pe_dget2 (hu_of hr) (pe_fld (pv 0) rfl) (pv 8) pe_int ⟨rfl, rfl, rfl, rfl⟩) (pv 9)) rfl)) pss_nil)))
      (pss_cons (ps_fld (pv 0) (pe_cal c_summed (hr.mono (by decide)) pass0 (pa_cons (pe_fld (pv 0) rfl) (pa_cons (pe_cal c_moved (hr.mono (by decide)) pass0 (pa_cons (pe_fld (pv 0) rfl) (pa_cons (pv 1) pa_nil))) pa_nil))) rfl)
      (pss_one (ps_ret (pv 1))))))), ?_⟩
    obtain ⟨⟨B, sB, Bp, Bd, sg⟩, stH, p0, mk, m1, m2, m3⟩ := hs
    have hok' := wok
    have n4 := wok.n4
    have yok := Pm.sys_ok wok (s := st0) hok
    have hdp : p ≠ d := ne_of p0 m1 (by simp)
    have wt := sg.wt
    have wtH := wt.same sB
    -- the joint
    refine ⟨_, rfl, _, _, _, _, _, rfl, p0, hS.cls, hS.wont, rfl, _, rfl, _, _, _, _, _, rfl, p0, hS.cls, hS.stand, rfl, pw, W.turn k v, a, (Pm.sys W st0 k).st v t, rfl, wtH, by rw [turn_nb, turn_sz]; exact stH, fun j H1 s1 j1 => ?_⟩
    rw [turn_nb, turn_ord] at j1
    have hj : JtAt H1 j W.nb ((Pm.sys W st0 k).J ((Pm.sys W st0 k).st v t)) := j1
    have p1 := s1 _ _ p0
    have sB1 := Same.tr sB s1
    have d1 : H1 d = some (.dT mk) := s1 _ _ m1
    have gj : hid p H1 j = some (.tup (nums W.nb fun b => (((Pm.sys W st0 k).J ((Pm.sys W st0 k).st v t) b : Nat) : Int))) := hid_ne p1 hj (by simp)
    have gd : hid p H1 d = some (.dT mk) := hid_at d1 hdp.symm
    have gB : Same B (hid p H1) := fun b o e => hid_at (sB1 _ _ e) (ne_of_none e Bp)
    have hJ : ∀ b, b < W.nb → (Pm.sys W st0 k).J ((Pm.sys W st0 k).st v t) b < W.sz b := fun b hb => yok.J_lt hb _
    have stG : StAt (hid p H1) a W.nb W.sz ((Pm.sys W st0 k).st v t) := (stH.same s1).hideI p1 (by simp)
    -- the leads
    refine ⟨_, rfl, true, j, _, rfl, SqT.of hj, for_it (walk_enumM (xs := nums W.nb fun b => (((Pm.sys W st0 k).J ((Pm.sys W st0 k).st v t) b : Nat) : Int))) (fun i σ H' => Same (hid p H1) H' ∧ H' p = some (.ins cS dx (sightF kk v pw a l d (((List.range i).flatMap ((Pm.sys W st0 k).conB v t)).foldl (Pm.hiO v) hi))) ∧ ∃ x2 x3 x4 x5 x6 x7 x8 x9, σ = [some (.ref p), some (.ref j), x2, x3, x4, x5, x6, x7, x8, x9]) ?_ ?_ ?_ ?_⟩
    · exact ⟨hid_same, p1, _, _, _, _, _, _, _, _, rfl⟩
    · rintro i σ H' _ ⟨s', _⟩; exact SqT.of (s' _ _ gj)
    · rintro i x σ H2 H3 hin ⟨s2, p2, x2, x3, x4, x5, x6, x7, x8, x9, rfl⟩ ⟨T', y1, y2, rfl, hT, rfl, e1, e2⟩
      cases e1
      obtain ⟨hib, rfl⟩ := nums_get e2
      have s3 : Same H2 (upd H2 T' (.tup [.int (i : Nat), .int ((Pm.sys W st0 k).J ((Pm.sys W st0 k).st v t) i : Nat)])) := sameUpd hT
      refine ⟨T', _, rfl, SqT.of upd_same, rfl, _, _, rfl, _, _, rfl, rfl, ?_⟩
      have gB3 := Same.tr gB (Same.tr s2 s3)
      have p3 := s3 _ _ p2
      obtain ⟨ss, ha, hsl, hss⟩ := stG
      have e : ss[i]? = some (ss[i]'(by rw [hsl]; exact hib)) := List.getElem?_eq_getElem _
      generalize ss[i]'(by rw [hsl]; exact hib) = q at e
      have hrow := hss i q e
      refine ⟨_, rfl, _, _, _, _, _, rfl, p3, hS.cls, hS.stand, rfl, _, rfl, _, _, _, _, rfl, rfl, SqT.of ((Same.tr s2 s3) _ _ ha), atI_nat (refs_at e), true, q, _, rfl, SqT.of ((Same.tr s2 s3) _ _ hrow), ?_⟩
      refine for_it (walk_enumM (xs := nums (W.sz i) ((Pm.sys W st0 k).st v t i))) (fun o σ H' => Same (hid p H1) H' ∧ H' p = some (.ins cS dx (sightF kk v pw a l d (((List.range o).map ((Pm.sys W st0 k).conO v t i)).foldl (Pm.hiO v) (((List.range i).flatMap ((Pm.sys W st0 k).conB v t)).foldl (Pm.hiO v) hi)))) ∧ ∃ x4 x5 x6 x7 x8 x9, σ = [some (.ref p), some (.ref j), some (.int (i : Nat)), some (.int ((Pm.sys W st0 k).J ((Pm.sys W st0 k).st v t) i : Nat)), x4, x5, x6, x7, x8, x9]) ?_ ?_ ?_ ?_
      · exact ⟨Same.tr s2 s3, p3, _, _, _, _, _, _, rfl⟩
      · rintro o σ H' _ ⟨s', _⟩; exact SqT.of (s' _ _ hrow)
      · rintro o x σ H4 H5 hon ⟨s4, p4, x4, x5, x6, x7, x8, x9, rfl⟩ ⟨T2, z1, z2, rfl, hT2, rfl, e3, e4⟩
        cases e3
        obtain ⟨hoz, rfl⟩ := nums_get e4
        have s5 : Same H4 (upd H4 T2 (.tup [.int (o : Nat), .int ((Pm.sys W st0 k).st v t i o)])) := sameUpd hT2
        refine ⟨T2, _, rfl, SqT.of upd_same, rfl, _, _, rfl, _, _, rfl, rfl, ?_⟩
        have g5 := Same.tr s4 s5
        have gB5 := Same.tr gB g5
        have p5 := s5 _ _ p4
        have d5 := g5 _ _ gd
        have wt5 := wt.same gB5
        obtain ⟨_, dxw, tb, tl, dw, mw, rw', psw, rsw, fsw, mkw, hpw, _⟩ := id wt5
        refine ⟨_, rfl, _, _, _, _, _, rfl, p5, hS.cls, hS.stand, rfl, _, rfl, _, _, _, _, rfl, rfl, SqT.of (g5 _ _ ha), atI_nat (refs_at e), _, rfl, _, _, _, _, rfl, rfl, SqT.of (g5 _ _ hrow), atI_nat (nums_at (hJ i hib)), _, rfl, _, _, rfl, rfl, ?_⟩
        refine ⟨_, rfl, _, _, _, _, _, rfl, p5, hS.cls, hS.wont, rfl, _, _, _, rfl, hpw, rfl, _, rfl, _, rfl, _, rfl, pw, W.turn k v, i, o, (Pm.sys W st0 k).J ((Pm.sys W st0 k).st v t) i, rfl, wt5, by rw [turn_nb]; exact hib, by rw [turn_sz]; exact hoz, by rw [turn_sz]; exact hJ i hib, .inr ⟨_, rfl, _, _, rfl, rfl, ?_⟩⟩
        refine ⟨_, rfl, p, dx, _, rfl, p5, rfl, _, rfl, _, rfl, _, _, _, _, _, rfl, p5, hS.cls, hS.more, rfl, d, rfl, .inr ⟨_, .inl d5⟩, _, rfl, _, rfl, big1000 (by simp), fun q1 hq1 => ?_⟩
        have s6 : Same _ (upd (upd H4 T2 (.tup [.int (o : Nat), .int ((Pm.sys W st0 k).st v t i o)])) q1 (.tup [.int (i : Nat), .int ((Pm.sys W st0 k).J ((Pm.sys W st0 k).st v t) i : Nat)])) := sameUpd hq1
        refine ⟨_, dget_t (k := [Sum.inl (i : Int), Sum.inl ((Pm.sys W st0 k).J ((Pm.sys W st0 k).st v t) i : Int)]) (s6 _ _ d5) upd_same rfl, ?_⟩
        refine ⟨_, rfl, _, _, _, _, _, rfl, s6 _ _ p5, hS.cls, hS.more, rfl, d, rfl, .inr ⟨_, .inl (s6 _ _ d5)⟩, _, rfl, _, rfl, big1000 (by simp), fun q2 hq2 => ?_⟩
        have s7 := sameUpd (o := .tup [.int (i : Nat), .int (o : Nat)]) hq2
        refine ⟨_, dget_t (k := [Sum.inl (i : Int), Sum.inl (o : Int)]) (s7 _ _ (s6 _ _ d5)) upd_same rfl, ?_⟩
        refine ⟨_, _, m3 _ _, m3 _ _, ?_⟩
        have b1 := sl_bound W st0 k v t i ((Pm.sys W st0 k).J ((Pm.sys W st0 k).st v t) i)
        have b2 := sl_bound W st0 k v t i o
        refine ⟨p, _, _, dx, kk, v, pw, a, l, d, _, rfl, s7 _ _ (s6 _ _ p5), by omega, ?_⟩
        refine ⟨sameW (Same.tr g5 (Same.tr s6 s7)) hid_none, ?_, _, _, _, _, _, _, rfl⟩
        rw [upd_same, List.range_succ, List.map_append, List.foldl_append]
        have e9 : ((Pm.sys W st0 k).st v t i ((Pm.sys W st0 k).J ((Pm.sys W st0 k).st v t) i) - (Pm.sys W st0 k).st v t i o - (if decide (Pm.rk ((W.turn k v).ord i) o < Pm.rk ((W.turn k v).ord i) ((Pm.sys W st0 k).J ((Pm.sys W st0 k).st v t) i)) = true then 1 else 0)) = ((Pm.sys W st0 k).conO v t i o).1 := by
          rw [turn_ord]
          show _ = Pm.lead (W.ord i) ((Pm.sys W st0 k).st v t i) ((Pm.sys W st0 k).J ((Pm.sys W st0 k).st v t) i) o
          unfold Pm.lead
          by_cases hrk : Pm.rk (W.ord i) o < Pm.rk (W.ord i) ((Pm.sys W st0 k).J ((Pm.sys W st0 k).st v t) i)
          · simp [hrk]
          · simp [hrk]
        rw [e9]
        rfl
      · rintro σ H4 ⟨s4, p4, x4, x5, x6, x7, x8, x9, rfl⟩
        rw [nums_len] at p4
        refine ⟨s4, ?_, _, _, _, _, _, _, _, _, rfl⟩
        rw [p4, List.range_succ, List.flatMap_append, List.foldl_append]
        simp only [List.flatMap_cons, List.flatMap_nil, List.append_nil]
        rfl
    · rintro σ H2 ⟨s2, p2, x2, x3, x4, x5, x6, x7, x8, x9, rfl⟩
      rw [nums_len] at p2
      have p2 : H2 p = some (.ins cS dx (sightF kk v pw a l d (((Pm.sys W st0 k).conT v t).foldl (Pm.hiO v) hi))) := p2
      -- the slopes
      have gB2 := Same.tr gB s2
      have d2 := s2 _ _ gd
      have j2 := s2 _ _ gj
      have g2d : Same B (hid d H2) := fun b o e => hid_at (gB2 _ _ e) (ne_of_none e Bd)
      have pd2 : hid d H2 p = _ := hid_at p2 hdp
      have jd2 : hid d H2 j = _ := hid_ne d2 j2 (by simp)
      obtain ⟨qs, hl, hql, hqs⟩ := sg.sl
      have hsl5 : (slopesL W k).length ≤ 5 := by have := slp_len W k (wok.s1 k.b (Pm.Knob.ok_b hok)); have := wok.s5 k.b (Pm.Knob.ok_b hok); omega
      refine ⟨_, rfl, _, _, _, _, _, rfl, p2, hS.cls, hS.slopes, rfl, l, rfl, ⟨_, SqL.of (gB2 _ _ hl)⟩, for_it (walk_list (xs := qs.map V.ref)) (fun i σ H' => Same (hid d H2) H' ∧ MoreAt H' d (5 * t + 1 + i) (fun x o => (Pm.sys W st0 k).sl v t x o + accS ((slopesL W k).take i) ((Pm.sys W st0 k).J ((Pm.sys W st0 k).st v t)) x o) ∧ ∃ x2 x3 x4 x5 x6 x7 x8 x9, σ = [some (.ref p), some (.ref j), x2, x3, x4, x5, x6, x7, x8, x9]) ?_ ?_ ?_ ?_⟩
      · refine ⟨hid_same, ⟨mk, d2, m2, fun x o => ?_⟩, _, _, _, _, _, _, _, _, rfl⟩
        dsimp only
        rw [List.take_zero, accS_nil, Int.add_zero]; exact m3 x o
      · rintro i σ H' _ ⟨s', _⟩; exact SqL.of (s' _ _ (g2d _ _ hl))
      · rintro i x σ _ H3 hin ⟨s3, ⟨mk3, n1, n2, n3⟩, x2, x3, x4, x5, x6, x7, x8, x9, rfl⟩ ⟨rfl, hx⟩
        obtain ⟨q, hq, rfl⟩ := refs_get hx
        have hil : i < (slopesL W k).length := by have := get_lt hq; omega
        have hse : (slopesL W k)[i]? = some (slopesL W k)[i] := List.getElem?_eq_getElem hil
        have htk : (slopesL W k).take (i + 1) = (slopesL W k).take i ++ [(slopesL W k)[i]] := List.take_succ_eq_append_getElem hil
        have hmem := List.mem_of_getElem? hse
        generalize (slopesL W k)[i] = sp at hse htk hmem
        obtain ⟨gg, tt, hq1, hq2, hq3⟩ := hqs i q sp hq hse
        have gB3 := Same.tr g2d s3
        have hgb : sp.1.1 < W.nb := slp_ok hok sp hmem
        have j3 := s3 _ _ jd2
        have p3 := s3 _ _ pd2
        refine ⟨q, _, rfl, SqT.of (gB3 _ _ hq1), rfl, _, _, rfl, _, _, rfl, _, _, rfl, rfl, ?_⟩
        refine ⟨_, rfl, _, rfl, _, _, _, _, rfl, rfl, SqT.of (gB3 _ _ hq2), rfl, _, _, _, _, rfl, rfl, SqT.of j3, atI_nat (nums_at hgb), _, rfl, _, _, _, _, rfl, rfl, SqT.of (gB3 _ _ hq2), rfl, rfl, _, rfl, ite2 (fun e => ?_) (fun e => ?_)⟩
        · have e1 : (Pm.sys W st0 k).J ((Pm.sys W st0 k).st v t) sp.1.1 = sp.1.2 := by have := V.int.inj (of_decide_eq_true e); omega
          refine ⟨_, rfl, _, _, _, _, _, rfl, p3, hS.cls, hS.more, rfl, d, rfl, .inr ⟨_, .inl n1⟩, _, rfl, _, dget_t (k := [Sum.inl (sp.2.1.1 : Int), Sum.inl (sp.2.1.2 : Int)]) n1 (gB3 _ _ hq3) rfl, _, rfl, _, _, n3 _ _, rfl, _, rfl, _, _, _, _, _, rfl, p3, hS.cls, hS.more, rfl, _, rfl, d, _, rfl, DPut.t (k := [Sum.inl (sp.2.1.1 : Int), Sum.inl (sp.2.1.2 : Int)]) n1 (gB3 _ _ hq3) (small1000 (by omega)), ?_⟩
          refine ⟨sameW s3 hid_none, ⟨_, upd_same, Nat.le_trans (length_putK _ _ _) (by omega), fun x o => ?_⟩, _, _, _, _, _, _, _, _, rfl⟩
          dsimp only
          rw [valV_put, htk, accS_snoc]
          by_cases hxo : sp.2.1 = (x, o)
          · rw [if_pos (by rw [hxo]), if_pos ⟨e1, hxo⟩, hxo]
            exact congrArg V.int (Int.add_assoc _ _ _)
          · rw [if_neg (fun z => hxo (by simp at z; exact Prod.ext (by omega) (by omega))), if_neg (fun z => hxo z.2), Int.add_zero]
            exact n3 x o
        · have e1 : ¬ (Pm.sys W st0 k).J ((Pm.sys W st0 k).st v t) sp.1.1 = sp.1.2 := fun z => e (decide_eq_true (by rw [z]))
          refine ⟨s3, ⟨mk3, n1, by omega, fun x o => ?_⟩, _, _, _, _, _, _, _, _, rfl⟩
          dsimp only
          rw [htk, accS_snoc, if_neg (fun z => e1 z.1), Int.add_zero]
          exact n3 x o
      · rintro σ H3 ⟨s3, ⟨mk3, n1, n2, n3⟩, x2, x3, x4, x5, x6, x7, x8, x9, rfl⟩
        rw [List.length_map, hql] at n2 n3
        rw [List.take_length] at n3
        have gB3 := Same.tr g2d s3
        have p3 := s3 _ _ pd2
        have j3 := s3 _ _ jd2
        obtain ⟨ss, ha, hsl, hss⟩ := ((stG.same s2).hideI d2 (by simp)).same s3
        refine ⟨_, rfl, _, _, _, _, _, rfl, p3, hS.cls, hS.stand, rfl, _, rfl, _, _, _, _, _, rfl, p3, hS.cls, hS.wont, rfl, _, rfl, pw, W.turn k v, j, (Pm.sys W st0 k).J ((Pm.sys W st0 k).st v t), rfl, wt.same gB3, by rw [turn_nb]; exact j3, by rw [turn_nb, turn_sz]; exact hJ, fun r4 H4 s4 h4 => ?_⟩
        rw [turn_nb, turn_sz] at h4
        obtain ⟨us, hu, hul, hur⟩ := h4
        refine ⟨true, true, a, r4, ss, us, W.sz, _, _, rfl, SqT.of (s4 _ _ ha), SqT.of hu, by rw [hsl, hul], by omega, hss.same s4, hur, fun b hb => by have := wok.s5 b (by omega); omega, fun H5 r5 s5 h5 => ?_⟩
        rw [hsl] at h5
        have h5 : StAt H5 r5 W.nb W.sz ((Pm.sys W st0 k).st v (t + 1)) := h5
        have s35 := Same.tr s4 s5
        have p5 := s35 _ _ p3
        have d5 := s35 _ _ n1
        have gB5 := Same.tr gB3 s35
        refine ⟨_, rfl, p, cS, dx, _, rfl, p5, hS.cls, hS.stand, by simp [sightF], ?_⟩
        have hup : Same (hid2 p d H5) (upd H5 p (.ins cS dx (putF "stand" (.ref r5) (sightF kk v pw a l d (((Pm.sys W st0 k).conT v t).foldl (Pm.hiO v) hi))))) := sameW hid2_same hid2_p
        have hupB : Same B (upd H5 p (.ins cS dx (putF "stand" (.ref r5) (sightF kk v pw a l d (((Pm.sys W st0 k).conT v t).foldl (Pm.hiO v) hi))))) := sameW gB5 Bp
        refine ⟨_, rfl, kont j _ r5 ?_ ?_ ?_ upd_same ⟨mk3, (upd_ne hdp.symm).trans d5, by omega, fun x o => ?_⟩⟩
        · intro b o e
          have h1 : b ≠ p := ne_of_none e hid2_p
          have h2 : b ≠ d := ne_of_none e hid2_d
          have e0 := hid2_same _ _ e
          exact hup _ _ (hid2_at (s35 _ _ (s3 _ _ (hid_at (s2 _ _ (hid_at (s1 _ _ e0) h1)) h2))) h1 h2)
        · exact hup _ _ (hid_ne (hid_at d5 hdp.symm) (hid_ne p5 (s35 _ _ j3) (by simp)) (by simp))
        · exact ((h5.hideI p5 (by simp)).hideI (hid_at d5 hdp.symm) (by simp)).same hup
        · rw [n3]
          dsimp only
          rw [accS_all W k _ (hJ k.b (Pm.Knob.ok_b hok))]
          rfl
abbrev sSpiece : Stmt := inClass (top 42) 3
theorem scSpiece : FnScope ["self", "beats", "high", "row", "turn"] ["self", "beats", "high"] (defScope sSpiece) := ⟨rfl, rfl, rfl, by decide +kernel, rfl, by decide +kernel, by decide +kernel⟩
theorem ok_Spiece {f : Addr} {fd : FuncData} (F : Fun K "piece" "Sight.piece" sSpiece f fd) (T : NoG mg) (hS : SF K cS) (c_Sbeat : CalM P w K mg base CX0 4 cS "beat" ["self"] (spSbeat K cW cS)) : FnOk P w K mg base CX0 5 f fd ["self", "beats", "high"] (spSpiece K cW cS) := by
  refine F.ok scSpiece (fun vs H Q E h => ?_) (fun cdv A outer s H vs Q E hr h => ?_)
  · repeat (first | (obtain ⟨rfl, _⟩ := h; rfl) | (obtain ⟨_, h⟩ := h))
  · obtain ⟨p, d, dx, W, st0, k, v, kk, pw, a, l, T', hiB, rfl, hok, wok, hT, hs, kont⟩ := h
    refine ⟨_, (pss_cons (ps_setLcD (i := 3) (own := [("turn", 4)]) rfl scSpiece.nd rfl rfl (sw_true rfl rfl rfl (by decide +kernel)) (pi_range1 (by rfl) T.range (pa_cons (pv 1) pa_nil)) (blkOk_by (by kernel_rfl)) (fun _ _ _ _ _ => (pg_name (i := 4) scSpiece.nd rfl (Or.inl rfl))) (fun _ _ _ _ _ => pts_nil) (fun _ _ _ _ _ => (pe_mc0 (pv 0) c_Sbeat (hr.mono (by decide)) pass0)))
      (pss_one (ps_ret (pe_tup (pa_cons (pe_fld (pv 0) rfl) (pa_cons (pe_ifExp (pt_cmp (pc_isN (pe_fld (pv 0) rfl))) (pv 2) (pe_callB (call_min2 rfl) (by rfl) T.min (by decide +kernel) (pa_cons (pv 2) (pa_cons (pe_fld (pv 0) rfl) pa_nil)))) (pa_cons (pv 3) pa_nil))))))), ?_⟩
    obtain ⟨⟨B, sB, Bp, Bd, sg⟩, stH, p0, mo0⟩ := hs
    obtain ⟨mk, m1, m2, m3⟩ := mo0
    have hdp : p ≠ d := ne_of p0 m1 (by simp)
    refine ⟨_, rfl, _, rfl, by omega, by omega, fun D hD => ?_⟩
    have pD : p ≠ D := ne_of_none p0 hD
    have dD : d ≠ D := ne_of_none m1 hD
    have s0 : Same H (upd H D (.lst [])) := sameUpd hD
    have gD : hid2 p d H D = none := none_same hid2_same hD
    have gB : Same B (hid2 p d H) := hid2_of sB Bp Bd
    refine lc_it wrn (fun i H' => Same (hid2 p d H) H' ∧ (∃ a', StAt H' a' W.nb W.sz ((Pm.sys W st0 k).st v i) ∧ H' p = some (.ins cS dx (sightF kk v pw a' l d (((Pm.sys W st0 k).con v i).foldl (Pm.hiO v) none)))) ∧ MoreAt H' d (5 * i + 1) ((Pm.sys W st0 k).sl v i) ∧ ∃ js : List Addr, H' D = some (.lst (js.map V.ref)) ∧ js.length = i ∧ ∀ (t : Nat) (j : Addr), js[t]? = some j → JtAt H' j W.nb ((Pm.sys W st0 k).J ((Pm.sys W st0 k).st v t))) ?_ (fun _ _ _ _ => trivial) ?_ ?_
    · exact ⟨Same.tr hid2_same s0, ⟨a, stH.same s0, s0 _ _ p0⟩, ⟨mk, s0 _ _ m1, m2, m3⟩, [], upd_same, rfl, by simp⟩
    · rintro i x _ H1 hi ⟨s1, ⟨a1, st1, p1⟩, mo1, js, hD1, hl, hj⟩ ⟨rfl, rfl⟩
      obtain ⟨mk1, d1, d1l, d1f⟩ := id mo1
      refine ⟨rfl, _, rfl, p, dx, _, rfl, p1, rfl, p, d, dx, W, st0, k, v, i, kk, pw, a1, l, _, rfl, hok, wok, by omega, ⟨⟨B, Same.tr gB s1, Bp, Bd, sg⟩, st1, p1, mo1⟩, fun r H2 a2 s2 hj2 st2 p2 mo2 => ?_⟩
      have hD2 : H2 D = some (.lst (js.map V.ref)) := s2 _ _ (hid2_at hD1 pD.symm dD.symm)
      have lft : ∀ b xs, H1 b = some (.tup xs) → H2 b = some (.tup xs) := fun b xs e => s2 _ _ (hid2_at e (ne_of e p1 (by simp)) (ne_of e d1 (by simp)))
      have hk : ∀ b o, H2 b = some o → b ≠ D → (upd H2 D (.lst (js.map V.ref ++ [.ref r]))) b = some o := fun b o e ne => (upd_ne ne).trans e
      obtain ⟨mk2, e2, l2, f2⟩ := mo2
      refine ⟨js.map V.ref, hD2, by rw [List.length_map, hl, sizeLine_eq]; omega, ?_, ⟨a2, ?_, ?_⟩, ⟨mk2, hk _ _ e2 dD, l2, f2⟩, js ++ [r], by rw [upd_same, List.map_append]; rfl, by rw [List.length_append, hl]; rfl, fun t j e => ?_⟩
      · refine sameW (fun b o e => ?_) gD
        exact s2 _ _ (hid2_at (s1 _ _ e) (ne_of_none e hid2_p) (ne_of_none e hid2_d))
      · exact (st2.hideI hD2 (by simp)).same (sameW hid_same hid_none)
      · rw [hk _ _ p2 pD]
        unfold Pm.Sys.con
        rw [List.range_succ, List.flatMap_append, List.foldl_append]
        simp only [List.flatMap_cons, List.flatMap_nil, List.append_nil]
      · by_cases ht : t < js.length
        · rw [List.getElem?_append_left ht] at e
          have := lft _ _ (hj t j e)
          exact hk _ _ this (ne_of this hD2 (by simp))
        · have : t = js.length := by have := get_lt e; simp at this; omega
          subst this
          rw [List.getElem?_append_right (Nat.le_refl _)] at e
          simp at e
          subst e
          have := hj2
          rw [← hl] at this
          exact hk _ _ this (ne_of (show H2 r = _ from this) hD2 (by simp))
    · rintro H1 ⟨s1, ⟨a1, st1, p1⟩, mo1, js, hD1, hl, hj⟩
      have fin : ∀ H2 r, Same H1 H2 → H2 r = some (.tup [.int v, .int ((Pm.sys W st0 k).last v T' hiB), .ref D]) → Q (.ref r) H2 := fun H2 r s2 h2 => kont r H2 (Same.tr s1 s2) ⟨D, js, h2, s2 _ _ hD1, hl, fun t j e => s2 _ _ (hj t j e)⟩
      have hlast : Pm.minO hiB (((Pm.sys W st0 k).con v T').foldl (Pm.hiO v) none) = (Pm.sys W st0 k).last v T' hiB := by
        rw [Pm.hiO_fold]; rfl
      refine ⟨_, rfl, _, _, _, _, _, rfl, p1, hS.cls, hS.value, rfl, ?_⟩
      generalize ((Pm.sys W st0 k).con v T').foldl (Pm.hiO v) none = hh at hlast p1
      refine ⟨_, rfl, _, _, _, _, _, rfl, p1, hS.cls, hS.high, rfl, _, rfl, ?_⟩
      cases hh with
      | none =>
        refine iteT ⟨_, rfl, _, rfl, big1000 (by simp), newT fun r H2 _ s2 h2 => fin H2 r s2 ?_⟩
        rw [h2, ← hlast]; rfl
      | some m =>
        refine iteF ⟨_, rfl, _, rfl, _, _, _, _, _, rfl, p1, hS.cls, hS.high, rfl, _, _, rfl, _, rfl, big1000 (by simp), newT fun r H2 _ s2 h2 => fin H2 r s2 ?_⟩
        rw [h2, ← hlast]
        have : (if m < hiB then m else hiB) = min hiB m := by split <;> omega
        rw [this]; rfl
end
end WB


namespace WB
open PySem L2
/-- the addresses of the classes of exceptions -/
structure Exs where
  stand : Addr
  beat : Addr
  knob : Addr
  book : Addr
  many : Addr
structure XC (K : PySem.W.Frag) (mg : Str → Option Value) (x : Str) (C : Addr) : Prop where
  mg : mg x = some (.ref C)
  kp : PySem.W.keepIn K (.ref C) = true
  ex : PySem.W.excIn K C [.type "ValueError", .type "Exception", .type "BaseException", .type "object"] "ValueError.__new__" = true
  sub : PySem.W.subIn K (.ref C) (.type "BaseException") = some true
  ty : PySem.W.typeIn K (.ref C) = some (.type "type")
def spIsStand (K : PySem.W.Frag) (cW cS : Addr) : Sp := fun vs H Q _ => ∃ (p : Addr) (W : Pm.Wd) (x : V) (b : Bool), vs = [.ref p, x] ∧ WontAt cW H p W ∧ ((b = false ∧ x = .non) ∨ (b = true ∧ ∃ a st, x = .ref a ∧ StAt H a W.nb W.sz st)) ∧ ∀ H', Same H H' → Q (.bl b) H'
def spWantStand (K : PySem.W.Frag) (cW cS : Addr) (xs : Exs) : Sp := fun vs H Q E => ∃ (p : Addr) (W : Pm.Wd) (x : V) (b : Bool), vs = [.ref p, x] ∧ WontAt cW H p W ∧ ((b = false ∧ x = .non) ∨ (b = true ∧ ∃ a st, x = .ref a ∧ StAt H a W.nb W.sz st)) ∧ ∀ H', Same H H' → if b = true then Q .non H' else E (.ref xs.stand) none H'
def spWantBeats (K : PySem.W.Frag) (cW cS : Addr) (xs : Exs) : Sp := fun vs H Q E => ∃ x lo hi, vs = [x, .int lo, .int hi] ∧ Flat x ∧ if inR x lo hi = true then Q .non H else E (.ref xs.beat) none H
def spWantKnob (K : PySem.W.Frag) (cW cS : Addr) (xs : Exs) : Sp := fun vs H Q E => ∃ (p : Addr) (W : Pm.Wd) (x : V) (b : Bool), vs = [.ref p, x] ∧ WontAt cW H p W ∧ ((b = true ∧ ∃ a k, x = .ref a ∧ KnobAt H a k ∧ k.ok W) ∨ (b = false ∧ OddKnob H x)) ∧ ∀ H', Same H H' → if b = true then Q .non H' else E (.ref xs.knob) none H'
def PiecesAt (H : Hp) (r : Addr) (Y : Pm.Sys) (T : Nat) (ps : List (Int × Int)) : Prop := ∃ qs : List Addr, H r = some (.lst (qs.map V.ref)) ∧ qs.length = ps.length ∧ ∀ (i : Nat) (q : Addr) (pc : Int × Int), qs[i]? = some q → ps[i]? = some pc → PieceAt H q Y pc.1 pc.2 T
def spPiecesOf (K : PySem.W.Frag) (cW cS : Addr) (xs : Exs) : Sp := fun vs H Q E => ∃ (pw a kk : Addr) (W : Pm.Wd) (st0 : Pm.Stand) (k : Pm.Knob) (T : Nat) (lo hi : Int), vs = [.ref pw, .ref a, .int (T : Nat), .ref kk, .int lo, .int hi] ∧ WontAt cW H pw W ∧ StAt H a W.nb W.sz st0 ∧ KnobAt H kk k ∧ k.ok W ∧ 0 < T ∧ T ≤ 100 ∧ (Pm.isStr k = true ∨ (-1000000000 ≤ lo ∧ hi ≤ 1000000000)) ∧
  match (Pm.sys W st0 k).pcs T hi 300 lo with
  | some ps => ∀ r H', Same H H' → PiecesAt H' r (Pm.sys W st0 k) T ps → Q (.ref r) H'
  | none => ∀ H', Same H H' → E (.ref xs.many) none H'
section
variable {P : Program} {w : World} {K : PySem.W.Frag} {mg : Str → Option Value} {base : Heap} {cW cS dW : Addr} {xs : Exs}
abbrev sIsStand : Stmt := top 16
theorem scIsStand : FnScope ["wont", "thing", "many", "strengths", "one"] ["wont", "thing"] (defScope sIsStand) := ⟨rfl, rfl, rfl, by decide +kernel, rfl, by decide +kernel, by decide +kernel⟩
theorem ok_IsStand {f : Addr} {fd : FuncData} (F : Fun K "is_stand" "is_stand" sIsStand f fd) (T : NoG mg) (c_Wsizes : CalM P w K mg base CX0 1 cW "sizes" ["self"] (spWsizes K cW cS)) (c_is_whole : Cal P w K mg base CX0 1 "is_whole" ["thing"] (spIsWhole K cW cS)) : FnOk P w K mg base CX0 2 f fd ["wont", "thing"] (spIsStand K cW cS) := by
  refine F.ok scIsStand (fun vs H Q E h => ?_) (fun cdv A outer s H vs Q E hr h => ?_)
  · repeat (first | (obtain ⟨rfl, _⟩ := h; rfl) | (obtain ⟨_, h⟩ := h))
  · obtain ⟨p, W, x, bb, rfl, hWt, hx, kont⟩ := h
    refine ⟨_, (pss_cons (ps_if (PW.pt (pw_or (pt_not (pt_val (pe_callB call_isi (by rfl) T.isinstance (by decide +kernel) (pa_cons (pv 1) (pa_cons (pe_bltn (v := .ty "tuple") (by rfl) T.tuple (by decide +kernel) rfl) pa_nil))))) (pw_or1 (pt_cmpR op_ne (pe_callB call_len (by rfl) T.len PySem.boot_len (pa_cons (pv 1) pa_nil)) (pe_callB call_len (by rfl) T.len PySem.boot_len (pa_cons (pe_mc0 (pv 0) c_Wsizes (hr.mono (by decide)) pass0) pa_nil)) (nomark _))))) (pss_one (ps_ret pe_bl)) pss_nil)
      (pss_cons (ps_for PassesOwn.never rfl (pi_zipM (by rfl) T.zip (pa_cons (pe_mc0 (pv 0) c_Wsizes (hr.mono (by decide)) pass0) (pa_cons (pv 1) pa_nil))) (pg_tup (n := 2) rfl (pgs_cons (pg_name (i := 2) scIsStand.nd rfl (Or.inl rfl)) (pgs_cons (pg_name (i := 3) scIsStand.nd rfl (Or.inl rfl)) pgs_nil)))
        (pss_cons (ps_if (PW.pt (pw_or (pt_not (pt_val (pe_callB call_isi (by rfl) T.isinstance (by decide +kernel) (pa_cons (pv 3) (pa_cons (pe_bltn (v := .ty "tuple") (by rfl) T.tuple (by decide +kernel) rfl) pa_nil))))) (pw_or1 (pt_cmpR op_ne (pe_callB call_len (by rfl) T.len PySem.boot_len (pa_cons (pv 3) pa_nil)) (pv 2) (nomark _))))) (pss_one (ps_ret pe_bl)) pss_nil)
          (pss_one (ps_if (pt_not (pt_val (pe_callB (cr_all rfl) (by rfl) T.all (by decide +kernel) (pa_cons (pe_lcD (own := [("one", 4)]) rfl scIsStand.nd (pi_tup (pv 3)) (blkOk_by (by kernel_rfl)) (fun _ _ _ _ _ => (pg_name (i := 4) scIsStand.nd rfl (Or.inl rfl))) (fun _ _ _ _ _ => pts_nil) (fun _ _ _ _ _ => (pe_cal c_is_whole (hr.mono (by decide)) pass0 (pa_cons (pv 4) pa_nil)))) pa_nil)))) (pss_one (ps_ret pe_bl)) pss_nil))))
      (pss_one (ps_ret pe_bl)))), ?_⟩
    obtain ⟨ok, dx, tb, tl, d, m, r, ps, rs, fs, mk, hp, hi⟩ := id hWt
    have n4 := ok.n4
    rcases hx with ⟨rfl, rfl⟩ | ⟨rfl, a, st, rfl, ss, ha, hsl, hss⟩
    · refine ⟨_, rfl, _, _, _, _, false, rfl, .ty _, .base .non, kit_ty (by decide +kernel), _, rfl, iteT ?_⟩
      exact iteT (kont _ Same.rf)
    · refine ⟨_, rfl, _, _, _, _, true, rfl, .ty _, .base (.tup ha), kit_ty (by decide +kernel), _, rfl, iteF ?_⟩
      refine ⟨_, rfl, _, W.nb, rfl, .inr ⟨_, SqT.of ha, by rw [List.length_map, hsl]⟩, _, rfl, _, _, _, rfl, hp, rfl, p, W, rfl, hWt, fun tl2 htl => ⟨_, W.nb, rfl, .inr ⟨_, SqT.of htl, (nums_len _ _).symm⟩, rfl, _, rfl, ?_⟩⟩
      rw [decide_eq_true rfl]
      refine iteF ⟨_, rfl, _, _, _, rfl, hp, rfl, p, W, rfl, hWt, fun tl3 htl3 => ⟨_, rfl, true, true, tl3, a, _, _, rfl, SqT.of htl3, SqT.of ha, ?_⟩⟩
      refine for_it (walk_zipM (xs := nums W.nb fun b => ((W.sz b : Nat) : Int)) (ys := ss.map V.ref) (by rw [nums_len, List.length_map, hsl])) (fun i σ H' => Same H H' ∧ ∃ x y z, σ = [some (.ref p), some (.ref a), x, y, z]) ?_ ?_ ?_ ?_
      · exact ⟨Same.rf, _, _, _, rfl⟩
      · rintro i σ H' _ ⟨s', _⟩; exact ⟨SqT.of (s' _ _ htl3), SqT.of (s' _ _ ha)⟩
      · rintro i x σ H1 H2 hin ⟨s1, x2, x3, x4, rfl⟩ ⟨T', y1, y2, rfl, hT, rfl, e1, e2⟩
        obtain ⟨hib, rfl⟩ := nums_get e1
        obtain ⟨q, hq, rfl⟩ := refs_get e2
        have s2 : Same H1 (upd H1 T' (.tup [.int (W.sz i : Nat), .ref q])) := sameUpd hT
        have hq2 := s2 _ _ (s1 _ _ (hss i q hq))
        have h5 := ok.s5 i hib
        refine ⟨T', _, rfl, SqT.of upd_same, rfl, _, _, rfl, _, _, rfl, rfl, ?_⟩
        refine ⟨_, rfl, _, _, _, _, true, rfl, .ty _, .base (.tup hq2), kit_ty (by decide +kernel), _, rfl, iteF ?_⟩
        refine ⟨_, rfl, _, W.sz i, rfl, .inr ⟨_, SqT.of hq2, (nums_len _ _).symm⟩, _, rfl, rfl, _, rfl, ?_⟩
        rw [decide_eq_true rfl]
        refine iteF ⟨_, rfl, q, rfl, ⟨_, SqT.of hq2⟩, fun D hD => lc_col walk_tup hD (by rw [nums_len]; omega)
          (fun i y H => y = .bl true) (fun i y H H' hk e => e) (fun H' s' => SqT.of (s' _ _ hq2)) ?_ ?_⟩
        · rintro o x _ H3 K2 hi2 s3 ⟨acc, hacc⟩ ⟨rfl, hx⟩ hK
          obtain ⟨_, rfl⟩ := nums_get hx
          exact ⟨rfl, _, rfl, _, rfl, flat_int _, hK _ _ Same.rf rfl⟩
        · rintro H4 ys s4 hy hl4 hr4
          obtain ⟨bs, b1, b2⟩ := all_bs (K := K) hy hr4
          refine ⟨D, bs, rfl, b1, ?_⟩
          rw [b2]
          exact ⟨_, rfl, iteF ⟨Same.tr s1 (Same.tr s2 s4), _, _, _, rfl⟩⟩
      · rintro σ H1 ⟨s1, x, y, z, rfl⟩
        exact kont H1 s1
abbrev sWantStand : Stmt := top 17
theorem scWantStand : FnScope ["wont", "thing"] ["wont", "thing"] (defScope sWantStand) := ⟨rfl, rfl, rfl, by decide +kernel, rfl, by decide +kernel, by decide +kernel⟩
theorem ok_WantStand {f : Addr} {fd : FuncData} (F : Fun K "want_stand" "want_stand" sWantStand f fd) (T : NoG mg) (x_NoStand : XC K mg "NoStand" xs.stand) (c_is_stand : Cal P w K mg base CX0 2 "is_stand" ["wont", "thing"] (spIsStand K cW cS)) : FnOk P w K mg base (L2.CX P w) 3 f fd ["wont", "thing"] (spWantStand K cW cS xs) := by
  refine F.okX scWantStand (fun vs H Q E h => ?_) (fun cdv A outer s H vs Q E hr h => ?_)
  · repeat (first | (obtain ⟨rfl, _⟩ := h; rfl) | (obtain ⟨_, h⟩ := h))
  · obtain ⟨p, W, x, bb, rfl, hWt, hx, kont⟩ := h
    refine ⟨_, (pss_one (ps_if (pt_not (pt_val (pe_cal c_is_stand (hr.mono (by decide)) pass0 (pa_cons (pv 0) (pa_cons (pv 1) pa_nil))))) (pss_one (ps_raise rfl (takes_of rfl rfl rfl rfl) (pmk_own0 PySem.F.excBase_ValueError x_NoStand.ex x_NoStand.mg x_NoStand.kp (raises_own x_NoStand.sub x_NoStand.ty) (by rfl)))) pss_nil)), ?_⟩
    refine ⟨_, rfl, _, rfl, p, W, x, bb, rfl, hWt, hx, fun H1 s1 => ⟨_, rfl, ?_⟩⟩
    have := kont H1 s1
    cases bb with
    | true => exact iteF this
    | false => exact iteT this
abbrev sWantBeats : Stmt := top 18
theorem scWantBeats : FnScope ["thing", "low", "high"] ["thing", "low", "high"] (defScope sWantBeats) := ⟨rfl, rfl, rfl, by decide +kernel, rfl, by decide +kernel, by decide +kernel⟩
theorem ok_WantBeats {f : Addr} {fd : FuncData} (F : Fun K "want_beats" "want_beats" sWantBeats f fd) (T : NoG mg) (x_NoBeat : XC K mg "NoBeat" xs.beat) (c_is_from : Cal P w K mg base CX0 2 "is_from" ["thing", "low", "high"] (spIsFrom K cW cS)) : FnOk P w K mg base (L2.CX P w) 3 f fd ["thing", "low", "high"] (spWantBeats K cW cS xs) := by
  refine F.okX scWantBeats (fun vs H Q E h => ?_) (fun cdv A outer s H vs Q E hr h => ?_)
  · repeat (first | (obtain ⟨rfl, _⟩ := h; rfl) | (obtain ⟨_, h⟩ := h))
  · obtain ⟨x, lo, hi, rfl, hx, kont⟩ := h
    refine ⟨_, (pss_one (ps_if (pt_not (pt_val (pe_cal c_is_from (hr.mono (by decide)) pass0 (pa_cons (pv 0) (pa_cons (pv 1) (pa_cons (pv 2) pa_nil)))))) (pss_one (ps_raise rfl (takes_of rfl rfl rfl rfl) (pmk_own0 PySem.F.excBase_ValueError x_NoBeat.ex x_NoBeat.mg x_NoBeat.kp (raises_own x_NoBeat.sub x_NoBeat.ty) (by rfl)))) pss_nil)), ?_⟩
    refine ⟨_, rfl, _, rfl, _, rfl, x, lo, hi, rfl, hx, _, rfl, ?_⟩
    cases hb : inR x lo hi with
    | true => rw [hb] at kont; exact iteF kont
    | false => rw [hb] at kont; exact iteT kont
abbrev sWantKnob : Stmt := top 37
theorem scWantKnob : FnScope ["wont", "thing"] ["wont", "thing"] (defScope sWantKnob) := ⟨rfl, rfl, rfl, by decide +kernel, rfl, by decide +kernel, by decide +kernel⟩
theorem ok_WantKnob {f : Addr} {fd : FuncData} (F : Fun K "want_knob" "want_knob" sWantKnob f fd) (T : NoG mg) (x_NoKnob : XC K mg "NoKnob" xs.knob) (c_is_knob : Cal P w K mg base CX0 4 "is_knob" ["wont", "thing"] (spIsKnob K cW cS)) : FnOk P w K mg base (L2.CX P w) 5 f fd ["wont", "thing"] (spWantKnob K cW cS xs) := by
  refine F.okX scWantKnob (fun vs H Q E h => ?_) (fun cdv A outer s H vs Q E hr h => ?_)
  · repeat (first | (obtain ⟨rfl, _⟩ := h; rfl) | (obtain ⟨_, h⟩ := h))
  · obtain ⟨p, W, x, bb, rfl, hWt, hx, kont⟩ := h
    refine ⟨_, (pss_one (ps_if (pt_not (pt_val (pe_cal c_is_knob (hr.mono (by decide)) pass0 (pa_cons (pv 0) (pa_cons (pv 1) pa_nil))))) (pss_one (ps_raise rfl (takes_of rfl rfl rfl rfl) (pmk_own0 PySem.F.excBase_ValueError x_NoKnob.ex x_NoKnob.mg x_NoKnob.kp (raises_own x_NoKnob.sub x_NoKnob.ty) (by rfl)))) pss_nil)), ?_⟩
    refine ⟨_, rfl, _, rfl, p, W, x, bb, rfl, hWt, hx, fun H1 s1 => ⟨_, rfl, ?_⟩⟩
    have := kont H1 s1
    cases bb with
    | true => exact iteF this
    | false => exact iteT this
end
end WB


namespace WB
open PySem L2
theorem nums_ne3 {n : Nat} {f : Nat → Int} {a b : Int} {c : Addr} (h : nums n f = [.int a, .int b, .ref c]) : False := by
  have : (nums n f)[2]? = some (V.ref c) := by rw [h]; rfl
  obtain ⟨_, e⟩ := nums_get this
  cases e
/-- a list of pieces is no row -/
theorem PieceAt.hide {H : Hp} {q r : Addr} {Y : Pm.Sys} {lo hi : Int} {T : Nat} (hT : 0 < T) (h : PieceAt H q Y lo hi T) {qs : List Addr} (hr : H r = some (.lst (qs.map V.ref))) (hq : ∀ q ∈ qs, ∃ a b c, H q = some (.tup [.int a, .int b, .ref c])) : PieceAt (hid r H) q Y lo hi T := by
  obtain ⟨rw', js, h1, h2, h3, h4⟩ := h
  have hne : rw' ≠ r := fun e => by
    subst e
    rw [h2] at hr
    have e2 : js.map V.ref = qs.map V.ref := by injection hr with e; injection e
    have hj : js[0]? = some (js[0]'(by omega)) := List.getElem?_eq_getElem _
    have e3 : (qs.map V.ref)[0]? = some (V.ref (js[0]'(by omega))) := by rw [← e2]; exact refs_at hj
    obtain ⟨q0, e4, e5⟩ := refs_get e3
    cases e5
    obtain ⟨a, b, c, e6⟩ := hq _ (List.mem_of_getElem? e4)
    have := h4 0 _ hj
    unfold JtAt at this
    rw [e6] at this
    injection this with this
    injection this with this
    exact nums_ne3 this.symm
  exact ⟨rw', js, hid_ne hr h1 (by simp), hid_at h2 hne, h3, fun t j e => hid_ne hr (h4 t j e) (by simp)⟩
theorem atI_end {l : List V} {v : V} (h : l[l.length - 1]? = some v) (hl : 0 < l.length) : atI l (-1) = some v := by
  unfold atI ixN
  rw [if_neg (by omega), if_pos (by omega)]
  show l[(-1 + (l.length : Int)).toNat]? = some v
  rw [show (-1 + (l.length : Int)).toNat = l.length - 1 from by omega]
  exact h
section
variable {P : Program} {w : World} {K : PySem.W.Frag} {mg : Str → Option Value} {base : Heap} {cW cS dW : Addr} {xs : Exs}
abbrev sPiecesOf : Stmt := top 43
theorem scPiecesOf : FnScope ["wont", "stand", "beats", "knob", "low", "high", "found"] ["wont", "stand", "beats", "knob", "low", "high"] (defScope sPiecesOf) := ⟨rfl, rfl, rfl, by decide +kernel, rfl, by decide +kernel, by decide +kernel⟩
theorem ok_PiecesOf {f : Addr} {fd : FuncData} (F : Fun K "pieces_of" "pieces_of" sPiecesOf f fd) (T : NoG mg) (x_TooMany : XC K mg "TooMany" xs.many) (C : Csts mg) (c_Spiece : CalM P w K mg base CX0 5 cS "piece" ["self", "beats", "high"] (spSpiece K cW cS)) (c_Sight : CalC P w K mg base CX0 9 "Sight" cS ["self", "wont", "stand", "knob", "value"] (spSinit K cW cS)) : FnOk P w K mg base (L2.CX P w) 11 f fd ["wont", "stand", "beats", "knob", "low", "high"] (spPiecesOf K cW cS xs) := by
  refine F.okX scPiecesOf (fun vs H Q E h => ?_) (fun cdv A outer s H vs Q E hr h => ?_)
  · repeat (first | (obtain ⟨rfl, _⟩ := h; rfl) | (obtain ⟨_, h⟩ := h))
  · obtain ⟨pw, a, kk, W, st0, k, T', lo, hi, rfl, hWt, hst, hk, hok, hT0, hT, hrg, kont⟩ := h
    refine ⟨_, (pss_cons (ps_set (i := 6) scPiecesOf.nd rfl (Or.inl rfl) (pe_lst pa_nil))
      (pss_cons (ps_while (passes_of rfl) (pt_cmpR op_le (pv 4) (pv 5) (nomark _))
        (pss_cons (ps_if (pt_cmpR op_eq (pe_callB call_len (by rfl) T.len PySem.boot_len (pa_cons (pv 6) pa_nil)) (pe_const (by rfl) C.MOST_PIECES) (nomark _)) (pss_one (ps_raise rfl (takes_of rfl rfl rfl rfl) (pmk_own0 PySem.F.excBase_ValueError x_TooMany.ex x_TooMany.mg x_TooMany.kp (raises_own x_TooMany.sub x_TooMany.ty) (by rfl)))) pss_nil)
          (pss_cons (ps_expr (pe_bm PySem.F.plainAttrs_list PySem.F.slot_list_append PySem.F.type_list_append mt_append (pv 6) (pa_cons (pe_mc (pe_mk c_Sight (hr.mono (by decide)) pass0 (pa_cons (pv 0) (pa_cons (pv 1) (pa_cons (pv 3) (pa_cons (pv 4) pa_nil))))) c_Spiece (hr.mono (by decide)) pass0 (pa_cons (pv 2) (pa_cons (pv 5) pa_nil))) pa_nil)))
          (pss_one (ps_set (i := 4) scPiecesOf.nd rfl (Or.inl rfl) (pe_op op_add (pe_ix ix_tup (pe_ix ix_list (pv 6) (pe_un un_neg pe_int) (fun _ _ => rfl)) pe_int (fun _ _ => rfl)) pe_int))))))
      (pss_one (ps_ret (pv 6))))), ?_⟩
    obtain ⟨ok, _⟩ := id hWt
    have yok := Pm.sys_ok ok (s := st0) hok
    refine ⟨big1000 (by simp), fun r hr => ?_⟩
    have s0 : Same H (upd H r (.lst [])) := sameUpd hr
    -- what stands at each turn
    refine ⟨fun m σ H' => ∃ (lo' : Int) (n : Nat) (ps : List (Int × Int)) (qs : List Addr), m = 300 - n ∧ n ≤ 300 ∧ lo ≤ lo' ∧ ps.length = n ∧ qs.length = n ∧ σ = [some (.ref pw), some (.ref a), some (.int (T' : Nat)), some (.ref kk), some (.int lo'), some (.int hi), some (.ref r)] ∧ Same H H' ∧ H' r = some (.lst (qs.map V.ref)) ∧ (∀ (i : Nat) (q : Addr) (pc : Int × Int), qs[i]? = some q → ps[i]? = some pc → PieceAt H' q (Pm.sys W st0 k) pc.1 pc.2 T') ∧ (Pm.sys W st0 k).pcs T' hi 300 lo = ((Pm.sys W st0 k).pcs T' hi (300 - n) lo').map (ps ++ ·), ⟨300, lo, 0, [], [], rfl, by omega, Int.le_refl _, rfl, rfl, rfl, s0, upd_same, by simp, by simp⟩, ?_⟩
    rintro m σ H1 ⟨lo', n, ps, qs, rfl, hn, hlo, hpl, hql, rfl, s1, hr1, hpc, heq⟩
    refine ⟨_, rfl, _, rfl, _, _, rfl, rfl, _, rfl, ite2 (fun e => ?_) (fun e => ?_)⟩
    · have e1 : lo' ≤ hi := of_decide_eq_true e
      by_cases hn3 : n = 300
      · subst hn3
        have hnone : (Pm.sys W st0 k).pcs T' hi 300 lo = none := by
          rw [heq]
          unfold Pm.Sys.pcs
          rw [if_neg (by omega)]; rfl
        rw [hnone] at kont
        refine ⟨fun _ _ => False, fun _ _ h => h.elim, ?_⟩
        refine ⟨_, rfl, _, 300, rfl, .inl ⟨_, SqL.of hr1, by rw [List.length_map, hql]⟩, rfl, _, rfl, iteT (kont H1 s1)⟩
      · refine ⟨fun σ' H' => ∃ (lo2 : Int) (ps2 : List (Int × Int)) (qs2 : List Addr), lo ≤ lo2 ∧ ps2.length = n + 1 ∧ qs2.length = n + 1 ∧ σ' = [some (.ref pw), some (.ref a), some (.int (T' : Nat)), some (.ref kk), some (.int lo2), some (.int hi), some (.ref r)] ∧ Same H H' ∧ H' r = some (.lst (qs2.map V.ref)) ∧ (∀ (i : Nat) (q : Addr) (pc : Int × Int), qs2[i]? = some q → ps2[i]? = some pc → PieceAt H' q (Pm.sys W st0 k) pc.1 pc.2 T') ∧ (Pm.sys W st0 k).pcs T' hi 300 lo = ((Pm.sys W st0 k).pcs T' hi (300 - (n + 1)) lo2).map (ps2 ++ ·), fun σ' H' h => ?_, ?_⟩
        · obtain ⟨lo2, ps2, qs2, g1, g2, g3, g4, g5, g6, g7, g8⟩ := h
          exact ⟨300 - (n + 1), by omega, lo2, n + 1, ps2, qs2, rfl, by omega, g1, g2, g3, g4, g5, g6, g7, g8⟩
        refine ⟨_, rfl, _, n, rfl, .inl ⟨_, SqL.of hr1, by rw [List.length_map, hql]⟩, rfl, _, rfl, ?_⟩
        rw [decide_eq_false (fun z => hn3 (by have := V.int.inj z; omega))]
        have hsz : n < 300 := by omega
        refine iteF ⟨_, rfl, .inl ⟨rfl, _, SqL.of hr1⟩, _, rfl, _, rfl, _, rfl, _, rfl, fun x dx hx hdx hne => ?_⟩
        have sm := mk_same (o := .ins cS dx []) (o' := .own x) hx hdx
        have sm2 := Same.tr sm hid_same
        have s12 := Same.tr s1 sm2
        have w2 := hWt.same s12
        refine ⟨x, pw, a, kk, lo', dx, W, st0, k, rfl, w2, hst.same s12, s12 _ _ hk, hok, hrg.imp id (fun h => ⟨by omega, by omega⟩), upd_same, fun H2 d pw' a' l s2 hd hs => ⟨rfl, x, dx, _, rfl, hs.ins, rfl, _, rfl, _, rfl, x, d, dx, W, st0, k, lo', kk, pw', a', l, T', hi, rfl, hok, ok, hT, hs, fun q H3 s3 hpq => ?_⟩⟩
        have hd1 : H1 d = none := by
          cases e : H1 d with
          | none => rfl
          | some o => rw [sm2 _ _ e] at hd; cases hd
        have s13 : Same H1 H3 := fun b o e => s3 _ _ (hid2_at (s2 _ _ (sm _ _ e)) (ne_of_none e hx) (ne_of_none e hd1))
        have hr3 := s13 _ _ hr1
        refine ⟨r, _, _, rfl, rfl, hr3, by rw [List.length_map, hql, sizeLine_eq]; omega, ?_⟩
        -- all pieces, ahead of the write
        have hpc3 : ∀ (i : Nat) (q' : Addr) (pc : Int × Int), (qs ++ [q])[i]? = some q' → (ps ++ [(lo', (Pm.sys W st0 k).last lo' T' hi)])[i]? = some pc → PieceAt H3 q' (Pm.sys W st0 k) pc.1 pc.2 T' := fun i q' pc e e2 => by
          by_cases hi' : i < n
          · rw [List.getElem?_append_left (by omega)] at e e2
            exact (hpc i q' pc e e2).same s13
          · have : i = n := by have := get_lt e; simp at this; omega
            subst this
            rw [List.getElem?_append_right (by omega)] at e e2
            simp [hql, hpl] at e e2
            subst e e2
            exact hpq
        have hqt : ∀ q' ∈ qs, ∃ a b c, H3 q' = some (.tup [.int a, .int b, .ref c]) := fun q' hm => by
          obtain ⟨i, hi'⟩ := List.getElem?_of_mem hm
          have hil : i < ps.length := by have := get_lt hi'; omega
          obtain ⟨rw', _, h1, _⟩ := hpc i q' _ hi' (List.getElem?_eq_getElem hil)
          exact ⟨_, _, _, s13 _ _ h1⟩
        have gW : Same (hid r H3) (upd H3 r (.lst (qs.map V.ref ++ [.ref q]))) := sameW hid_same hid_none
        have hr4 : (upd H3 r (.lst (qs.map V.ref ++ [.ref q]))) r = some (.lst ((qs ++ [q]).map V.ref)) := by rw [upd_same, List.map_append]; rfl
        obtain ⟨rw', js, hq1, _⟩ := hpq
        refine ⟨_, rfl, _, rfl, r, _, _, _, rfl, rfl, SqL.of hr4, atI_end (v := .ref q) ?_ (by simp), _, _, _, _, rfl, rfl, SqT.of (gW _ _ (hid_ne hr3 hq1 (by simp))), rfl, _, _, rfl, rfl, ?_⟩
        · simp
        have hle := yok.n_le_last (T := T') e1
        refine ⟨(Pm.sys W st0 k).last lo' T' hi + 1, ps ++ [(lo', (Pm.sys W st0 k).last lo' T' hi)], qs ++ [q], by omega, by simp [hpl], by simp [hql], rfl, sameW (Same.tr s1 s13) hr, hr4, fun i q' pc e e2 => ((hpc3 i q' pc e e2).hide hT0 hr3 hqt).same gW, ?_⟩
        rw [heq]
        conv => lhs; unfold Pm.Sys.pcs
        rw [if_neg (by omega), show 300 - n = (300 - (n + 1)) + 1 from by omega]
        simp only [Option.map_map]
        congr 1
        funext l
        simp
    · have e1 : hi < lo' := by have : ¬ lo' ≤ hi := fun z => e (decide_eq_true z); omega
      have hsome : (Pm.sys W st0 k).pcs T' hi 300 lo = some ps := by
        rw [heq]
        unfold Pm.Sys.pcs
        rw [if_pos e1]; simp
      rw [hsome] at kont
      exact ⟨_, rfl, kont r H1 s1 ⟨qs, hr1, by omega, hpc⟩⟩
end
end WB


namespace WB
open PySem L2
def bnd (k : Pm.Knob) (own far : Int) : Int × Int := if Pm.isStr k = true then (own - far, own + far) else (max (own - far) (-1000000000), min (own + far) 1000000000)
def dueOf (W : Pm.Wd) (st0 : Pm.Stand) (k : Pm.Knob) (T : Nat) (far : Int) (spot wish : Nat) : Option (Option Int) := (Pm.sys W st0 k).due T (Pm.own W st0 k) (bnd k (Pm.own W st0 k) far).1 (bnd k (Pm.own W st0 k) far).2 spot wish
def spNearestTurn (K : PySem.W.Frag) (cW cS : Addr) (xs : Exs) : Sp := fun vs H Q E => ∃ (pw : Addr) (W : Pm.Wd) (x y z b c f : V), vs = [.ref pw, x, y, z, b, c, f] ∧ WontAt cW H pw W ∧ Flat y ∧ Flat b ∧ Flat c ∧ Flat f ∧
  ((x = .non ∧ ∀ H', Same H H' → E (.ref xs.stand) none H') ∨
    ∃ (a : Addr) (st0 : Pm.Stand), x = .ref a ∧ StAt H a W.nb W.sz st0 ∧
      ((inR y 1 60 = false ∧ ∀ H', Same H H' → E (.ref xs.beat) none H') ∨ (inR y 1 60 = true ∧
        ((OddKnob H z ∧ ∀ H', Same H H' → E (.ref xs.knob) none H') ∨ ∃ (kk : Addr) (k : Pm.Knob), z = .ref kk ∧ KnobAt H kk k ∧ k.ok W ∧
          ((chOk W b c = false ∧ ∀ H', Same H H' → E (.ref xs.book) none H') ∨ (chOk W b c = true ∧
            ((inR f 0 1000000000 = false ∧ ∀ H', Same H H' → E (.ref xs.beat) none H') ∨ ∃ (T spot wish : Nat) (far : Int), y = .int (T : Nat) ∧ b = .int (spot : Nat) ∧ c = .int (wish : Nat) ∧ f = .int far ∧ inR f 0 1000000000 = true ∧
              match dueOf W st0 k T far spot wish with
              | none => ∀ H', Same H H' → E (.ref xs.many) none H'
              | some r => ∀ H', Same H H' → Q (hiV r) H')))))))
theorem OddKnob.same {H H' : Hp} {z : V} (s : Same H H') (h : OddKnob H z) : OddKnob H' z := by
  cases h with
  | non => exact .non
  | str z => exact .str z
  | gain h => exact .gain (s _ _ h)
  | feed h => exact .feed (s _ _ h)
theorem is_str_word (k : Pm.Knob) : ∃ r : Str, (knobV k)[0]? = some (V.str r) ∧ (!decide (V.str r = V.str "strength")) = !Pm.isStr k := by
  cases k with
  | str b c => exact ⟨_, rfl, by rw [strT]; rfl⟩
  | gain b c => exact ⟨_, rfl, by rw [strF (by decide)]; rfl⟩
  | wane b c => exact ⟨_, rfl, by rw [strF (by decide)]; rfl⟩
  | feed b c t o => exact ⟨_, rfl, by rw [strF (by decide)]; rfl⟩
theorem abs_le {a b : Int} : decide ((if a < 0 then -a else a) ≤ (if b < 0 then -b else b)) = decide (a.natAbs ≤ b.natAbs) := by
  apply decide_eq_decide.mpr
  split <;> split <;> omega
section
variable {P : Program} {w : World} {K : PySem.W.Frag} {mg : Str → Option Value} {base : Heap} {cW cS dW : Addr} {xs : Exs}
abbrev sNearestTurn : Stmt := top 45
theorem scNearestTurn : FnScope ["wont", "stand", "beats", "knob", "book", "choice", "far", "own", "low", "high", "found", "first", "last", "row", "value"] ["wont", "stand", "beats", "knob", "book", "choice", "far"] (defScope sNearestTurn) := ⟨rfl, rfl, rfl, by decide +kernel, rfl, by decide +kernel, by decide +kernel⟩
theorem ok_NearestTurn {f : Addr} {fd : FuncData} {dvs : List V} {kws : List (Str × V)} (F : FunD K "nearest_turn" "nearest_turn" (defArgs sNearestTurn) (defBody sNearestTurn) (defScope sNearestTurn) dvs kws f fd) (T : NoG mg) (x_NoBook : XC K mg "NoBook" xs.book) (x_NoBeat : XC K mg "NoBeat" xs.beat) (C : Csts mg) (c_want_stand : Cal P w K mg base (L2.CX P w) 3 "want_stand" ["wont", "thing"] (spWantStand K cW cS xs)) (c_want_beats : Cal P w K mg base (L2.CX P w) 3 "want_beats" ["thing", "low", "high"] (spWantBeats K cW cS xs)) (c_want_knob : Cal P w K mg base (L2.CX P w) 5 "want_knob" ["wont", "thing"] (spWantKnob K cW cS xs)) (c_value_of : Cal P w K mg base CX0 1 "value_of" ["wont", "stand", "knob"] (spValueOf K cW cS)) (c_pieces_of : Cal P w K mg base (L2.CX P w) 11 "pieces_of" ["wont", "stand", "beats", "knob", "low", "high"] (spPiecesOf K cW cS xs)) (c_is_choice : Cal P w K mg base CX0 3 "is_choice" ["wont", "book", "choice"] (spIsChoice K cW cS)) (c_is_from : Cal P w K mg base CX0 2 "is_from" ["thing", "low", "high"] (spIsFrom K cW cS)) (c_nearest_in : Cal P w K mg base CX0 1 "nearest_in" ["first", "last", "value"] (spNearestIn K cW cS)) : FnOk P w K mg base (L2.CX P w) 12 f fd ["wont", "stand", "beats", "knob", "book", "choice", "far"] (spNearestTurn K cW cS xs) := by
  refine F.ok scNearestTurn (fun vs H Q E h => ?_) (fun cdv A outer s H vs Q E hr h => ?_)
  · repeat (first | (obtain ⟨rfl, _⟩ := h; rfl) | (obtain ⟨_, h⟩ := h))
  · obtain ⟨pw, W, x, y, z, b, c, f', rfl, hWt, hy, hb, hc, hf, hcase⟩ := h
    refine ⟨_, (pss_cons (ps_expr (pe_cal c_want_stand (hr.mono (by decide)) (passes_call (E := E) (takes_of rfl rfl rfl rfl) fun _ _ _ _ h => h) (pa_cons (pv 0) (pa_cons (pv 1) pa_nil))))
      (pss_cons (ps_expr (pe_cal c_want_beats (hr.mono (by decide)) (passes_call (E := E) (takes_of rfl rfl rfl rfl) fun _ _ _ _ h => h) (pa_cons (pv 2) (pa_cons pe_int (pa_cons (pe_const (by rfl) C.MOST_TURNED) pa_nil)))))
      (pss_cons (ps_expr (pe_cal c_want_knob (hr.mono (by decide)) (passes_call (E := E) (takes_of rfl rfl rfl rfl) fun _ _ _ _ h => h) (pa_cons (pv 0) (pa_cons (pv 3) pa_nil))))
      (pss_cons (ps_if (pt_not (pt_val (pe_cal c_is_choice (hr.mono (by decide)) pass0 (pa_cons (pv 0) (pa_cons (pv 4) (pa_cons (pv 5) pa_nil)))))) (pss_one (ps_raise rfl (takes_of rfl rfl rfl rfl) (pmk_own0 PySem.F.excBase_ValueError x_NoBook.ex x_NoBook.mg x_NoBook.kp (raises_own x_NoBook.sub x_NoBook.ty) (by rfl)))) pss_nil)
      (pss_cons (ps_if (pt_not (pt_val (pe_cal c_is_from (hr.mono (by decide)) pass0 (pa_cons (pv 6) (pa_cons pe_int (pa_cons (pe_const (by rfl) C.MOST_AMOUNT) pa_nil)))))) (pss_one (ps_raise rfl (takes_of rfl rfl rfl rfl) (pmk_own0 PySem.F.excBase_ValueError x_NoBeat.ex x_NoBeat.mg x_NoBeat.kp (raises_own x_NoBeat.sub x_NoBeat.ty) (by rfl)))) pss_nil)
      (pss_cons (ps_set (i := 7) scNearestTurn.nd rfl (Or.inl rfl) (pe_cal c_value_of (hr.mono (by decide)) pass0 (pa_cons (pv 0) (pa_cons (pv 1) (pa_cons (pv 3) pa_nil)))))
      (pss_cons (ps_par (i := 8) (j := 9) rfl scNearestTurn.nd rfl rfl (by decide) rfl rfl (pa_cons (pe_op op_sub (pv 7) (pv 6)) (pa_cons (pe_op op_add (pv 7) (pv 6)) pa_nil)) (by rfl))
      (pss_cons (ps_if (pt_cmpR op_ne (pe_ix ix_tup (pv 3) pe_int (fun _ _ => rfl)) pe_str (nomark _)) (pss_one (ps_par (i := 8) (j := 9) rfl scNearestTurn.nd rfl rfl (by decide) rfl rfl (pa_cons (pe_callB (call_max2 rfl) (by rfl) T.max (by decide +kernel) (pa_cons (pv 8) (pa_cons (pe_un un_neg (pe_const (by rfl) C.MOST_AMOUNT)) pa_nil))) (pa_cons (pe_callB (call_min2 rfl) (by rfl) T.min (by decide +kernel) (pa_cons (pv 9) (pa_cons (pe_const (by rfl) C.MOST_AMOUNT) pa_nil))) pa_nil)) (by rfl))) pss_nil)
      (pss_cons (ps_set (i := 10) scNearestTurn.nd rfl (Or.inl rfl) pe_non)
      (pss_cons (ps_for (passes_of rfl) rfl (pi_list (pe_cal c_pieces_of (hr.mono (by decide)) (passes_call (E := E) (takes_of rfl rfl rfl rfl) fun _ _ _ _ h => h) (pa_cons (pv 0) (pa_cons (pv 1) (pa_cons (pv 2) (pa_cons (pv 3) (pa_cons (pv 8) (pa_cons (pv 9) pa_nil)))))))) (pg_tup (n := 3) rfl (pgs_cons (pg_name (i := 11) scNearestTurn.nd rfl (Or.inl rfl)) (pgs_cons (pg_name (i := 12) scNearestTurn.nd rfl (Or.inl rfl)) (pgs_cons (pg_name (i := 13) scNearestTurn.nd rfl (Or.inl rfl)) pgs_nil))))
        (pss_cons (ps_set (i := 14) scNearestTurn.nd rfl (Or.inl rfl) (pe_cal c_nearest_in (hr.mono (by decide)) pass0 (pa_cons (pv 11) (pa_cons (pv 12) (pa_cons (pv 7) pa_nil)))))
          (pss_one (ps_if (PW.pt (pw_and (pt_cmpR op_eq (pe_ix ix_tup (pe_ix ix_list (pv 13) (pe_un un_neg pe_int) (fun _ _ => rfl)) (pv 4) (fun _ _ => rfl)) (pv 5) (nomark _)) (pw_and1 (PW.pt (pw_or (pt_cmp (pc_isN (pv 10))) (pw_or1 (pt_cmpR op_le (pe_callB call_abs (by rfl) T.abs (by decide +kernel) (pa_cons (pe_op op_sub (pv 14) (pv 7)) pa_nil)) (pe_callB call_abs (by rfl) T.abs (by decide +kernel) (pa_cons (pe_op op_sub (pv 10) (pv 7)) pa_nil)) (nomark _)))))))) (pss_one (ps_set (i := 10) scNearestTurn.nd rfl (Or.inl rfl) (pv 14))) pss_nil))))
      (pss_one (ps_ret (pv 10))))))))))))), ?_⟩
    obtain ⟨ok, _⟩ := id hWt
    rcases hcase with ⟨rfl, k1⟩ | ⟨a, st0, rfl, hst, hcase⟩
    · exact ⟨_, rfl, _, rfl, pw, W, .non, false, rfl, hWt, .inl ⟨rfl, rfl⟩, fun H1 s1 => by rw [if_neg (by decide)]; exact k1 H1 s1⟩
    refine ⟨_, rfl, _, rfl, pw, W, .ref a, true, rfl, hWt, .inr ⟨rfl, a, st0, rfl, hst⟩, fun H1 s1 => ?_⟩
    rw [if_pos rfl]
    rcases hcase with ⟨hy1, k1⟩ | ⟨hy1, hcase⟩
    · exact ⟨_, rfl, y, 1, 60, rfl, hy, by rw [hy1, if_neg (by decide)]; exact k1 H1 s1⟩
    refine ⟨_, rfl, y, 1, 60, rfl, hy, ?_⟩
    rw [hy1, if_pos rfl]
    rcases hcase with ⟨ho, k1⟩ | ⟨kk, k, rfl, hk, hok, hcase⟩
    · exact ⟨_, rfl, _, rfl, pw, W, z, false, rfl, hWt.same s1, .inr ⟨rfl, ho.same s1⟩, fun H2 s2 => by rw [if_neg (by decide)]; exact k1 H2 (Same.tr s1 s2)⟩
    refine ⟨_, rfl, _, rfl, pw, W, .ref kk, true, rfl, hWt.same s1, .inl ⟨rfl, kk, k, rfl, s1 _ _ hk, hok⟩, fun H2 s2 => ?_⟩
    rw [if_pos rfl]
    have s12 := Same.tr s1 s2
    refine ⟨_, rfl, _, rfl, _, rfl, pw, W, b, c, rfl, hWt.same s12, hb, hc, _, rfl, ?_⟩
    rcases hcase with ⟨hch, k1⟩ | ⟨hch, hcase⟩
    · rw [hch]; exact iteT (k1 H2 s12)
    rw [hch]
    refine iteF ⟨_, rfl, f', 0, 1000000000, rfl, hf, _, rfl, ?_⟩
    rcases hcase with ⟨hf1, k1⟩ | ⟨T', spot, wish, far, rfl, rfl, rfl, rfl, hf1, kont⟩
    · rw [hf1]; exact iteT (k1 H2 s12)
    rw [hf1]
    have yok := Pm.sys_ok ok (s := st0) hok
    have hT : 1 ≤ (T' : Int) ∧ (T' : Int) ≤ 60 := of_decide_eq_true hy1
    have hsp : spot < W.nb := by
      unfold chOk at hch
      rw [Bool.and_eq_true] at hch
      have : 0 ≤ (spot : Int) ∧ (spot : Int) ≤ (W.nb : Int) - 1 := of_decide_eq_true hch.1
      omega
    refine iteF ⟨_, rfl, _, rfl, _, rfl, pw, W, a, kk, st0, k, rfl, hWt.same s12, hst.same s12, s12 _ _ hk, hok, fun H3 s3 => ?_⟩
    have s13 := Same.tr s12 s3
    have hk3 := s13 _ _ hk
    generalize hown : Pm.own W st0 k = own
    obtain ⟨wd, hw0, hwd⟩ := is_str_word k
    have hfar : 0 ≤ far ∧ far ≤ 1000000000 := of_decide_eq_true hf1
    refine ⟨_, rfl, _, rfl, _, _, rfl, rfl, _, rfl, _, rfl, _, _, rfl, rfl, _, _, rfl, ?_⟩
    refine ⟨_, rfl, _, _, _, _, rfl, rfl, SqT.of hk3, atI_nat hw0, rfl, _, rfl, ?_⟩
    rw [hwd]
    cases hstr : Pm.isStr k
    case' false =>
      refine iteT ⟨_, rfl, _, rfl, _, _, rfl, _, rfl, _, _, rfl, _, _, rfl, ?_⟩
      have hbn : bnd k own far = ((if -1000000000 > own - far then -1000000000 else own - far), (if 1000000000 < own + far then 1000000000 else own + far)) := by
        unfold bnd
        rw [hstr, if_neg (by decide)]
        refine Prod.ext ?_ ?_
        · show max (own - far) (-1000000000) = _; split <;> omega
        · show min (own + far) 1000000000 = _; split <;> omega
      have hrg : Pm.isStr k = true ∨ (-1000000000 ≤ (if -1000000000 > own - far then -1000000000 else own - far) ∧ (if 1000000000 < own + far then 1000000000 else own + far) ≤ 1000000000) := .inr ⟨by split <;> omega, by split <;> omega⟩
      dsimp only
      generalize (if -1000000000 > own - far then -1000000000 else own - far) = lo at hbn hrg
      generalize (if 1000000000 < own + far then 1000000000 else own + far) = hi at hbn hrg
    case' true =>
      refine iteF ?_
      have hbn : bnd k own far = (own - far, own + far) := by unfold bnd; rw [hstr, if_pos rfl]
      have hrg : Pm.isStr k = true ∨ (-1000000000 ≤ own - far ∧ own + far ≤ 1000000000) := .inl hstr
      dsimp only
      generalize own - far = lo at hbn hrg
      generalize own + far = hi at hbn hrg
    all_goals
      have ek : dueOf W st0 k T' far spot wish = ((Pm.sys W st0 k).pcs T' hi 300 lo).map ((Pm.sys W st0 k).near T' own spot wish) := by
        unfold dueOf Pm.Sys.due
        rw [hown, hbn]
      rw [ek] at kont
      refine ⟨_, rfl, _, rfl, _, rfl, _, rfl, _, rfl, _, rfl, pw, a, kk, W, st0, k, T', lo, hi, rfl, hWt.same s13, hst.same s13, hk3, hok, by omega, by omega, hrg, ?_⟩
      cases hps : (Pm.sys W st0 k).pcs T' hi 300 lo with
      | none =>
        rw [hps] at kont
        exact fun H4 s4 => kont H4 (Same.tr s13 s4)
      | some ps =>
        rw [hps] at kont
        have kont : ∀ H', Same H H' → Q (hiV (ps.foldl ((Pm.sys W st0 k).nearStep T' own spot wish) none)) H' := kont
        rintro r H4 s4 ⟨qs, hr, hql, hqs⟩
        refine ⟨r, rfl, ⟨_, SqL.of hr⟩, for_it (walk_list (xs := qs.map V.ref)) (fun i σ H' => Same H4 H' ∧ ∃ fnd x11 x12 x13 x14, (ps.take i).foldl ((Pm.sys W st0 k).nearStep T' own spot wish) none = fnd ∧ σ = [some (.ref pw), some (.ref a), some (.int (T' : Nat)), some (.ref kk), some (.int (spot : Nat)), some (.int (wish : Nat)), some (.int far), some (.int own), some (.int lo), some (.int hi), some (hiV fnd), x11, x12, x13, x14]) ?_ ?_ ?_ ?_⟩
        · exact ⟨Same.rf, _, _, _, _, _, rfl, rfl⟩
        · rintro i σ H' _ ⟨s', _⟩; exact SqL.of (s' _ _ hr)
        · rintro i x σ _ H5 hin ⟨s5, fnd, x11, x12, x13, x14, hv, rfl⟩ ⟨rfl, hx⟩
          obtain ⟨q, hq, rfl⟩ := refs_get hx
          have hil : i < ps.length := by have := get_lt hq; omega
          have hpe : ps[i]? = some ps[i] := List.getElem?_eq_getElem hil
          have htk : ps.take (i + 1) = ps.take i ++ [ps[i]] := List.take_succ_eq_append_getElem hil
          generalize ps[i] = pc at hpe htk
          obtain ⟨rw', js, h1, h2, h3, h4⟩ := (hqs i q pc hq hpe).same s5
          have hjl : js[T' - 1]? = some (js[T' - 1]'(by omega)) := List.getElem?_eq_getElem _
          generalize js[T' - 1]'(by omega) = jq at hjl
          have hjt := h4 _ _ hjl
          have hjl2 : (js.map V.ref)[(js.map V.ref).length - 1]? = some (.ref jq) := by rw [List.length_map, h3]; exact refs_at hjl
          refine ⟨q, _, rfl, SqT.of h1, rfl, _, _, rfl, _, _, rfl, _, _, rfl, rfl, ?_⟩
          refine ⟨_, rfl, _, rfl, _, rfl, pc.1, pc.2, own, rfl, ?_⟩
          have stp : ∀ fd, (ps.take (i + 1)).foldl ((Pm.sys W st0 k).nearStep T' own spot wish) none = fd ↔ (Pm.sys W st0 k).nearStep T' own spot wish ((ps.take i).foldl ((Pm.sys W st0 k).nearStep T' own spot wish) none) pc = fd := fun fd => by
            rw [htk, List.foldl_append]; rfl
          rw [hv] at stp
          refine ⟨_, rfl, _, rfl, rw', _, _, _, rfl, rfl, SqL.of h2, atI_end hjl2 (by rw [List.length_map]; omega), _, rfl, _, _, _, _, rfl, rfl, SqT.of hjt, atI_nat (nums_at hsp), _, rfl, rfl, _, rfl, ite2 (fun e => ?_) (fun e => ?_)⟩
          · have ew : (Pm.sys W st0 k).J ((Pm.sys W st0 k).st pc.1 (T' - 1)) spot = wish := by have := V.int.inj (of_decide_eq_true e); omega
            cases fnd with
            | none =>
              have en := (stp (some (min (max pc.1 own) pc.2))).mpr (by unfold Pm.Sys.nearStep; simp only; rw [if_pos ⟨ew, rfl⟩])
              refine ⟨_, rfl, _, rfl, iteT (iteT ⟨_, rfl, s5, _, _, _, _, _, en, rfl⟩)⟩
            | some wv =>
              refine ⟨_, rfl, _, rfl, iteF ⟨_, rfl, _, rfl, _, _, rfl, rfl, _, rfl, _, rfl, _, rfl, _, _, rfl, rfl, _, rfl, _, _, rfl, rfl, _, rfl, ?_⟩⟩
              dsimp only
              rw [abs_le]
              refine ite2 (fun e2 => ?_) (fun e2 => ?_)
              · have en := (stp (some (min (max pc.1 own) pc.2))).mpr (by unfold Pm.Sys.nearStep; simp only; rw [if_pos ⟨ew, e2⟩])
                exact ⟨_, rfl, s5, _, _, _, _, _, en, rfl⟩
              · have en := (stp (some wv)).mpr (by unfold Pm.Sys.nearStep; simp only; rw [if_neg fun z => e2 z.2])
                exact ⟨s5, _, _, _, _, _, en, rfl⟩
          · have ew : ¬ (Pm.sys W st0 k).J ((Pm.sys W st0 k).st pc.1 (T' - 1)) spot = wish := fun z => e (decide_eq_true (by rw [z]))
            have en := (stp fnd).mpr (by unfold Pm.Sys.nearStep; simp only; rw [if_neg fun z => ew z.1])
            exact iteF ⟨s5, _, _, _, _, _, en, rfl⟩
        · rintro σ H5 ⟨s5, fnd, x11, x12, x13, x14, hv, rfl⟩
          rw [List.length_map, hql, List.take_length] at hv
          subst hv
          exact ⟨_, rfl, kont H5 (Same.tr s13 (Same.tr s4 s5))⟩
end
end WB


namespace WB
open PySem L2
theorem eq_fil {α : Type} {l : List α} {d : α} {q : α → Bool} {g : α → V} {ys : List V} (hl : ys.length = ((List.range l.length).filter fun i => q (l.getD i d)).length) (hr : ∀ (j : Nat) (y : V), ys[j]? = some y → ∃ i, ((List.range l.length).filter fun i => q (l.getD i d))[j]? = some i ∧ y = g (l.getD i d)) : ys = (l.filter q).map g := by
  rw [filter_ix l d q, List.map_map]
  apply List.ext_getElem?
  intro j
  rw [List.getElem?_map]
  by_cases hj : j < ys.length
  · have e : ys[j]? = some ys[j] := List.getElem?_eq_getElem hj
    obtain ⟨i, e1, e2⟩ := hr j _ e
    rw [e, e1, e2]; rfl
  · rw [List.getElem?_eq_none (by omega), List.getElem?_eq_none (by omega)]; rfl
theorem getD_at {α : Type} {l : List α} {i : Nat} {d : α} (h : i < l.length) : l[i]? = some (l.getD i d) := by
  rw [List.getElem?_eq_getElem h]; simp [List.getD, List.getElem?_eq_getElem h]
def spLPut (K : PySem.W.Frag) (cW cS : Addr) : Sp := spPutIn K cW cS
def spLJoint (K : PySem.W.Frag) (cW cS : Addr) : Sp := fun vs H Q _ => ∃ (ta a : Addr) (W : Pm.Wd) (st : Pm.Stand), vs = [.ref ta, .ref a] ∧ W.Ok ∧ ToldAt H ta W ∧ StAt H a W.nb W.sz st ∧ ∀ r H', Same H H' → JtAt H' r W.nb (fun b => Pm.pick (W.ord b) (st b)) → Q (.ref r) H'
def spLOwn (K : PySem.W.Frag) (cW cS : Addr) : Sp := fun vs H Q _ => ∃ (ta a kk : Addr) (W : Pm.Wd) (st : Pm.Stand) (k : Pm.Knob), vs = [.ref ta, .ref a, .ref kk] ∧ W.Ok ∧ ToldAt H ta W ∧ StAt H a W.nb W.sz st ∧ KnobAt H kk k ∧ k.ok W ∧ ∀ H', Same H H' → Q (.int (Pm.own W st k)) H'
def spLNearest (K : PySem.W.Frag) (cW cS : Addr) : Sp := fun vs H Q _ => ∃ (r : Addr) (own : Int) (spot wish T : Nat) (Y : Pm.Sys) (ps : List (Int × Int)), vs = [.ref r, .int own, .int (spot : Nat), .int (wish : Nat)] ∧ 0 < T ∧ spot < Y.nb ∧ PiecesAt H r Y T ps ∧ ∀ H', Same H H' → Q (hiV (Y.near T own spot wish ps)) H'
theorem idx_word : ∀ (w : Str), (if decide (V.str w = V.str "wane") = true then (1 : Int) else 0) = if w = "wane" then 1 else 0 := fun w => by
  by_cases h : w = "wane"
  · subst h; rw [strT]; rfl
  · rw [strF h, if_neg h]; rfl
section
variable {P : Program} {w : World} {K : PySem.W.Frag} {mg : Str → Option Value} {base : Heap} {cW cS dW : Addr} {xs : Exs}
abbrev sLPut : Stmt := top 60
theorem scLPut : FnScope ["_law_some", "_law_spot", "_law_thing"] ["_law_some", "_law_spot", "_law_thing"] (defScope sLPut) := ⟨rfl, rfl, rfl, by decide +kernel, rfl, by decide +kernel, by decide +kernel⟩
theorem ok_LPut {f : Addr} {fd : FuncData} (F : Fun K "_law_put" "_law_put" sLPut f fd) (T : NoG mg)  : FnOk P w K mg base CX0 1 f fd ["_law_some", "_law_spot", "_law_thing"] (spLPut K cW cS) := by
  refine F.ok scLPut (fun vs H Q E h => ?_) (fun cdv A outer s H vs Q E hr h => ?_)
  · repeat (first | (obtain ⟨rfl, _⟩ := h; rfl) | (obtain ⟨_, h⟩ := h))
  · obtain ⟨a, i, v, xs, rfl, ha, hi, hl, k⟩ := h
    refine ⟨_, (pss_one (ps_ret (pe_op op_catA (pe_op op_catA (pe_slice sl_tupA (pv 0) po_none (po_some (pv 1))) (pe_tup (pa_cons (pv 2) pa_nil))) (pe_slice sl_tupA (pv 0) (po_some (pe_op op_add (pv 1) pe_int)) po_none)))), ?_⟩
    refine ⟨_, rfl, _, rfl, _, rfl, cut_ok ha fun r1 H1 s1 h1 => ?_⟩
    refine ⟨_, rfl, big1000 (by simp), fun p hp => cat_ok (sameUpd hp _ _ h1) upd_same ?_ fun r3 H3 s3 h3 => ?_⟩
    · rw [cut_to]; simp; omega
    refine ⟨_, rfl, _, rfl, ⟨_, _, rfl, rfl, _, rfl, ?_⟩⟩
    dsimp only [tNoPart]
    refine cut_ok (s3 _ _ (sameUpd hp _ _ (s1 _ _ ha))) ?_
    intro r4 H4 s4 h4
    refine cat_ok (s4 _ _ h3) h4 ?_ fun r5 H5 s5 h5 => ?_
    · rw [cut_to]
      have := cutV_length xs (some ((i : Int) + 1)) none
      simp; omega
    refine k _ _ (Same.tr s1 (Same.tr (sameUpd hp) (Same.tr s3 (Same.tr s4 s5)))) ?_
    rw [h5, cut_to, show ((i : Int) + 1) = ((i + 1 : Nat) : Int) from rfl, cut_from, put_at _ _ _ hi]
abbrev sLJoint : Stmt := top 56
theorem scLJoint : FnScope ["_law_told_here", "_law_stand_here", "_law_found", "_law_order_here", "_law_gains", "_law_wanes", "_law_strengths", "_law_pick"] ["_law_told_here", "_law_stand_here"] (defScope sLJoint) := ⟨rfl, rfl, rfl, by decide +kernel, rfl, by decide +kernel, by decide +kernel⟩
theorem ok_LJoint {f : Addr} {fd : FuncData} (F : Fun K "_law_joint" "_law_joint" sLJoint f fd) (T : NoG mg)  : FnOk P w K mg base CX0 1 f fd ["_law_told_here", "_law_stand_here"] (spLJoint K cW cS) := by
  refine F.ok scLJoint (fun vs H Q E h => ?_) (fun cdv A outer s H vs Q E hr h => ?_)
  · repeat (first | (obtain ⟨rfl, _⟩ := h; rfl) | (obtain ⟨_, h⟩ := h))
  · obtain ⟨ta, a, W, st, rfl, ok, ⟨la, lb, ps, qs, fs, hta, td⟩, ⟨ss, ha, hsl, hss⟩, kont⟩ := h
    refine ⟨_, (pss_cons (ps_set (i := 2) scLJoint.nd rfl (Or.inl rfl) (pe_lst pa_nil))
      (pss_cons (ps_for PassesOwn.never rfl (pi_zipM (by rfl) T.zip (pa_cons (pe_ix ix_tup (pv 0) pe_int (fun _ _ => rfl)) (pa_cons (pv 1) pa_nil))) (pg_tup (n := 2) rfl (pgs_cons (pg_tup (n := 3) rfl (pgs_cons (pg_name (i := 3) scLJoint.nd rfl (Or.inl rfl)) (pgs_cons (pg_name (i := 4) scLJoint.nd rfl (Or.inl rfl)) (pgs_cons (pg_name (i := 5) scLJoint.nd rfl (Or.inl rfl)) pgs_nil)))) (pgs_cons (pg_name (i := 6) scLJoint.nd rfl (Or.inr rfl)) pgs_nil)))
        (pss_one (ps_expr (pe_bm PySem.F.plainAttrs_list PySem.F.slot_list_append PySem.F.type_list_append mt_append (pv 2) (pa_cons (pe_ix ix_list (pe_lcD (own := [("_law_pick", 7)]) rfl scLJoint.nd (pi_tup (pv 3)) (blkOk_by (by kernel_rfl)) (fun _ _ _ _ _ => (pg_name (i := 7) scLJoint.nd rfl (Or.inl rfl))) (fun _ _ _ _ _ => pts_one (pt_cmpR op_eq (pe_ix ix_tup (pv 6) (pv 7) (fun _ _ => rfl)) (pe_callB (cr_maxT rfl hr.units) (by rfl) T.max (by decide +kernel) (pa_cons (pv 6) pa_nil)) (nomark _))) (fun _ _ _ _ _ => (pv 7))) pe_int (fun _ _ => rfl)) pa_nil)))))
      (pss_one (ps_ret (pe_tupleOf (by rfl) T.tuple (pv 2)))))), ?_⟩
    have n4 := ok.n4
    have hpl := td.bk.1
    refine ⟨big1000 (by simp), fun D hD => ?_⟩
    have s0 : Same H (upd H D (.lst [])) := sameUpd hD
    refine ⟨_, rfl, _, _, _, _, rfl, rfl, SqT.of (s0 _ _ hta), rfl, _, rfl, false, true, la, a, _, _, rfl, SqL.of (s0 _ _ td.a), SqT.of (s0 _ _ ha), ?_⟩
    refine for_it (walk_zipM (xs := ps.map V.ref) (ys := ss.map V.ref) (by simp [hpl, hsl])) (fun i σ H' => Same H H' ∧ H' D = some (.lst (nums i fun b => ((Pm.pick (W.ord b) (st b) : Nat) : Int))) ∧ ∃ x3 x4 x5 x6 x7, σ = [some (.ref ta), some (.ref a), some (.ref D), x3, x4, x5, x6, x7]) ?_ ?_ ?_ ?_
    · exact ⟨s0, upd_same, _, _, _, _, _, rfl⟩
    · rintro i σ H' _ ⟨s', _⟩; exact ⟨SqL.of (s' _ _ td.a), SqT.of (s' _ _ ha)⟩
    · rintro i x σ H1 H2 hin ⟨s1, hD1, x3, x4, x5, x6, x7, rfl⟩ ⟨T', y1, y2, rfl, hT, rfl, e1, e2⟩
      obtain ⟨p, hp, rfl⟩ := refs_get e1
      obtain ⟨q, hq, rfl⟩ := refs_get e2
      have hib : i < W.nb := by have := get_lt hp; omega
      have s2 : Same H1 (upd H1 T' (.tup [.ref p, .ref q])) := sameUpd hT
      have s12 := Same.tr s1 s2
      obtain ⟨o, g, ww, b1, b2, b3, b4⟩ := (td.bk.2 i p hp).same s12
      have hq2 := s12 _ _ (hss i q hq)
      have hD2 := s2 _ _ hD1
      have h5 := ok.s5 i hib
      have hln := ok.ln i hib
      obtain ⟨mx, ms, em, hm⟩ := nums_max (W.sz i) (st i) (W.ord i) (ok.s1 i hib) (ok.mem i hib)
      refine ⟨T', _, rfl, SqT.of upd_same, rfl, _, _, rfl, p, _, rfl, SqT.of b1, rfl, _, _, rfl, _, _, rfl, _, _, rfl, rfl, _, _, rfl, rfl, ?_⟩
      refine ⟨_, rfl, .inl ⟨rfl, _, SqL.of hD2⟩, _, rfl, o, rfl, ⟨_, b2.sq⟩, fun D2 hD2' => ?_⟩
      have lno : (ordV (W.ord i)).length = (W.ord i).length := ordV_len _
      refine lc_colF walk_tup hD2' (by omega) (fun j => Pm.isMax (W.ord i) (st i) ((W.ord i).getD j 0)) (fun j y H => y = .int ((W.ord i).getD j 0 : Nat)) (fun j y H H' hk e => e) (fun H' s' => (b2.same s').sq) ?_ ?_
      · rintro j x _ H3 K3 N3 hj s3 ⟨acc, hacc⟩ ⟨rfl, hx⟩ hK hN
        obtain ⟨c, hc, rfl⟩ := ordV_get hx
        have hcd : (W.ord i).getD j 0 = c := by
          have := getD_at (d := 0) (get_lt hc)
          rw [hc] at this
          exact (Option.some.inj this).symm
        rw [hcd] at hK hN
        have hcn : c < W.sz i := (ok.mem i hib c).mp (List.mem_of_getElem? hc)
        have hq3 := s3 _ _ hq2
        refine ⟨rfl, _, rfl, _, rfl, _, _, _, _, rfl, rfl, SqT.of hq3, atI_nat (nums_at hcn), _, rfl, q, mx, ms, rfl, SqT.of (by rw [hq3, em]), rfl, _, rfl, ?_⟩
        cases hmx : Pm.isMax (W.ord i) (st i) c with
        | true =>
          rw [decide_eq_true (congrArg V.int ((hm c hcn).mpr hmx))]
          exact iteT ⟨_, rfl, hK hmx _ _ Same.rf rfl⟩
        | false =>
          rw [decide_eq_false (fun z => by rw [(hm c hcn).mp (V.int.inj z)] at hmx; cases hmx)]
          exact iteF (hN hmx _ Same.rf)
      · rintro H4 ys s4 hy hl4 hr4
        rw [lno] at hl4 hr4
        have ey := eq_fil (l := W.ord i) (d := 0) (q := Pm.isMax (W.ord i) (st i)) (g := fun c => .int (c : Nat)) hl4 hr4
        have hpk := Pm.pick_ok (ord := W.ord i) (by intro z; rw [z] at hln; have := ok.s1 i hib; simp at hln; omega) (st i)
        have h0 : ys[0]? = some (.int (Pm.pick (W.ord i) (st i) : Nat)) := by
          rw [ey, List.getElem?_map, ← List.head?_eq_getElem?, List.head?_filter, hpk]; rfl
        have hD4 := s4 _ _ hD2
        refine ⟨_, _, 0, _, rfl, rfl, SqL.of hy, atI_nat (j := 0) h0, D, _, _, rfl, rfl, hD4, by rw [nums_len, sizeLine_eq]; omega, ?_⟩
        refine ⟨sameW (Same.tr s12 s4) hD, ?_, _, _, _, _, _, rfl⟩
        rw [upd_same]
        simp only [nums, List.range_succ, List.map_append]
        rfl
    · rintro σ H1 ⟨s1, hD1, x3, x4, x5, x6, x7, rfl⟩
      rw [List.length_map, hpl] at hD1
      exact ⟨_, rfl, .inl ⟨D, _, rfl, SqL.of hD1, newT fun r H2 _ s2 h2 => kont r H2 (Same.tr s1 s2) h2⟩⟩
abbrev sLNearest : Stmt := top 67
theorem scLNearest : FnScope ["_law_some", "_law_own_here", "_law_spot", "_law_wish", "_law_found", "_law_start", "_law_end", "_law_row", "_law_number"] ["_law_some", "_law_own_here", "_law_spot", "_law_wish"] (defScope sLNearest) := ⟨rfl, rfl, rfl, by decide +kernel, rfl, by decide +kernel, by decide +kernel⟩
theorem ok_LNearest {f : Addr} {fd : FuncData} (F : Fun K "_law_nearest" "_law_nearest" sLNearest f fd) (T : NoG mg)  : FnOk P w K mg base CX0 1 f fd ["_law_some", "_law_own_here", "_law_spot", "_law_wish"] (spLNearest K cW cS) := by
  refine F.ok scLNearest (fun vs H Q E h => ?_) (fun cdv A outer s H vs Q E hr h => ?_)
  · repeat (first | (obtain ⟨rfl, _⟩ := h; rfl) | (obtain ⟨_, h⟩ := h))
  · obtain ⟨r, own, spot, wish, T', Y, ps, rfl, hT, hsp, ⟨qs, hr, hql, hqs⟩, kont⟩ := h
    refine ⟨_, (pss_cons (ps_set (i := 4) scLNearest.nd rfl (Or.inl rfl) pe_non)
      (pss_cons (ps_for PassesOwn.never rfl (pi_list (pv 0)) (pg_tup (n := 3) rfl (pgs_cons (pg_name (i := 5) scLNearest.nd rfl (Or.inl rfl)) (pgs_cons (pg_name (i := 6) scLNearest.nd rfl (Or.inl rfl)) (pgs_cons (pg_name (i := 7) scLNearest.nd rfl (Or.inl rfl)) pgs_nil))))
        (pss_cons (ps_set (i := 8) scLNearest.nd rfl (Or.inl rfl) (pe_callB (call_min2 rfl) (by rfl) T.min (by decide +kernel) (pa_cons (pe_callB (call_max2 rfl) (by rfl) T.max (by decide +kernel) (pa_cons (pv 5) (pa_cons (pv 1) pa_nil))) (pa_cons (pv 6) pa_nil))))
          (pss_one (ps_if (PW.pt (pw_and (pt_cmpR op_eq (pe_ix ix_tup (pe_ix ix_list (pv 7) (pe_un un_neg pe_int) (fun _ _ => rfl)) (pv 2) (fun _ _ => rfl)) (pv 3) (nomark _)) (pw_and1 (PW.pt (pw_or (pt_cmp (pc_isN (pv 4))) (pw_or1 (pt_cmpR op_le (pe_callB call_abs (by rfl) T.abs (by decide +kernel) (pa_cons (pe_op op_sub (pv 8) (pv 1)) pa_nil)) (pe_callB call_abs (by rfl) T.abs (by decide +kernel) (pa_cons (pe_op op_sub (pv 4) (pv 1)) pa_nil)) (nomark _)))))))) (pss_one (ps_set (i := 4) scLNearest.nd rfl (Or.inl rfl) (pv 8))) pss_nil))))
      (pss_one (ps_ret (pv 4))))), ?_⟩
    refine ⟨_, rfl, r, rfl, ⟨_, SqL.of hr⟩, for_it (walk_list (xs := qs.map V.ref)) (fun i σ H' => Same H H' ∧ ∃ fnd x5 x6 x7 x8, (ps.take i).foldl (Y.nearStep T' own spot wish) none = fnd ∧ σ = [some (.ref r), some (.int own), some (.int (spot : Nat)), some (.int (wish : Nat)), some (hiV fnd), x5, x6, x7, x8]) ?_ ?_ ?_ ?_⟩
    · exact ⟨Same.rf, _, _, _, _, _, rfl, rfl⟩
    · rintro i σ H' _ ⟨s', _⟩; exact SqL.of (s' _ _ hr)
    · rintro i x σ _ H5 hin ⟨s5, fnd, x11, x12, x13, x14, hv, rfl⟩ ⟨rfl, hx⟩
      obtain ⟨q, hq, rfl⟩ := refs_get hx
      have hil : i < ps.length := by have := get_lt hq; omega
      have hpe : ps[i]? = some ps[i] := List.getElem?_eq_getElem hil
      have htk : ps.take (i + 1) = ps.take i ++ [ps[i]] := List.take_succ_eq_append_getElem hil
      generalize ps[i] = pc at hpe htk
      obtain ⟨rw', js, h1, h2, h3, h4⟩ := (hqs i q pc hq hpe).same s5
      have hjl : js[T' - 1]? = some (js[T' - 1]'(by omega)) := List.getElem?_eq_getElem _
      generalize js[T' - 1]'(by omega) = jq at hjl
      have hjt := h4 _ _ hjl
      have hjl2 : (js.map V.ref)[(js.map V.ref).length - 1]? = some (.ref jq) := by rw [List.length_map, h3]; exact refs_at hjl
      refine ⟨q, _, rfl, SqT.of h1, rfl, _, _, rfl, _, _, rfl, _, _, rfl, rfl, ?_⟩
      have e1 : (if own > pc.1 then own else pc.1) = max pc.1 own := by split <;> omega
      have e2 : (if pc.2 < max pc.1 own then pc.2 else max pc.1 own) = min (max pc.1 own) pc.2 := by split <;> omega
      refine ⟨_, rfl, _, rfl, _, _, rfl, _, rfl, _, _, rfl, ?_⟩
      dsimp only
      rw [e1, e2]
      have stp : ∀ fd, (ps.take (i + 1)).foldl (Y.nearStep T' own spot wish) none = fd ↔ Y.nearStep T' own spot wish ((ps.take i).foldl (Y.nearStep T' own spot wish) none) pc = fd := fun fd => by
        rw [htk, List.foldl_append]; rfl
      rw [hv] at stp
      refine ⟨_, rfl, _, rfl, rw', _, _, _, rfl, rfl, SqL.of h2, atI_end hjl2 (by rw [List.length_map]; omega), _, rfl, _, _, _, _, rfl, rfl, SqT.of hjt, atI_nat (nums_at hsp), _, rfl, rfl, _, rfl, ite2 (fun e => ?_) (fun e => ?_)⟩
      · have ew : Y.J (Y.st pc.1 (T' - 1)) spot = wish := by have := V.int.inj (of_decide_eq_true e); omega
        cases fnd with
        | none =>
          have en := (stp (some (min (max pc.1 own) pc.2))).mpr (by unfold Pm.Sys.nearStep; simp only; rw [if_pos ⟨ew, rfl⟩])
          exact ⟨_, rfl, _, rfl, iteT (iteT ⟨_, rfl, s5, _, _, _, _, _, en, rfl⟩)⟩
        | some wv =>
          refine ⟨_, rfl, _, rfl, iteF ⟨_, rfl, _, rfl, _, _, rfl, rfl, _, rfl, _, rfl, _, rfl, _, _, rfl, rfl, _, rfl, _, _, rfl, rfl, _, rfl, ?_⟩⟩
          dsimp only
          rw [abs_le]
          refine ite2 (fun e2 => ?_) (fun e2 => ?_)
          · have en := (stp (some (min (max pc.1 own) pc.2))).mpr (by unfold Pm.Sys.nearStep; simp only; rw [if_pos ⟨ew, e2⟩])
            exact ⟨_, rfl, s5, _, _, _, _, _, en, rfl⟩
          · have en := (stp (some wv)).mpr (by unfold Pm.Sys.nearStep; simp only; rw [if_neg fun z => e2 z.2])
            exact ⟨s5, _, _, _, _, _, en, rfl⟩
      · have ew : ¬ Y.J (Y.st pc.1 (T' - 1)) spot = wish := fun z => e (decide_eq_true (by rw [z]))
        have en := (stp fnd).mpr (by unfold Pm.Sys.nearStep; simp only; rw [if_neg fun z => ew z.1])
        exact iteF ⟨s5, _, _, _, _, _, en, rfl⟩
    · rintro σ H5 ⟨s5, fnd, x11, x12, x13, x14, hv, rfl⟩
      rw [List.length_map, hql, List.take_length] at hv
      subst hv
      exact ⟨_, rfl, kont H5 s5⟩
abbrev sLOwn : Stmt := top 62
theorem scLOwn : FnScope ["_law_told_here", "_law_stand_here", "_law_knob_here", "_law_word", "_law_here", "_law_one_here", "_law_feed"] ["_law_told_here", "_law_stand_here", "_law_knob_here"] (defScope sLOwn) := ⟨rfl, rfl, rfl, by decide +kernel, rfl, by decide +kernel, by decide +kernel⟩
theorem ok_LOwn {f : Addr} {fd : FuncData} (F : Fun K "_law_own" "_law_own" sLOwn f fd) (T : NoG mg)  : FnOk P w K mg base CX0 1 f fd ["_law_told_here", "_law_stand_here", "_law_knob_here"] (spLOwn K cW cS) := by
  refine F.ok scLOwn (fun vs H Q E h => ?_) (fun cdv A outer s H vs Q E hr h => ?_)
  · repeat (first | (obtain ⟨rfl, _⟩ := h; rfl) | (obtain ⟨_, h⟩ := h))
  · obtain ⟨ta, a, kk, W, st, k, rfl, ok, ⟨la, lb, ps, qs, fs, hta, td⟩, ⟨ss, ha, hsl, hss⟩, hk, hok, kont⟩ := h
    refine ⟨_, (pss_cons (ps_asg (pe_slice sl_tupA (pv 2) po_none (po_some pe_int)) (pg_tup (n := 3) rfl (pgs_cons (pg_name (i := 3) scLOwn.nd rfl (Or.inl rfl)) (pgs_cons (pg_name (i := 4) scLOwn.nd rfl (Or.inl rfl)) (pgs_cons (pg_name (i := 5) scLOwn.nd rfl (Or.inl rfl)) pgs_nil)))))
      (pss_cons (ps_if (pt_cmpR op_eq (pv 3) pe_str (nomark _)) (pss_one (ps_ret (pe_ix ix_tup (pe_ix ix_tup (pv 1) (pv 4) (fun _ _ => rfl)) (pv 5) (fun _ _ => rfl)))) pss_nil)
      (pss_cons (ps_if (pt_cmpR op_eq (pv 3) pe_str (nomark _)) (pss_one (ps_ret (pe_callB (cr_sum rfl) (by rfl) T.sum (by decide +kernel) (pa_cons (pe_lcD (own := [("_law_feed", 6)]) rfl scLOwn.nd (pi_list (pe_ix ix_tup (pv 0) pe_int (fun _ _ => rfl))) (blkOk_by (by kernel_rfl)) (fun _ _ _ _ _ => (pg_name (i := 6) scLOwn.nd rfl (Or.inl rfl))) (fun _ _ _ _ _ => pts_one (pt_cmpR (op_eqD hr.units) (pe_slice sl_tupA (pv 6) po_none (po_some pe_int)) (pe_slice sl_tupA (pv 2) (po_some pe_int) po_none) (nomark _))) (fun _ _ _ _ _ => (pe_ix ix_tup (pv 6) pe_int (fun _ _ => rfl)))) pa_nil)))) pss_nil)
      (pss_one (ps_ret (pe_ix ix_tup (pe_ix ix_tup (pe_ix ix_list (pe_ix ix_tup (pv 0) pe_int (fun _ _ => rfl)) (pv 4) (fun _ _ => rfl)) (pe_op op_add pe_int (pe_callTy call_int1 (by rfl) T.int (by decide +kernel) (pa_cons (pe_cmpR op_eq (pv 3) pe_str (nomark _)) pa_nil))) (fun _ _ => rfl)) (pv 5) (fun _ _ => rfl))))))), ?_⟩
    have n4 := ok.n4
    have w3 : ∃ wd : Str, (knobV k).take 3 = [.str wd, .int (k.b : Nat), .int (k.c : Nat)] ∧ wd = (match k with | .str _ _ => "strength" | .gain _ _ => "gain" | .wane _ _ => "wane" | .feed _ _ _ _ => "feed") := by
      cases k <;> exact ⟨_, rfl, rfl⟩
    obtain ⟨wd, hw, hwd⟩ := w3
    refine ⟨_, rfl, _, rfl, cut_ok hk fun r1 H1 s1 h1 => ?_⟩
    have h1' : H1 r1 = some (.tup [.str wd, .int (k.b : Nat), .int (k.c : Nat)]) := by rw [h1, ← hw]; exact congrArg (fun l => some (HO.tup l)) (cut_to (knobV k) 3)
    refine ⟨r1, _, rfl, SqT.of h1', rfl, _, _, rfl, _, _, rfl, _, _, rfl, rfl, _, rfl, rfl, _, rfl, ?_⟩
    cases k with
    | str b c =>
      have hwd : wd = "strength" := hwd
      subst hwd
      have e : ss[b]? = some (ss[b]'(by rw [hsl]; exact hok.1)) := List.getElem?_eq_getElem _
      rw [strT]
      exact iteT ⟨_, rfl, _, rfl, _, _, _, _, rfl, rfl, SqT.of (s1 _ _ ha), atI_nat (refs_at e), _, rfl, _, _, _, _, rfl, rfl, SqT.of (s1 _ _ (hss b _ e)), atI_nat (nums_at hok.2), kont _ s1⟩
    | gain b c =>
      have hwd : wd = "gain" := hwd
      subst hwd
      rw [strF (by decide)]
      refine iteF ⟨_, rfl, rfl, _, rfl, ?_⟩
      rw [strF (by decide)]
      have hbp : ps[b]? = some (ps[b]'(by rw [td.bk.1]; exact hok.1)) := List.getElem?_eq_getElem _
      obtain ⟨o, g, ww, b1, b2, b3, b4⟩ := (td.bk.2 b _ hbp).same s1
      refine iteF ⟨_, rfl, _, _, _, _, rfl, rfl, SqT.of (s1 _ _ hta), rfl, _, rfl, _, _, _, _, rfl, rfl, SqL.of (s1 _ _ td.a), atI_nat (refs_at hbp), _, rfl, rfl, .inr ⟨_, rfl, ?_⟩⟩
      rw [idx_word]
      exact ⟨_, _, rfl, rfl, _, _, _, _, rfl, rfl, SqT.of b1, rfl, _, rfl, _, _, _, _, rfl, rfl, SqT.of b3, atI_nat (nums_at hok.2), kont _ s1⟩
    | wane b c =>
      have hwd : wd = "wane" := hwd
      subst hwd
      rw [strF (by decide)]
      refine iteF ⟨_, rfl, rfl, _, rfl, ?_⟩
      rw [strF (by decide)]
      have hbp : ps[b]? = some (ps[b]'(by rw [td.bk.1]; exact hok.1)) := List.getElem?_eq_getElem _
      obtain ⟨o, g, ww, b1, b2, b3, b4⟩ := (td.bk.2 b _ hbp).same s1
      refine iteF ⟨_, rfl, _, _, _, _, rfl, rfl, SqT.of (s1 _ _ hta), rfl, _, rfl, _, _, _, _, rfl, rfl, SqL.of (s1 _ _ td.a), atI_nat (refs_at hbp), _, rfl, rfl, .inr ⟨_, rfl, ?_⟩⟩
      rw [idx_word]
      exact ⟨_, _, rfl, rfl, _, _, _, _, rfl, rfl, SqT.of b1, rfl, _, rfl, _, _, _, _, rfl, rfl, SqT.of b4, atI_nat (nums_at hok.2), kont _ s1⟩
    | feed b c t o =>
      have hwd : wd = "feed" := hwd
      subst hwd
      rw [strF (by decide)]
      refine iteF ⟨_, rfl, rfl, _, rfl, ?_⟩
      rw [strT]
      have hfl : fs.length ≤ 1000 := by have := ok.fl; have := td.pm.length_eq; omega
      have hql := td.fd.1
      refine iteT ⟨_, rfl, _, _, _, _, rfl, rfl, SqT.of (s1 _ _ hta), rfl, lb, rfl, ⟨_, SqL.of (s1 _ _ td.b)⟩, fun D2 hD2 => ?_⟩
      refine lc_colF walk_list hD2 (by rw [List.length_map]; omega) (fun i => decide ((fs.getD i ⟨0, 0, 0, 0, 0⟩).key = (b, c, t, o))) (fun i y H => y = .int (fs.getD i ⟨0, 0, 0, 0, 0⟩).amt) (fun i y H H' hk e => e) (fun H' s' => SqL.of (s' _ _ (s1 _ _ td.b))) ?_ ?_
      · rintro i x _ H3 K3 N3 hi3 s3 ⟨acc, hacc⟩ ⟨rfl, hx⟩ hK hN
        obtain ⟨q, hq, rfl⟩ := refs_get hx
        have hil : i < fs.length := by have := get_lt hq; omega
        have hf : fs[i]? = some (fs.getD i ⟨0, 0, 0, 0, 0⟩) := getD_at hil
        generalize fs.getD i ⟨0, 0, 0, 0, 0⟩ = fe at hK hN hf
        have hqt := s3 _ _ (s1 _ _ (td.fd.2 i q _ hq hf))
        refine ⟨rfl, _, rfl, _, rfl, cut_ok hqt ?_⟩
        intro r4 H4 s4 h4
        refine ⟨_, rfl, _, rfl, cut_oN (s4 _ _ (s3 _ _ (s1 _ _ hk))) ?_⟩
        intro r5 H5 s5 h5
        refine ⟨tI [(fe.b : Nat), (fe.c : Nat), (fe.t : Nat), (fe.o : Nat)], tI [(b : Nat), (c : Nat), (t : Nat), (o : Nat)], dp_ints (SqT.of ?_), dp_ints (SqT.of ?_), tI_shaped _, tI_shaped _, _, rfl, ?_⟩
        · rw [s5 _ _ h4]; rfl
        · rw [h5]; rfl
        rw [tI_eqv]
        by_cases hkey : fe.key = (b, c, t, o)
        · rw [decide_eq_true (by have := hkey; simp [Pm.Fd.key] at this; simp [this])]
          exact iteT ⟨_, rfl, _, _, _, _, rfl, rfl, SqT.of (s5 _ _ (s4 _ _ hqt)), rfl, hK (by simp [hkey]) _ _ (Same.tr s4 s5) rfl⟩
        · rw [decide_eq_false (fun z => hkey (by simp at z; simp only [Pm.Fd.key, Prod.mk.injEq]; omega))]
          exact iteF (hN (by simp [hkey]) _ (Same.tr s4 s5))
      · rintro H4 ys s4 hy hl4 hr4
        simp only [List.length_map, hql] at hl4 hr4
        have ey := eq_fil (l := fs) (d := ⟨0, 0, 0, 0, 0⟩) (q := fun f => decide (f.key = (b, c, t, o))) (g := fun f => .int f.amt) hl4 hr4
        refine ⟨D2, (fs.filter fun f => decide (f.key = (b, c, t, o))).map (·.amt), rfl, SqL.of (by rw [hy, ey, List.map_map]; rfl), ?_⟩
        have : ((fs.filter fun f => decide (f.key = (b, c, t, o))).map (·.amt)).sum = Pm.famt W.fs (b, c, t, o) := famt_perm td.pm _
        rw [this]
        exact kont _ (Same.tr s1 s4)
end
end WB


namespace WB
open PySem L2
def spLTurned (K : PySem.W.Frag) (cW cS : Addr) : Sp := fun vs H Q _ => ∃ (ta a kk : Addr) (W : Pm.Wd) (st : Pm.Stand) (k : Pm.Knob) (v : Int), vs = [.ref ta, .ref a, .ref kk, .int v] ∧ W.Ok ∧ ToldAt H ta W ∧ StAt H a W.nb W.sz st ∧ KnobAt H kk k ∧ k.ok W ∧ ∀ r H' ta' a', Same H H' → H' r = some (.tup [.ref ta', .ref a']) → ToldAt H' ta' (W.turn k v) → StAt H' a' W.nb W.sz (Pm.turnS st k v) → Q (.ref r) H'
/-- the first three of a knob -/
def wordIs (wd : Str) (kb kc : Nat) : Pm.Knob → Prop
  | .str b c => wd = "strength" ∧ b = kb ∧ c = kc
  | .gain b c => wd = "gain" ∧ b = kb ∧ c = kc
  | .wane b c => wd = "wane" ∧ b = kb ∧ c = kc
  | .feed b c _ _ => wd = "feed" ∧ b = kb ∧ c = kc
theorem knob_words (k : Pm.Knob) : ∃ (wd : Str) (kb kc : Nat), (knobV k).take 3 = [.str wd, .int (kb : Nat), .int (kc : Nat)] ∧ wordIs wd kb kc k := by
  cases k <;> exact ⟨_, _, _, rfl, rfl, rfl, rfl⟩
section
variable {P : Program} {w : World} {K : PySem.W.Frag} {mg : Str → Option Value} {base : Heap} {cW cS dW : Addr} {xs : Exs}
abbrev sLTurned : Stmt := top 61
theorem scLTurned : FnScope ["_law_told_here", "_law_stand_here", "_law_knob_here", "_law_number", "_law_books", "_law_feeds", "_law_word", "_law_here", "_law_one_here", "_law_kept", "_law_feed", "_law_part", "_law_row"] ["_law_told_here", "_law_stand_here", "_law_knob_here", "_law_number"] (defScope sLTurned) := ⟨rfl, rfl, rfl, by decide +kernel, rfl, by decide +kernel, by decide +kernel⟩
theorem ok_LTurned {f : Addr} {fd : FuncData} (F : Fun K "_law_turned" "_law_turned" sLTurned f fd) (T : NoG mg) (c__law_put : Cal P w K mg base CX0 1 "_law_put" ["_law_some", "_law_spot", "_law_thing"] (spLPut K cW cS)) : FnOk P w K mg base CX0 2 f fd ["_law_told_here", "_law_stand_here", "_law_knob_here", "_law_number"] (spLTurned K cW cS) := by
  refine F.ok scLTurned (fun vs H Q E h => ?_) (fun cdv A outer s H vs Q E hr h => ?_)
  · repeat (first | (obtain ⟨rfl, _⟩ := h; rfl) | (obtain ⟨_, h⟩ := h))
  · obtain ⟨ta, a, kk, W, st, k, v, rfl, ok, ⟨la, lb, ps, qs, fs, hta, td⟩, ⟨ss, ha, hsl, hss⟩, hk, hok, kont⟩ := h
    refine ⟨_, (pss_cons (ps_asg (pv 0) (pg_tup (n := 2) rfl (pgs_cons (pg_name (i := 4) scLTurned.nd rfl (Or.inl rfl)) (pgs_cons (pg_name (i := 5) scLTurned.nd rfl (Or.inl rfl)) pgs_nil))))
      (pss_cons (ps_asg (pe_slice sl_tupA (pv 2) po_none (po_some pe_int)) (pg_tup (n := 3) rfl (pgs_cons (pg_name (i := 6) scLTurned.nd rfl (Or.inl rfl)) (pgs_cons (pg_name (i := 7) scLTurned.nd rfl (Or.inl rfl)) (pgs_cons (pg_name (i := 8) scLTurned.nd rfl (Or.inl rfl)) pgs_nil)))))
      (pss_cons (ps_if (pt_cmpR op_eq (pv 6) pe_str (nomark _)) (pss_one (ps_ret (pe_tup (pa_cons (pv 0) (pa_cons (pe_cal c__law_put (hr.mono (by decide)) pass0 (pa_cons (pv 1) (pa_cons (pv 7) (pa_cons (pe_cal c__law_put (hr.mono (by decide)) pass0 (pa_cons (pe_ix ix_tup (pv 1) (pv 7) (fun _ _ => rfl)) (pa_cons (pv 8) (pa_cons (pv 3) pa_nil)))) pa_nil)))) pa_nil))))) pss_nil)
      (pss_cons (ps_if (pt_cmpR op_eq (pv 6) pe_str (nomark _)) (pss_cons (ps_setLcD (i := 9) (own := [("_law_feed", 10)]) rfl scLTurned.nd rfl rfl (sw_true rfl rfl rfl (by decide +kernel)) (pi_list (pv 5)) (blkOk_by (by kernel_rfl)) (fun _ _ _ _ _ => (pg_name (i := 10) scLTurned.nd rfl (Or.inl rfl))) (fun _ _ _ _ _ => pts_one (pt_cmpR (op_neD hr.units) (pe_slice sl_tupA (pv 10) po_none (po_some pe_int)) (pe_slice sl_tupA (pv 2) (po_some pe_int) po_none) (nomark _))) (fun _ _ _ _ _ => (pv 10)))
          (pss_one (ps_ret (pe_tup (pa_cons (pe_tup (pa_cons (pv 4) (pa_cons (pe_op op_cat (pv 9) (pe_lst (pa_cons (pe_op op_catA (pe_slice sl_tupA (pv 2) (po_some pe_int) po_none) (pe_tup (pa_cons (pv 3) pa_nil))) pa_nil))) pa_nil))) (pa_cons (pv 1) pa_nil)))))) pss_nil)
      (pss_cons (ps_set (i := 11) scLTurned.nd rfl (Or.inl rfl) (pe_op op_add pe_int (pe_callTy call_int1 (by rfl) T.int (by decide +kernel) (pa_cons (pe_cmpR op_eq (pv 6) pe_str (nomark _)) pa_nil))))
      (pss_cons (ps_set (i := 12) scLTurned.nd rfl (Or.inl rfl) (pe_cal c__law_put (hr.mono (by decide)) pass0 (pa_cons (pe_ix ix_list (pv 4) (pv 7) (fun _ _ => rfl)) (pa_cons (pv 11) (pa_cons (pe_cal c__law_put (hr.mono (by decide)) pass0 (pa_cons (pe_ix ix_tup (pe_ix ix_list (pv 4) (pv 7) (fun _ _ => rfl)) (pv 11) (fun _ _ => rfl)) (pa_cons (pv 8) (pa_cons (pv 3) pa_nil)))) pa_nil)))))
      (pss_one (ps_ret (pe_tup (pa_cons (pe_tup (pa_cons (pe_op op_cat (pe_op op_cat (pe_slice sl_list (pv 4) po_none (po_some (pv 7))) (pe_lst (pa_cons (pv 12) pa_nil))) (pe_slice sl_list (pv 4) (po_some (pe_op op_add (pv 7) pe_int)) po_none)) (pa_cons (pv 5) pa_nil))) (pa_cons (pv 1) pa_nil))))))))))), ?_⟩
    have n4 := ok.n4
    have hpl := td.bk.1
    obtain ⟨wd, kb, kc, hw, hwd⟩ := knob_words k
    refine ⟨_, rfl, ta, _, rfl, SqT.of hta, rfl, _, _, rfl, _, _, rfl, rfl, ?_⟩
    refine ⟨_, rfl, _, rfl, cut_ok hk fun r1 H1 s1 h1 => ?_⟩
    have h1' : H1 r1 = some (.tup [.str wd, .int (kb : Nat), .int (kc : Nat)]) := by rw [h1, ← hw]; exact congrArg (fun l => some (HO.tup l)) (cut_to (knobV k) 3)
    refine ⟨r1, _, rfl, SqT.of h1', rfl, _, _, rfl, _, _, rfl, _, _, rfl, rfl, _, rfl, rfl, _, rfl, ?_⟩
    have td1 := td.same s1
    have h5 := ok.s5 k.b (Pm.Knob.ok_b hok)
    cases k with
    | str b c =>
      obtain ⟨rfl, rfl, rfl⟩ := (hwd : wd = "strength" ∧ b = kb ∧ c = kc)
      have e : ss[b]? = some (ss[b]'(by rw [hsl]; exact hok.1)) := List.getElem?_eq_getElem _
      have h5 : W.sz b ≤ 5 := h5
      rw [strT]
      refine iteT ⟨_, rfl, _, rfl, _, rfl, _, rfl, _, rfl, _, _, _, _, rfl, rfl, SqT.of (s1 _ _ ha), atI_nat (refs_at e), _, rfl, _, rfl, _, c, .int v, _, rfl, s1 _ _ (hss b _ e), by rw [nums_len]; exact hok.2, by rw [nums_len]; omega, fun r2 H2 s2 h2 => ?_⟩
      refine ⟨a, b, .ref r2, _, rfl, s2 _ _ (s1 _ _ ha), by rw [List.length_map, hsl]; exact hok.1, by rw [List.length_map, hsl]; omega, fun r3 H3 s3 h3 => ?_⟩
      have s13 := Same.tr s1 (Same.tr s2 s3)
      refine ⟨big1000 (by simp), newT fun r4 H4 _ s4 h4 => kont r4 H4 ta r3 (Same.tr s13 s4) h4 (ToldAt.same (Same.tr s13 s4) ⟨la, lb, ps, qs, fs, hta, td⟩) ?_⟩
      exact (StAt.put (r := r2) hsl (fun i q hq => s4 _ _ (s13 _ _ (hss i q hq))) (s4 _ _ h3) (s4 _ _ (s3 _ _ h2)))
    | feed b c t o =>
      obtain ⟨rfl, rfl, rfl⟩ := (hwd : wd = "feed" ∧ b = kb ∧ c = kc)
      rw [strF (by decide)]
      refine iteF ⟨_, rfl, rfl, _, rfl, ?_⟩
      rw [strT]
      have hfl : fs.length ≤ 1000 := by have := ok.fl; have := td.pm.length_eq; omega
      have hql := td.fd.1
      refine iteT ⟨_, rfl, lb, rfl, ⟨_, SqL.of td1.b⟩, fun D2 hD2 => ?_⟩
      refine lc_colF walk_list hD2 (by rw [List.length_map]; omega) (fun i => !decide ((fs.getD i ⟨0, 0, 0, 0, 0⟩).key = (b, c, t, o))) (fun i y H => ∃ q, y = .ref q ∧ q ≠ D2 ∧ H q = some (.tup (fdV (fs.getD i ⟨0, 0, 0, 0, 0⟩)))) (fun i y H H' hk ⟨q, e, ne, hq⟩ => ⟨q, e, ne, hk _ _ hq ne⟩) (fun H' s' => SqL.of (s' _ _ td1.b)) ?_ ?_
      · rintro i x _ H3 K3 N3 hi3 s3 ⟨acc, hacc⟩ ⟨rfl, hx⟩ hK hN
        obtain ⟨q, hq, rfl⟩ := refs_get hx
        have hil : i < fs.length := by have := get_lt hq; omega
        have hf : fs[i]? = some (fs.getD i ⟨0, 0, 0, 0, 0⟩) := getD_at hil
        generalize fs.getD i ⟨0, 0, 0, 0, 0⟩ = fe at hK hN hf
        have hqt := s3 _ _ (td1.fd.2 i q _ hq hf)
        refine ⟨rfl, _, rfl, _, rfl, cut_ok hqt ?_⟩
        intro r4 H4 s4 h4
        refine ⟨_, rfl, _, rfl, cut_oN (s4 _ _ (s3 _ _ (s1 _ _ hk))) ?_⟩
        intro r5 H5 s5 h5
        refine ⟨tI [(fe.b : Nat), (fe.c : Nat), (fe.t : Nat), (fe.o : Nat)], tI [(b : Nat), (c : Nat), (t : Nat), (o : Nat)], dp_ints (SqT.of ?_), dp_ints (SqT.of ?_), tI_shaped _, tI_shaped _, _, rfl, ?_⟩
        · rw [s5 _ _ h4]; rfl
        · rw [h5]; rfl
        rw [tI_eqv]
        by_cases hkey : fe.key = (b, c, t, o)
        · rw [decide_eq_true (by have := hkey; simp [Pm.Fd.key] at this; simp [this])]
          exact iteF (hN (by simp [hkey]) _ (Same.tr s4 s5))
        · rw [decide_eq_false (fun z => hkey (by simp at z; simp only [Pm.Fd.key, Prod.mk.injEq]; omega))]
          exact iteT ⟨_, rfl, hK (by simp [hkey]) _ _ (Same.tr s4 s5) ⟨q, rfl, ne_of hqt hacc (by simp), s5 _ _ (s4 _ _ hqt)⟩⟩
      · rintro H4 ys s4 hy hl4 hr4
        obtain ⟨qs', rfl, hqs'⟩ := refs_of (R := fun j q => ∃ i, ((List.range (qs.map V.ref).length).filter fun i => !decide ((fs.getD i ⟨0, 0, 0, 0, 0⟩).key = (b, c, t, o)))[j]? = some i ∧ H4 q = some (.tup (fdV (fs.getD i ⟨0, 0, 0, 0, 0⟩)))) fun j y e => by
          obtain ⟨i, e1, q, e2, _, h⟩ := hr4 j y e
          exact ⟨q, e2, i, e1, h⟩
        have hfilt := filter_ix fs ⟨0, 0, 0, 0, 0⟩ fun f => !decide (f.key = (b, c, t, o))
        simp only [List.length_map, hql] at hl4 hqs'
        have hlf : (fs.filter fun f => !decide (f.key = (b, c, t, o))).length ≤ fs.length := List.length_filter_le _ _
        have hl4' : qs'.length = (fs.filter fun f => !decide (f.key = (b, c, t, o))).length := by rw [hfilt, List.length_map]; simpa using hl4
        have s14 := Same.tr s1 s4
        refine ⟨_, rfl, _, rfl, _, rfl, _, rfl, cut_oN (s14 _ _ hk) ?_⟩
        intro r5 H5 s5 h5
        refine ⟨_, rfl, big1000 (by simp), fun r6 hr6 => ?_⟩
        have s6 : Same H5 (upd H5 r6 (.tup [.int v])) := sameUpd hr6
        refine cat_ok (s6 _ _ h5) upd_same (by simp [cutV, knobV, HT.sIx]) fun r7 H7 s7 h7 => ?_
        have h7' : H7 r7 = some (.tup (fdV ⟨b, c, t, o, v⟩)) := by rw [h7]; rfl
        refine ⟨big1000 (by simp), fun l8 hl8 => ?_⟩
        have s8 : Same H7 (upd H7 l8 (.lst [.ref r7])) := sameUpd hl8
        have s48 := Same.tr s5 (Same.tr s6 (Same.tr s7 s8))
        refine ⟨D2, l8, _, _, rfl, rfl, s48 _ _ hy, upd_same, (by rw [List.length_map, hl4', sizeLine_eq]; simp; omega), fun l9 hl9 => ?_⟩
        have s9 := sameUpd (o := .lst (qs'.map V.ref ++ [.ref r7])) hl9
        have s49 := Same.tr s48 s9
        have s19 := Same.tr s14 s49
        have td9 : Told (upd (upd H7 l8 (.lst [.ref r7])) l9 (.lst (qs'.map V.ref ++ [.ref r7]))) la l9 (W.turn (.feed b c t o) v) ps (qs' ++ [r7]) (Pm.tfs fs (b, c, t, o) v) := by
          refine ⟨s49 _ _ (s4 _ _ td1.a), by rw [upd_same, List.map_append]; rfl, td1.bk.same (Same.tr s4 s49), tfs_perm td.pm _ v, ?_, fun i q f e e2 => ?_⟩
          · unfold Pm.tfs
            rw [List.length_append, List.length_append, hl4']; rfl
          · unfold Pm.tfs at e2
            by_cases hil : i < qs'.length
            · rw [List.getElem?_append_left hil] at e
              rw [List.getElem?_append_left (by omega), hfilt, List.getElem?_map] at e2
              obtain ⟨i', e3, h3⟩ := hqs' i q e
              rw [e3] at e2
              simp only [Option.map_some, Option.some.injEq] at e2
              rw [← e2]
              exact s49 _ _ h3
            · have hie : i = qs'.length := by have := get_lt e; simp at this; omega
              subst hie
              rw [List.getElem?_append_right (Nat.le_refl _)] at e
              rw [hl4', List.getElem?_append_right (Nat.le_refl _)] at e2
              simp at e e2
              subst e e2
              exact s9 _ _ (s8 _ _ h7')
        refine ⟨big1000 (by simp), fun t10 ht10 => ⟨_, rfl, big1000 (by simp), newT fun r11 H11 _ s11 h11 => ?_⟩⟩
        have s10 := sameUpd (o := .tup [.ref la, .ref l9]) ht10
        have sE := Same.tr s19 (Same.tr s10 s11)
        exact kont r11 H11 t10 a sE h11 ⟨la, l9, ps, _, _, s11 _ _ upd_same, td9.same (Same.tr s10 s11)⟩ ⟨ss, sE _ _ ha, hsl, hss.same sE⟩
    | gain b c =>
      obtain ⟨rfl, rfl, rfl⟩ := (hwd : wd = "gain" ∧ b = kb ∧ c = kc)
      have h5 : W.sz b ≤ 5 := h5
      rw [strF (by decide)]
      refine iteF ⟨_, rfl, rfl, _, rfl, ?_⟩
      rw [strF (by decide)]
      refine iteF ⟨_, rfl, rfl, .inr ⟨_, rfl, ?_⟩⟩
      rw [idx_word, if_neg (by decide)]
      have hbp : ps[b]? = some (ps[b]'(by rw [td.bk.1]; exact hok.1)) := List.getElem?_eq_getElem _
      generalize ps[b]'(by rw [td.bk.1]; exact hok.1) = q at hbp
      obtain ⟨o, gg, ww, q1, q2, q3, q4⟩ := td1.bk.2 b q hbp
      refine ⟨_, _, rfl, rfl, _, rfl, _, rfl, _, _, _, _, rfl, rfl, SqL.of td1.a, atI_nat (refs_at hbp), _, rfl, _, rfl, _, rfl, _, _, _, _, rfl, rfl, SqL.of td1.a, atI_nat (refs_at hbp), _, rfl, _, _, _, _, rfl, rfl, SqT.of q1, rfl, _, rfl, _, rfl, gg, c, .int v, _, rfl, q3, by rw [nums_len]; exact hok.2, by rw [nums_len]; omega, fun r4 H4 s4 h4 => ?_⟩
      refine ⟨q, 1, .ref r4, _, rfl, s4 _ _ q1, by simp, by simp, fun r5 H5 s5 h5' => ?_⟩
      have s15 := Same.tr s1 (Same.tr s4 s5)
      have td5 := td1.same (Same.tr s4 s5)
      have bk5 : BooksAt H5 (ps.set b r5) (W.turn (.gain b c) v) := td5.bk.gain h5' ((q2.same s4).same s5) (s5 _ _ h4) (s5 _ _ (s4 _ _ q4))
      refine ⟨_, rfl, _, rfl, _, rfl, la, _, rfl, SqL.of td5.a, fun l6 hl6 => ?_⟩
      have s6 := sameUpd (o := .lst (cutV (ps.map V.ref) none (some (b : Int)))) hl6
      refine ⟨_, rfl, big1000 (by simp), fun l7 hl7 => ?_⟩
      have s7 := sameUpd (o := .lst [.ref r5]) hl7
      refine ⟨l6, l7, _, _, rfl, rfl, s7 _ _ upd_same, upd_same, by rw [cut_to, sizeLine_eq]; simp; omega, fun l8 hl8 => ?_⟩
      have s8 := sameUpd (o := .lst (cutV (ps.map V.ref) none (some (b : Int)) ++ [.ref r5])) hl8
      have s58 := Same.tr s6 (Same.tr s7 s8)
      refine ⟨_, rfl, _, rfl, _, _, rfl, rfl, _, rfl, la, _, rfl, SqL.of (s58 _ _ td5.a), fun l9 hl9 => ?_⟩
      have s9 := sameUpd (o := .lst (cutV (ps.map V.ref) (some ((b : Int) + 1)) none)) hl9
      refine ⟨l8, l9, _, _, rfl, rfl, s9 _ _ upd_same, upd_same, by rw [cut_to, show ((b : Int) + 1) = ((b + 1 : Nat) : Int) from rfl, cut_from, sizeLine_eq]; simp; omega, fun l10 hl10 => ?_⟩
      have s10 := sameUpd (o := .lst (cutV (ps.map V.ref) none (some (b : Int)) ++ [.ref r5] ++ cutV (ps.map V.ref) (some ((b : Int) + 1)) none)) hl10
      have s5E := Same.tr s58 (Same.tr s9 s10)
      have e10 : cutV (ps.map V.ref) none (some (b : Int)) ++ [.ref r5] ++ cutV (ps.map V.ref) (some ((b : Int) + 1)) none = (ps.set b r5).map V.ref := by
        rw [cut_to, show ((b : Int) + 1) = ((b + 1 : Nat) : Int) from rfl, cut_from, put_at _ _ _ (by rw [List.length_map, hpl]; exact hok.1), set_map_refs]
      refine ⟨_, rfl, big1000 (by simp), fun t11 ht11 => ⟨_, rfl, big1000 (by simp), newT fun r12 H12 _ s12 h12 => ?_⟩⟩
      have s11 := sameUpd (o := .tup [.ref l10, .ref lb]) ht11
      have sF := Same.tr s5E (Same.tr s11 s12)
      have sE := Same.tr s15 sF
      exact kont r12 H12 t11 a sE h12 ⟨l10, lb, ps.set b r5, qs, fs, s12 _ _ upd_same, ⟨by rw [s12 _ _ (s11 _ _ upd_same), e10], sF _ _ td5.b, bk5.same sF, td.pm, td5.fd.same sF⟩⟩ ⟨ss, sE _ _ ha, hsl, hss.same sE⟩
    | wane b c =>
      obtain ⟨rfl, rfl, rfl⟩ := (hwd : wd = "wane" ∧ b = kb ∧ c = kc)
      have h5 : W.sz b ≤ 5 := h5
      rw [strF (by decide)]
      refine iteF ⟨_, rfl, rfl, _, rfl, ?_⟩
      rw [strF (by decide)]
      refine iteF ⟨_, rfl, rfl, .inr ⟨_, rfl, ?_⟩⟩
      rw [idx_word, if_pos rfl]
      have hbp : ps[b]? = some (ps[b]'(by rw [td.bk.1]; exact hok.1)) := List.getElem?_eq_getElem _
      generalize ps[b]'(by rw [td.bk.1]; exact hok.1) = q at hbp
      obtain ⟨o, gg, ww, q1, q2, q3, q4⟩ := td1.bk.2 b q hbp
      refine ⟨_, _, rfl, rfl, _, rfl, _, rfl, _, _, _, _, rfl, rfl, SqL.of td1.a, atI_nat (refs_at hbp), _, rfl, _, rfl, _, rfl, _, _, _, _, rfl, rfl, SqL.of td1.a, atI_nat (refs_at hbp), _, rfl, _, _, _, _, rfl, rfl, SqT.of q1, rfl, _, rfl, _, rfl, ww, c, .int v, _, rfl, q4, by rw [nums_len]; exact hok.2, by rw [nums_len]; omega, fun r4 H4 s4 h4 => ?_⟩
      refine ⟨q, 2, .ref r4, _, rfl, s4 _ _ q1, by simp, by simp, fun r5 H5 s5 h5' => ?_⟩
      have s15 := Same.tr s1 (Same.tr s4 s5)
      have td5 := td1.same (Same.tr s4 s5)
      have bk5 : BooksAt H5 (ps.set b r5) (W.turn (.wane b c) v) := td5.bk.wane h5' ((q2.same s4).same s5) (s5 _ _ h4) (s5 _ _ (s4 _ _ q3))
      refine ⟨_, rfl, _, rfl, _, rfl, la, _, rfl, SqL.of td5.a, fun l6 hl6 => ?_⟩
      have s6 := sameUpd (o := .lst (cutV (ps.map V.ref) none (some (b : Int)))) hl6
      refine ⟨_, rfl, big1000 (by simp), fun l7 hl7 => ?_⟩
      have s7 := sameUpd (o := .lst [.ref r5]) hl7
      refine ⟨l6, l7, _, _, rfl, rfl, s7 _ _ upd_same, upd_same, by rw [cut_to, sizeLine_eq]; simp; omega, fun l8 hl8 => ?_⟩
      have s8 := sameUpd (o := .lst (cutV (ps.map V.ref) none (some (b : Int)) ++ [.ref r5])) hl8
      have s58 := Same.tr s6 (Same.tr s7 s8)
      refine ⟨_, rfl, _, rfl, _, _, rfl, rfl, _, rfl, la, _, rfl, SqL.of (s58 _ _ td5.a), fun l9 hl9 => ?_⟩
      have s9 := sameUpd (o := .lst (cutV (ps.map V.ref) (some ((b : Int) + 1)) none)) hl9
      refine ⟨l8, l9, _, _, rfl, rfl, s9 _ _ upd_same, upd_same, by rw [cut_to, show ((b : Int) + 1) = ((b + 1 : Nat) : Int) from rfl, cut_from, sizeLine_eq]; simp; omega, fun l10 hl10 => ?_⟩
      have s10 := sameUpd (o := .lst (cutV (ps.map V.ref) none (some (b : Int)) ++ [.ref r5] ++ cutV (ps.map V.ref) (some ((b : Int) + 1)) none)) hl10
      have s5E := Same.tr s58 (Same.tr s9 s10)
      have e10 : cutV (ps.map V.ref) none (some (b : Int)) ++ [.ref r5] ++ cutV (ps.map V.ref) (some ((b : Int) + 1)) none = (ps.set b r5).map V.ref := by
        rw [cut_to, show ((b : Int) + 1) = ((b + 1 : Nat) : Int) from rfl, cut_from, put_at _ _ _ (by rw [List.length_map, hpl]; exact hok.1), set_map_refs]
      refine ⟨_, rfl, big1000 (by simp), fun t11 ht11 => ⟨_, rfl, big1000 (by simp), newT fun r12 H12 _ s12 h12 => ?_⟩⟩
      have s11 := sameUpd (o := .tup [.ref l10, .ref lb]) ht11
      have sF := Same.tr s5E (Same.tr s11 s12)
      have sE := Same.tr s15 sF
      exact kont r12 H12 t11 a sE h12 ⟨l10, lb, ps.set b r5, qs, fs, s12 _ _ upd_same, ⟨by rw [s12 _ _ (s11 _ _ upd_same), e10], sF _ _ td5.b, bk5.same sF, td.pm, td5.fd.same sF⟩⟩ ⟨ss, sE _ _ ha, hsl, hss.same sE⟩
end
end WB


namespace WB
open PySem L2
def MvL (H : Hp) (mk : List (List Key × V)) (W : Pm.Wd) (b c : Nat) : Prop := ∃ (l : Addr) (ls : List Addr), valV mk [Sum.inl (b : Int), Sum.inl (c : Int)] = some (.ref l) ∧ H l = some (.lst (ls.map V.ref)) ∧ ls.length = W.nb ∧ ∀ (t : Nat) (q : Addr), ls[t]? = some q → H q = some (.lst (nums (W.sz t) fun o => W.mv b c t o))
theorem MvL.same {H H' : Hp} {mk : List (List Key × V)} {W : Pm.Wd} {b c : Nat} (s : Same H H') (h : MvL H mk W b c) : MvL H' mk W b c := let ⟨l, ls, h1, h2, h3, h4⟩ := h; ⟨l, ls, h1, s _ _ h2, h3, fun t q e => s _ _ (h4 t q e)⟩
theorem MvL.kd {H H' : Hp} {D : Addr} {mk mk' : List (List Key × V)} {W : Pm.Wd} {b c : Nat} (hk : Kd D H H') (hD : H D = some (.dT mk)) (e : valV mk' [Sum.inl (b : Int), Sum.inl (c : Int)] = valV mk [Sum.inl (b : Int), Sum.inl (c : Int)]) (h : MvL H mk W b c) : MvL H' mk' W b c := by
  obtain ⟨l, ts, h1, h2, h3, h4⟩ := h
  exact ⟨l, ts, e.trans h1, hk _ _ h2 (ne_of h2 hD (by simp)), h3, fun i p hp => hk _ _ (h4 i p hp) (ne_of (h4 i p hp) hD (by simp))⟩
def MovesL (H : Hp) (d : Addr) (W : Pm.Wd) : Prop := ∃ mk, H d = some (.dT mk) ∧ ∀ b c, b < W.nb → c < W.sz b → MvL H mk W b c
theorem MovesL.same {H H' : Hp} {d : Addr} {W : Pm.Wd} (s : Same H H') (h : MovesL H d W) : MovesL H' d W := let ⟨mk, h1, h2⟩ := h; ⟨mk, s _ _ h1, fun b c x y => (h2 b c x y).same s⟩
def spLMoves (K : PySem.W.Frag) (cW cS : Addr) : Sp := fun vs H Q _ => ∃ (ta : Addr) (W : Pm.Wd), vs = [.ref ta] ∧ W.Ok ∧ ToldAt H ta W ∧ ∀ r H', Same H H' → MovesL H' r W → Q (.ref r) H'
theorem nodup_at {α : Type} {l : List α} (h : l.Nodup) {i j : Nat} {x : α} (hi : l[i]? = some x) (hj : l[j]? = some x) : i = j := by
  obtain ⟨a1, a2⟩ := List.getElem?_eq_some_iff.mp hi
  obtain ⟨b1, b2⟩ := List.getElem?_eq_some_iff.mp hj
  have := List.pairwise_iff_getElem.mp (List.nodup_iff_pairwise_ne.mp h)
  by_cases h1 : i < j
  · exact absurd (a2.trans b2.symm) (this i j a1 b1 h1)
  · by_cases h2 : j < i
    · exact absurd (b2.trans a2.symm) (this j i b1 a1 h2)
    · omega
/-- rows that are being written: all of them new since H1 -/
structure RowsL (H1 H' : Hp) (D : Addr) (ls : List Addr) (n : Nat) (sz : Nat → Nat) (f : Nat → Nat → Int) : Prop where
  s : Same H1 H'
  d : H' D = some (.lst (ls.map V.ref))
  dn : H1 D = none
  len : ls.length = n
  nd : ls.Nodup
  dm : D ∉ ls
  new : ∀ q ∈ ls, H1 q = none
  at_ : ∀ (t : Nat) (q : Addr), ls[t]? = some q → H' q = some (.lst (nums (sz t) (f t)))
theorem RowsL.same {H1 H' H2 : Hp} {D : Addr} {ls : List Addr} {n : Nat} {sz : Nat → Nat} {f : Nat → Nat → Int} (h : RowsL H1 H' D ls n sz f) (s : Same H' H2) : RowsL H1 H2 D ls n sz f := ⟨Same.tr h.s s, s _ _ h.d, h.dn, h.len, h.nd, h.dm, h.new, fun t q e => s _ _ (h.at_ t q e)⟩
theorem RowsL.congr {H1 H' : Hp} {D : Addr} {ls : List Addr} {n : Nat} {sz : Nat → Nat} {f g : Nat → Nat → Int} (h : RowsL H1 H' D ls n sz f) (e : ∀ t o, t < n → o < sz t → f t o = g t o) : RowsL H1 H' D ls n sz g := ⟨h.s, h.d, h.dn, h.len, h.nd, h.dm, h.new, fun t q ht => by
  rw [h.at_ t q ht]
  refine congrArg (fun l => some (HO.lst l)) (eq_nums (nums_len _ _) fun i y hy => ?_)
  obtain ⟨hi, rfl⟩ := nums_get hy
  rw [e t i (by have := get_lt ht; rw [h.len] at this; exact this) hi]⟩
theorem RowsL.put {H1 H' : Hp} {D : Addr} {ls : List Addr} {n : Nat} {sz : Nat → Nat} {f : Nat → Nat → Int} (h : RowsL H1 H' D ls n sz f) {t o : Nat} {q : Addr} {v : Int} (ht : ls[t]? = some q) : RowsL H1 (upd H' q (.lst ((nums (sz t) (f t)).set o (.int v)))) D ls n sz (Pm.put2 f t o v) := by
  have hq : q ∈ ls := List.mem_of_getElem? ht
  refine ⟨sameW h.s (h.new q hq), (upd_ne (fun z => h.dm (by rw [z]; exact hq))).trans h.d, h.dn, h.len, h.nd, h.dm, h.new, fun t' q' e => ?_⟩
  by_cases hh : t' = t
  · subst hh
    rw [ht] at e; cases e
    rw [upd_same, nums_put_same]
  · have hne : q' ≠ q := fun z => by
      subst z
      exact hh (nodup_at h.nd e ht)
    rw [upd_ne hne, put2_ne _ _ _ _ _ hh]
    exact h.at_ t' q' e
/-- a row is replaced by a new one -/
theorem RowsL.swap {H1 H' : Hp} {D : Addr} {ls : List Addr} {n : Nat} {sz : Nat → Nat} {f : Nat → Nat → Int} (h : RowsL H1 H' D ls n sz f) {t : Nat} {E : Addr} {g : Nat → Int} (hE : H1 E = none) (hE2 : E ∉ ls) (hED : E ≠ D) (hEv : H' E = some (.lst (nums (sz t) g))) : RowsL H1 (upd H' D (.lst ((ls.map V.ref).set t (.ref E)))) D (ls.set t E) n sz (fun t' o => if t' = t then g o else f t' o) := by
  have hk : ∀ b u, H' b = some u → b ≠ D → (upd H' D (.lst ((ls.map V.ref).set t (.ref E)))) b = some u := fun b u e ne => (upd_ne ne).trans e
  refine ⟨sameW h.s h.dn, by rw [upd_same, set_map_refs], h.dn, by rw [List.length_set]; exact h.len, ?_, fun z => ?_, fun q hq => ?_, fun t' q e => ?_⟩
  · rw [List.nodup_iff_pairwise_ne, List.pairwise_iff_getElem]
    intro i j hi hj hij
    rw [List.getElem_set, List.getElem_set]
    rw [List.length_set] at hi hj
    have base := (List.pairwise_iff_getElem.mp (List.nodup_iff_pairwise_ne.mp h.nd)) i j hi hj hij
    split
    · split
      · omega
      · intro z; exact hE2 (z ▸ List.getElem_mem _)
    · split
      · intro z; exact hE2 (z.symm ▸ List.getElem_mem _)
      · exact base
  · rcases List.mem_or_eq_of_mem_set z with z | z
    · exact h.dm z
    · exact hED z.symm
  · rcases List.mem_or_eq_of_mem_set hq with z | z
    · exact h.new q z
    · subst z; exact hE
  · rcases set_cases e with ⟨rfl, rfl⟩ | ⟨ne, e⟩
    · rw [hk _ _ hEv hED]; simp
    · rw [hk _ _ (h.at_ t' q e) (fun z => h.dm (z ▸ List.mem_of_getElem? e))]; simp [ne]
section
variable {P : Program} {w : World} {K : PySem.W.Frag} {mg : Str → Option Value} {base : Heap} {cW cS dW : Addr} {xs : Exs}
abbrev sLMoves : Stmt := top 55
theorem scLMoves : FnScope ["_law_told_here", "_law_books", "_law_feeds", "_law_found", "_law_shelf", "_law_order_here", "_law_gains", "_law_wanes", "_law_pick", "_law_rows", "_law_other", "_law_wane", "_law_here", "_law_one_here", "_law_there", "_law_amount"] ["_law_told_here"] (defScope sLMoves) := ⟨rfl, rfl, rfl, by decide +kernel, rfl, by decide +kernel, by decide +kernel⟩
theorem ok_LMoves {f : Addr} {fd : FuncData} (F : Fun K "_law_moves" "_law_moves" sLMoves f fd) (T : NoG mg)  : FnOk P w K mg base CX0 1 f fd ["_law_told_here"] (spLMoves K cW cS) := by
  refine F.ok scLMoves (fun vs H Q E h => ?_) (fun cdv A outer s H vs Q E hr h => ?_)
  · repeat (first | (obtain ⟨rfl, _⟩ := h; rfl) | (obtain ⟨_, h⟩ := h))
  · obtain ⟨ta, W, rfl, ok, ⟨la, lb, ps, qs, fs, hta, td⟩, kont⟩ := h
    refine ⟨_, (pss_cons (ps_asg (pv 0) (pg_tup (n := 2) rfl (pgs_cons (pg_name (i := 1) scLMoves.nd rfl (Or.inl rfl)) (pgs_cons (pg_name (i := 2) scLMoves.nd rfl (Or.inl rfl)) pgs_nil))))
      (pss_cons (ps_set (i := 3) scLMoves.nd rfl (Or.inl rfl) pe_dnewT)
      (pss_cons (ps_for PassesOwn.never rfl (pi_enumM (by rfl) T.enumerate (pa_cons (pv 1) pa_nil)) (pg_tup (n := 2) rfl (pgs_cons (pg_name (i := 4) scLMoves.nd rfl (Or.inl rfl)) (pgs_cons (pg_tup (n := 3) rfl (pgs_cons (pg_name (i := 5) scLMoves.nd rfl (Or.inl rfl)) (pgs_cons (pg_name (i := 6) scLMoves.nd rfl (Or.inl rfl)) (pgs_cons (pg_name (i := 7) scLMoves.nd rfl (Or.inl rfl)) pgs_nil)))) pgs_nil)))
        (pss_one (ps_for PassesOwn.never rfl (pi_range1 (by rfl) T.range (pa_cons (pe_callB call_len (by rfl) T.len PySem.boot_len (pa_cons (pv 5) pa_nil)) pa_nil)) (pg_name (i := 8) scLMoves.nd rfl (Or.inl rfl))
            (pss_cons (ps_setLcD (i := 9) (own := [("_law_other", 10)]) rfl scLMoves.nd rfl rfl (sw_true rfl rfl rfl (by decide +kernel)) (pi_list (pv 1)) (blkOk_by (by kernel_rfl)) (fun _ _ _ _ _ => (pg_name (i := 10) scLMoves.nd rfl (Or.inl rfl))) (fun _ _ _ _ _ => pts_nil) (fun _ _ _ _ _ => (pe_op op_rep (pe_lst (pa_cons pe_int pa_nil)) (pe_callB call_len (by rfl) T.len PySem.boot_len (pa_cons (pe_ix ix_tup (pv 10) pe_int (fun _ _ => rfl)) pa_nil)))))
              (pss_cons (ps_asg (pe_lcD (own := [("_law_wane", 11)]) rfl scLMoves.nd (pi_tup (pv 7)) (blkOk_by (by kernel_rfl)) (fun _ _ _ _ _ => (pg_name (i := 11) scLMoves.nd rfl (Or.inl rfl))) (fun _ _ _ _ _ => pts_nil) (fun _ _ _ _ _ => (pe_op op_sub pe_int (pv 11)))) (pg_sub (pv 9) (pv 4) set_list))
              (pss_cons (ps_asg (pe_ix ix_tup (pv 6) (pv 8) (fun _ _ => rfl)) (pg_sub (pe_ix ix_list (pv 9) (pv 4) (fun _ _ => rfl)) (pv 8) set_list))
              (pss_cons (ps_for PassesOwn.never rfl (pi_list (pv 2)) (pg_tup (n := 5) rfl (pgs_cons (pg_name (i := 12) scLMoves.nd rfl (Or.inl rfl)) (pgs_cons (pg_name (i := 13) scLMoves.nd rfl (Or.inl rfl)) (pgs_cons (pg_name (i := 14) scLMoves.nd rfl (Or.inl rfl)) (pgs_cons (pg_name (i := 10) scLMoves.nd rfl (Or.inl rfl)) (pgs_cons (pg_name (i := 15) scLMoves.nd rfl (Or.inl rfl)) pgs_nil))))))
                (pss_one (ps_if (pt_cmpR (op_eqD hr.units) (pe_tup (pa_cons (pv 12) (pa_cons (pv 13) pa_nil))) (pe_tup (pa_cons (pv 4) (pa_cons (pv 8) pa_nil))) (nomark _)) (pss_one (ps_asg (pe_op op_add (pe_ix ix_list (pe_ix ix_list (pv 9) (pv 14) (fun _ _ => rfl)) (pv 10) (fun _ _ => rfl)) (pv 15)) (pg_sub (pe_ix ix_list (pv 9) (pv 14) (fun _ _ => rfl)) (pv 10) set_list))) pss_nil)))
              (pss_one (ps_dput (hu_of hr) (pv 3) (pe_tup (pa_cons (pv 4) (pa_cons (pv 8) pa_nil))) (pv 9) rfl)))))))))
      (pss_one (ps_ret (pv 3)))))), ?_⟩
    have n4 := ok.n4
    have hpl := td.bk.1
    refine ⟨_, rfl, ta, _, rfl, SqT.of hta, rfl, _, _, rfl, _, _, rfl, rfl, fun D hD => ?_⟩
    have s0 : Same H (upd H D (.dT [])) := sameUpd hD
    refine ⟨_, rfl, false, la, _, rfl, SqL.of (s0 _ _ td.a), for_it (walk_enumM (xs := ps.map V.ref)) (fun i σ H' => Same H H' ∧ (∃ x4 x5 x6 x7 x8 x9 x10 x11 x12 x13 x14 x15, σ = [some (.ref ta), some (.ref la), some (.ref lb), some (.ref D), x4, x5, x6, x7, x8, x9, x10, x11, x12, x13, x14, x15]) ∧ ∃ mk, H' D = some (.dT mk) ∧ mk.length ≤ 5 * i ∧ ∀ b c, b < i → c < W.sz b → MvL H' mk W b c) ?_ ?_ ?_ ?_⟩
    · exact ⟨s0, ⟨_, _, _, _, _, _, _, _, _, _, _, _, rfl⟩, [], upd_same, Nat.le_refl _, fun b c h => absurd h (Nat.not_lt_zero _)⟩
    · rintro i σ H' _ ⟨s', _⟩; exact SqL.of (s' _ _ td.a)
    · rintro i x σ H1 H2 hin ⟨s1, ⟨x4, x5, x6, x7, x8, x9, x10, x11, x12, x13, x14, x15, rfl⟩, mk, hD1, hlen, hmv⟩ ⟨T', y1, y2, rfl, hT, rfl, e1, e2⟩
      cases e1
      obtain ⟨p, hp, rfl⟩ := refs_get e2
      have hib : i < W.nb := by have := get_lt hp; omega
      have s2 : Same H1 (upd H1 T' (.tup [.int (i : Nat), .ref p])) := sameUpd hT
      have s12 := Same.tr s1 s2
      obtain ⟨o, g, ww, b1, b2, b3, b4⟩ := td.bk.2 i p hp
      have h5 := ok.s5 i hib
      have hln := ok.ln i hib
      refine ⟨T', _, rfl, SqT.of upd_same, rfl, _, _, rfl, _, _, rfl, p, _, rfl, SqT.of (s12 _ _ b1), rfl, _, _, rfl, _, _, rfl, _, _, rfl, rfl, rfl, ?_⟩
      refine ⟨_, rfl, _, W.sz i, rfl, .inr ⟨_, (b2.same s12).sq, by rw [ordV_len, hln]⟩, _, rfl, by omega, by omega, ?_⟩
      refine for_it (wrn (n := W.sz i)) (fun j σ H' => Same H H' ∧ (∃ x8 x9 x10 x11 x12 x13 x14 x15, σ = [some (.ref ta), some (.ref la), some (.ref lb), some (.ref D), some (.int (i : Nat)), some (.ref o), some (.ref g), some (.ref ww), x8, x9, x10, x11, x12, x13, x14, x15]) ∧ ∃ mk, H' D = some (.dT mk) ∧ mk.length ≤ 5 * i + j ∧ ∀ b c, (b < i ∨ (b = i ∧ c < j)) → c < W.sz b → MvL H' mk W b c) ?_ (fun _ _ _ _ _ => trivial) ?_ ?_
      · exact ⟨s12, ⟨_, _, _, _, _, _, _, _, rfl⟩, mk, s2 _ _ hD1, hlen, fun b c h hc => by
          rcases h with h | ⟨_, h⟩
          · exact (hmv b c h hc).same s2
          · exact absurd h (Nat.not_lt_zero _)⟩
      · rintro j x σ _ H3 hj ⟨s3, ⟨x8, x9, x10, x11, x12, x13, x14, x15, rfl⟩, mk, hD3, hlen, hmv⟩ ⟨rfl, rfl⟩
        -- the rows of noughts
        refine ⟨_, rfl, la, rfl, ⟨_, SqL.of (s3 _ _ td.a)⟩, fun R hR => ?_⟩
        refine lc_it (walk_list (xs := ps.map V.ref)) (fun t H' => ∃ ls, RowsL H3 H' R ls t W.sz (fun _ _ => 0)) ?_ ?_ ?_ ?_
        · exact ⟨[], sameUpd hR, upd_same, hR, rfl, List.nodup_nil, by simp, by simp, by simp⟩
        · rintro t H' _ ⟨ls, rl⟩; exact SqL.of (rl.s _ _ (s3 _ _ td.a))
        · rintro t x _ H4 ht ⟨ls, rl⟩ ⟨rfl, hx⟩
          obtain ⟨pt, hpt, rfl⟩ := refs_get hx
          have htb : t < W.nb := by have := get_lt hpt; omega
          obtain ⟨o', g', w', c1, c2, c3, c4⟩ := (td.bk.2 t pt hpt).same (Same.tr s3 rl.s)
          have ht5 := ok.s5 t htb
          refine ⟨rfl, big1000 (by simp), fun z hz => ?_⟩
          have sz := sameUpd (o := .lst [V.int 0]) hz
          refine ⟨_, rfl, _, _, _, _, rfl, rfl, SqT.of (sz _ _ c1), rfl, _, W.sz t, rfl, .inr ⟨_, (c2.same sz).sq, by rw [ordV_len, ok.ln t htb]⟩, z, _, _, rfl, rfl, upd_same, by omega, by omega, by rw [sizeLine_eq]; simp; omega, fun q hq => ?_⟩
          have sq := sameUpd (o := .lst (List.replicate ((W.sz t : Nat) : Int).toNat [V.int 0]).flatten) hq
          have rl4 := rl.same (Same.tr sz sq)
          have hqn : H3 q = none := none_same (Same.tr rl.s sz) hq
          have hqls : q ∉ ls := fun hm => by
            obtain ⟨u, hu⟩ := List.getElem?_of_mem hm
            have := sz _ _ (rl.at_ u q hu)
            rw [hq] at this; cases this
          have hqR : q ≠ R := (ne_of_none (sz _ _ rl.d) hq).symm
          have hqv : (upd (upd H4 z (.lst [V.int 0])) q (.lst (List.replicate ((W.sz t : Nat) : Int).toNat [V.int 0]).flatten)) q = some (.lst (nums (W.sz t) fun _ => 0)) := by rw [upd_same, Int.toNat_natCast, rep_nums]
          refine ⟨_, rl4.d, by rw [List.length_map, rl.len, sizeLine_eq]; omega, ls ++ [q], sameW rl4.s hR, by rw [upd_same, List.map_append]; rfl, hR, by simp [rl.len], ?_, by simp [rl.dm, hqR.symm], fun q' hm => ?_, fun t' q' e => ?_⟩
          · rw [List.nodup_append]
            exact ⟨rl.nd, by simp, fun a ha b hb => by simp at hb; subst hb; exact fun z => hqls (z ▸ ha)⟩
          · rcases List.mem_append.mp hm with hm | hm
            · exact rl.new q' hm
            · simp at hm; subst hm; exact hqn
          · by_cases ht' : t' < ls.length
            · rw [List.getElem?_append_left ht'] at e
              rw [upd_ne (fun z => rl.dm (by rw [← z]; exact List.mem_of_getElem? e))]
              exact rl4.at_ t' q' e
            · have : t' = ls.length := by have := get_lt e; simp at this; omega
              subst this
              rw [List.getElem?_append_right (Nat.le_refl _)] at e
              simp at e
              subst e
              rw [upd_ne hqR, rl.len]
              exact hqv
        · rintro H4 ⟨ls, rl⟩
          rw [List.length_map, hpl] at rl
          have s34 := Same.tr s3 rl.s
          -- the shelf's own row
          refine ⟨_, rfl, ww, rfl, ⟨_, SqT.of (s34 _ _ b4)⟩, fun E hE => lc_col walk_tup hE (by rw [nums_len]; omega)
            (fun o y H => y = .int (0 - W.w i o)) (fun i y H H' hk e => e) (fun H' s' => SqT.of (s' _ _ (s34 _ _ b4))) ?_ ?_⟩
          · rintro o x _ H5 K5 ho s5 ⟨acc, hacc⟩ ⟨rfl, hx⟩ hK
            obtain ⟨_, rfl⟩ := nums_get hx
            exact ⟨rfl, _, rfl, _, _, rfl, rfl, hK _ _ Same.rf rfl⟩
          · rintro H5 ys s5 hy hl5 hr5
            have ey := eq_nums (f := fun o => 0 - W.w i o) (by rw [hl5, nums_len]) hr5
            subst ey
            have rl5 := rl.same s5
            have hEn : H3 E = none := none_same rl.s hE
            have hEls : E ∉ ls := fun hm => by
              obtain ⟨u, hu⟩ := List.getElem?_of_mem hm
              have := rl.at_ u E hu
              rw [hE] at this; cases this
            have hER : E ≠ R := (ne_of_none rl.d hE).symm
            refine ⟨_, rfl, _, rfl, R, _, (i : Int), i, rfl, rfl, rl5.d, by rw [List.length_map, rl.len]; exact ixN_nat hib, ?_⟩
            have rl6 := rl5.swap (t := i) hEn hEls hER hy
            have hlsi : (ls.set i E)[i]? = some E := by rw [List.getElem?_set_self (by rw [rl.len]; exact hib)]
            generalize ls.set i E = ls6 at rl6 hlsi
            generalize (upd H5 R (.lst ((ls.map V.ref).set i (.ref E)))) = H6 at rl6
            have s36 := Same.tr s3 rl6.s
            have hE6 : H6 E = some (.lst (nums (W.sz i) fun o => 0 - W.w i o)) := by rw [rl6.at_ i E hlsi]; simp
            refine ⟨_, rfl, _, rfl, _, _, _, _, rfl, rfl, SqT.of (s36 _ _ b3), atI_nat (nums_at hj), _, rfl, _, rfl, _, _, _, _, rfl, rfl, SqL.of rl6.d, atI_nat (refs_at hlsi), _, rfl, E, _, (j : Int), j, rfl, rfl, hE6, by rw [nums_len]; exact ixN_nat hj, ?_⟩
            have rl7 := rl6.put (o := j) (v := W.g i j) hlsi
            have e7 : (nums (W.sz i) fun o => 0 - W.w i o) = nums (W.sz i) ((fun t' o => if t' = i then (fun o => 0 - W.w i o) o else (fun _ _ => (0 : Int)) t' o) i) := by simp
            rw [← e7] at rl7
            generalize (upd H6 E (.lst ((nums (W.sz i) fun o => 0 - W.w i o).set j (.int (W.g i j))))) = H7 at rl7
            have rl7 : RowsL H3 H7 R ls6 W.nb W.sz (fun t o => (if t = i then (if o = j then W.g i j else - W.w i o) else 0) + Pm.famt (fs.take 0) (i, j, t, o)) := rl7.congr fun t o _ _ => by
              simp only [Pm.put2, List.take_zero]
              rw [show Pm.famt [] (i, j, t, o) = 0 from rfl]
              by_cases h1 : t = i <;> by_cases h2 : o = j <;> simp [h1, h2]
            have s37 := Same.tr s3 rl7.s
            have hql := td.fd.1
            -- the feeds
            refine ⟨_, rfl, lb, rfl, ⟨_, SqL.of (s37 _ _ td.b)⟩, for_it (walk_list (xs := qs.map V.ref)) (fun m σ H' => RowsL H3 H' R ls6 W.nb W.sz (fun t o => (if t = i then (if o = j then W.g i j else - W.w i o) else 0) + Pm.famt (fs.take m) (i, j, t, o)) ∧ ∃ x10 x11 x12 x13 x14 x15, σ = [some (.ref ta), some (.ref la), some (.ref lb), some (.ref D), some (.int (i : Nat)), some (.ref o), some (.ref g), some (.ref ww), some (.int (j : Nat)), some (.ref R), x10, x11, x12, x13, x14, x15]) ?_ ?_ ?_ ?_⟩
            · exact ⟨rl7, _, _, _, _, _, _, rfl⟩
            · rintro m σ H' _ ⟨rl', _⟩; exact SqL.of (rl'.s _ _ (s3 _ _ td.b))
            · rintro m x σ _ H8 hm ⟨rl8, x10, x11, x12, x13, x14, x15, rfl⟩ ⟨rfl, hx⟩
              obtain ⟨q, hq, rfl⟩ := refs_get hx
              have hil : m < fs.length := by have := get_lt hq; omega
              have hf : fs[m]? = some fs[m] := List.getElem?_eq_getElem hil
              have htk : fs.take (m + 1) = fs.take m ++ [fs[m]] := List.take_succ_eq_append_getElem hil
              generalize fs[m] = fe at hf htk
              have s38 := Same.tr s3 rl8.s
              have hqt := s38 _ _ (td.fd.2 m q fe hq hf)
              obtain ⟨v1, v2, v3, v4, v5, v6⟩ := FdOk.of ok td.pm (List.mem_of_getElem? hf)
              refine ⟨q, _, rfl, SqT.of hqt, rfl, _, _, rfl, _, _, rfl, _, _, rfl, _, _, rfl, _, _, rfl, rfl, ?_⟩
              refine ⟨_, rfl, _, rfl, big1000 (by simp), fun t1 ht1 => ?_⟩
              have st1 := sameUpd (o := .tup [.int (fe.b : Nat), .int (fe.c : Nat)]) ht1
              refine ⟨_, rfl, _, rfl, big1000 (by simp), fun t2 ht2 => ?_⟩
              have st2 := sameUpd (o := .tup [.int (i : Nat), .int (j : Nat)]) ht2
              refine ⟨tI [(fe.b : Nat), (fe.c : Nat)], tI [(i : Nat), (j : Nat)], dp_ints (SqT.of (st2 _ _ upd_same)), dp_ints (SqT.of upd_same), tI_shaped _, tI_shaped _, _, rfl, ?_⟩
              rw [tI_eqv]
              have rl9 := rl8.same (Same.tr st1 st2)
              generalize (upd (upd H8 t1 (.tup [.int (fe.b : Nat), .int (fe.c : Nat)])) t2 (.tup [.int (i : Nat), .int (j : Nat)])) = H9 at rl9
              have addf : ∀ t o, Pm.famt (fs.take (m + 1)) (i, j, t, o) = Pm.famt (fs.take m) (i, j, t, o) + if fe.key = (i, j, t, o) then fe.amt else 0 := fun t o => by
                rw [htk, Pm.famt_app, Pm.famt_cons]; simp [Pm.famt]
              by_cases hkey : fe.b = i ∧ fe.c = j
              · rw [decide_eq_true (by rw [hkey.1, hkey.2])]
                have hlt : ls6[fe.t]? = some (ls6[fe.t]'(by rw [rl9.len]; exact v3)) := List.getElem?_eq_getElem _
                generalize ls6[fe.t]'(by rw [rl9.len]; exact v3) = lq at hlt
                have hv := rl9.at_ fe.t lq hlt
                refine iteT ⟨_, rfl, _, rfl, _, _, _, _, rfl, rfl, SqL.of rl9.d, atI_nat (refs_at hlt), _, rfl, _, _, _, _, rfl, rfl, SqL.of hv, atI_nat (nums_at v4), _, rfl, _, _, rfl, rfl, _, rfl, _, rfl, _, _, _, _, rfl, rfl, SqL.of rl9.d, atI_nat (refs_at hlt), _, rfl, lq, _, (fe.o : Int), fe.o, rfl, rfl, hv, by rw [nums_len]; exact ixN_nat v4, ?_⟩
                refine ⟨(rl9.put hlt).congr fun t o _ _ => ?_, _, _, _, _, _, _, rfl⟩
                rw [addf]
                simp only [Pm.put2, Pm.Fd.key, hkey.1, hkey.2, Prod.mk.injEq, true_and]
                by_cases h1 : t = fe.t <;> by_cases h2 : o = fe.o
                · subst h1; subst h2; simp; omega
                · simp [h1, h2]; rw [if_neg (fun z => h2 z.symm)]; omega
                · simp [h1, h2]; rw [if_neg (fun z => h1 z.symm)]; omega
                · simp [h1, h2]; rw [if_neg (fun z => h1 z.1.symm)]; omega
              · rw [decide_eq_false (fun z => hkey (by simp at z; omega))]
                refine iteF ⟨rl9.congr fun t o _ _ => ?_, _, _, _, _, _, _, rfl⟩
                have e0 : (if fe.key = (i, j, t, o) then fe.amt else 0) = 0 := if_neg (fun z => hkey (by simp only [Pm.Fd.key, Prod.mk.injEq] at z; exact ⟨z.1, z.2.1⟩))
                rw [addf, e0, Int.add_zero]
            · rintro σ H8 ⟨rl8, x10, x11, x12, x13, x14, x15, rfl⟩
              rw [List.length_map, hql, List.take_length] at rl8
              have rl8 : RowsL H3 H8 R ls6 W.nb W.sz (fun t o => W.mv i j t o) := rl8.congr fun t o _ _ => by rw [famt_perm td.pm]; rfl
              have hD8 := rl8.s _ _ hD3
              refine ⟨_, rfl, _, rfl, _, rfl, _, rfl, big1000 (by simp), fun q hq => ?_⟩
              have s9 := sameUpd (o := .tup [.int (i : Nat), .int (j : Nat)]) hq
              have rl9 := rl8.same s9
              refine ⟨_, _, rfl, DPut.t (k := [Sum.inl (i : Int), Sum.inl (j : Int)]) (s9 _ _ hD8) upd_same (small1000 (by omega)), ?_⟩
              have hkd : Kd D _ (upd (upd H8 q (.tup [.int (i : Nat), .int (j : Nat)])) D (.dT (putK mk [Sum.inl (i : Int), Sum.inl (j : Int)] (.ref R)))) := fun b o e ne => (upd_ne ne).trans e
              refine ⟨sameW (Same.tr s3 rl9.s) hD, ⟨_, _, _, _, _, _, _, _, rfl⟩, _, upd_same, Nat.le_trans (length_putK _ _ _) (by omega), fun b c hbc hc => ?_⟩
              by_cases hz : b = i ∧ c = j
              · obtain ⟨rfl, rfl⟩ := hz
                refine ⟨R, ls6, by rw [valV_put, if_pos rfl], hkd _ _ rl9.d (ne_of rl9.d (s9 _ _ hD8) (by simp)), rl9.len, fun t p' hp' => ?_⟩
                have := rl9.at_ t p' hp'
                exact hkd _ _ this (ne_of this (s9 _ _ hD8) (by simp))
              · refine (((hmv b c (by omega) hc).same rl9.s)).kd hkd (s9 _ _ hD8) ?_
                rw [valV_put, if_neg]
                intro e
                simp at e
                omega
      · rintro σ H3 ⟨s3, ⟨x8, x9, x10, x11, x12, x13, x14, x15, rfl⟩, mk, hD3, hlen, hmv⟩
        refine ⟨s3, ⟨_, _, _, _, _, _, _, _, _, _, _, _, rfl⟩, mk, hD3, by omega, fun b c hb hc => hmv b c ?_ hc⟩
        by_cases h : b < i
        · exact .inl h
        · have : b = i := by omega
          subst this
          exact .inr ⟨rfl, hc⟩
    · rintro σ H3 ⟨s3, ⟨x4, x5, x6, x7, x8, x9, x10, x11, x12, x13, x14, x15, rfl⟩, mk, hD3, hlen, hmv⟩
      rw [List.length_map, hpl] at hmv
      exact ⟨_, rfl, kont D H3 s3 ⟨mk, hD3, hmv⟩⟩
end
end WB


namespace WB
open PySem L2
def spLBehind (K : PySem.W.Frag) (cW cS : Addr) : Sp := fun vs H Q _ => ∃ (d a j : Addr) (W : Pm.Wd) (st : Pm.Stand) (J : Nat → Nat), vs = [.ref d, .ref a, .ref j] ∧ W.Ok ∧ MovesL H d W ∧ StAt H a W.nb W.sz st ∧ JtAt H j W.nb J ∧ (∀ b, b < W.nb → J b < W.sz b) ∧ ∀ r H', Same H H' → StAt H' r W.nb W.sz (fun t o => st t o + Pm.sumTo (fun b => W.mv b (J b) t o) W.nb) → Q (.ref r) H'
/-- the joints of a row -/
def RowAt (H : Hp) (r : Addr) (Y : Pm.Sys) (v : Int) (T : Nat) : Prop := ∃ js : List Addr, H r = some (.lst (js.map V.ref)) ∧ js.length = T ∧ ∀ (t : Nat) (j : Addr), js[t]? = some j → JtAt H j Y.nb (Y.J (Y.st v t))
theorem RowAt.same {H H' : Hp} {r : Addr} {Y : Pm.Sys} {v : Int} {T : Nat} (s : Same H H') (h : RowAt H r Y v T) : RowAt H' r Y v T := let ⟨js, h1, h2, h3⟩ := h; ⟨js, s _ _ h1, h2, fun t j e => s _ _ (h3 t j e)⟩
def spLGone (K : PySem.W.Frag) (cW cS : Addr) : Sp := fun vs H Q _ => ∃ (ta d a : Addr) (W : Pm.Wd) (st0 : Pm.Stand) (k : Pm.Knob) (v : Int) (T : Nat), vs = [.ref ta, .ref d, .ref a, .int (T : Nat)] ∧ W.Ok ∧ (W.turn k v).Ok ∧ T ≤ 100 ∧ ToldAt H ta (W.turn k v) ∧ MovesL H d (W.turn k v) ∧ StAt H a W.nb W.sz ((Pm.sys W st0 k).st v 0) ∧ ∀ r H' rw a', Same H H' → H' r = some (.tup [.ref rw, .ref a']) → RowAt H' rw (Pm.sys W st0 k) v T → Q (.ref r) H'
def spLRowBy (K : PySem.W.Frag) (cW cS : Addr) : Sp := fun vs H Q _ => ∃ (ta a kk : Addr) (W : Pm.Wd) (st0 : Pm.Stand) (k : Pm.Knob) (v : Int) (T : Nat), vs = [.ref ta, .ref a, .ref kk, .int v, .int (T : Nat)] ∧ W.Ok ∧ k.ok W ∧ (Pm.isStr k = true ∨ Pm.Amt v) ∧ T ≤ 100 ∧ ToldAt H ta W ∧ StAt H a W.nb W.sz st0 ∧ KnobAt H kk k ∧ ∀ rw H', Same H H' → RowAt H' rw (Pm.sys W st0 k) v T → Q (.ref rw) H'
theorem sum_succ (f : Nat → Int) (n : Nat) : Pm.sumTo f (n + 1) = Pm.sumTo f n + f n := rfl
section
variable {P : Program} {w : World} {K : PySem.W.Frag} {mg : Str → Option Value} {base : Heap} {cW cS dW : Addr} {xs : Exs}
abbrev sLBehind : Stmt := top 57
theorem scLBehind : FnScope ["_law_moves_here", "_law_stand_here", "_law_joint_here", "_law_rows", "_law_strengths", "_law_key", "_law_row", "_law_more", "_law_pick", "_law_amount"] ["_law_moves_here", "_law_stand_here", "_law_joint_here"] (defScope sLBehind) := ⟨rfl, rfl, rfl, by decide +kernel, rfl, by decide +kernel, by decide +kernel⟩
theorem ok_LBehind {f : Addr} {fd : FuncData} (F : Fun K "_law_behind" "_law_behind" sLBehind f fd) (T : NoG mg)  : FnOk P w K mg base CX0 1 f fd ["_law_moves_here", "_law_stand_here", "_law_joint_here"] (spLBehind K cW cS) := by
  refine F.ok scLBehind (fun vs H Q E h => ?_) (fun cdv A outer s H vs Q E hr h => ?_)
  · repeat (first | (obtain ⟨rfl, _⟩ := h; rfl) | (obtain ⟨_, h⟩ := h))
  · obtain ⟨d, a, j, W, st, J, rfl, ok, ⟨mk, hd, hmv⟩, ⟨ss, ha, hsl, hss⟩, hj, hJ, kont⟩ := h
    refine ⟨_, (pss_cons (ps_setLcD (i := 3) (own := [("_law_strengths", 4)]) rfl scLBehind.nd rfl rfl (sw_true rfl rfl rfl (by decide +kernel)) (pi_tup (pv 1)) (blkOk_by (by kernel_rfl)) (fun _ _ _ _ _ => (pg_name (i := 4) scLBehind.nd rfl (Or.inl rfl))) (fun _ _ _ _ _ => pts_nil) (fun _ _ _ _ _ => (pe_callTy call_list_of (by rfl) T.list (by decide +kernel) (pa_cons (pv 4) pa_nil))))
      (pss_cons (ps_for PassesOwn.never rfl (pi_enumM (by rfl) T.enumerate (pa_cons (pv 2) pa_nil)) (pg_name (i := 5) scLBehind.nd rfl (Or.inl rfl))
        (pss_one (ps_for PassesOwn.never rfl (pi_zipM (by rfl) T.zip (pa_cons (pv 3) (pa_cons (pe_dget (hu_of hr) (pv 0) (pv 5) (fun _ _ => rfl)) pa_nil))) (pg_tup (n := 2) rfl (pgs_cons (pg_name (i := 6) scLBehind.nd rfl (Or.inl rfl)) (pgs_cons (pg_name (i := 7) scLBehind.nd rfl (Or.inl rfl)) pgs_nil)))
            (pss_one (ps_for PassesOwn.never rfl (pi_enumM (by rfl) T.enumerate (pa_cons (pv 7) pa_nil)) (pg_tup (n := 2) rfl (pgs_cons (pg_name (i := 8) scLBehind.nd rfl (Or.inl rfl)) (pgs_cons (pg_name (i := 9) scLBehind.nd rfl (Or.inl rfl)) pgs_nil)))
                (pss_one (ps_asg (pe_op op_add (pe_ix ix_list (pv 6) (pv 8) (fun _ _ => rfl)) (pv 9)) (pg_sub (pv 6) (pv 8) set_list))))))))
      (pss_one (ps_ret (pe_tupleOf (by rfl) T.tuple (pe_lcD (own := [("_law_row", 6)]) rfl scLBehind.nd (pi_list (pv 3)) (blkOk_by (by kernel_rfl)) (fun _ _ _ _ _ => (pg_name (i := 6) scLBehind.nd rfl (Or.inl rfl))) (fun _ _ _ _ _ => pts_nil) (fun _ _ _ _ _ => (pe_tupleOf (by rfl) T.tuple (pv 6))))))))), ?_⟩
    have n4 := ok.n4
    refine ⟨_, rfl, a, rfl, ⟨_, SqT.of ha⟩, fun R hR => ?_⟩
    refine lc_it (walk_tup (xs := ss.map V.ref)) (fun t H' => ∃ ls, RowsL H H' R ls t W.sz st) ?_ ?_ ?_ ?_
    · exact ⟨[], sameUpd hR, upd_same, hR, rfl, List.nodup_nil, by simp, by simp, by simp⟩
    · rintro t H' _ ⟨ls, rl⟩; exact SqT.of (rl.s _ _ ha)
    · rintro t x _ H4 ht ⟨ls, rl⟩ ⟨rfl, hx⟩
      obtain ⟨pt, hpt, rfl⟩ := refs_get hx
      have hpt4 := rl.s _ _ (hss t pt hpt)
      refine ⟨rfl, _, rfl, pt, _, rfl, .inr (SqT.of hpt4), fun q hq => ?_⟩
      have sq := sameUpd (o := .lst (nums (W.sz t) (st t))) hq
      have rl4 := rl.same sq
      have hqn : H q = none := none_same rl.s hq
      have hqls : q ∉ ls := fun hm => by
        obtain ⟨u, hu⟩ := List.getElem?_of_mem hm
        have := rl.at_ u q hu
        rw [hq] at this; cases this
      have hqR : q ≠ R := (ne_of_none rl.d hq).symm
      have htn : t < 4 := by have := get_lt hpt; omega
      refine ⟨_, rl4.d, by rw [List.length_map, rl.len, sizeLine_eq]; omega, ls ++ [q], sameW rl4.s hR, by rw [upd_same, List.map_append]; rfl, hR, by simp [rl.len], ?_, by simp [rl.dm, hqR.symm], fun q' hm => ?_, fun t' q' e => ?_⟩
      · rw [List.nodup_append]
        exact ⟨rl.nd, by simp, fun a ha b hb => by simp at hb; subst hb; exact fun z => hqls (z ▸ ha)⟩
      · rcases List.mem_append.mp hm with hm | hm
        · exact rl.new q' hm
        · simp at hm; subst hm; exact hqn
      · by_cases ht' : t' < ls.length
        · rw [List.getElem?_append_left ht'] at e
          rw [upd_ne (fun z => rl.dm (by rw [← z]; exact List.mem_of_getElem? e))]
          exact rl4.at_ t' q' e
        · have : t' = ls.length := by have := get_lt e; simp at this; omega
          subst this
          rw [List.getElem?_append_right (Nat.le_refl _)] at e
          simp at e
          subst e
          rw [upd_ne hqR, rl.len, upd_same]
    · rintro H4 ⟨ls, rl⟩
      rw [List.length_map, hsl] at rl
      have rl : RowsL H H4 R ls W.nb W.sz (fun t o => st t o + Pm.sumTo (fun b => W.mv b (J b) t o) 0) := rl.congr fun t o _ _ => (Int.add_zero _).symm
      refine ⟨_, rfl, true, j, _, rfl, SqT.of (rl.s _ _ hj), for_it (walk_enumM (xs := nums W.nb fun b => ((J b : Nat) : Int))) (fun i σ H' => RowsL H H' R ls W.nb W.sz (fun t o => st t o + Pm.sumTo (fun b => W.mv b (J b) t o) i) ∧ ∃ x4 x5 x6 x7 x8 x9, σ = [some (.ref d), some (.ref a), some (.ref j), some (.ref R), x4, x5, x6, x7, x8, x9]) ?_ ?_ ?_ ?_⟩
      · exact ⟨rl, _, _, _, _, _, _, rfl⟩
      · rintro i σ H' _ ⟨rl', _⟩; exact SqT.of (rl'.s _ _ hj)
      · rintro i x σ H1 H2 hin ⟨rl1, x4, x5, x6, x7, x8, x9, rfl⟩ ⟨T', y1, y2, rfl, hT, rfl, e1, e2⟩
        cases e1
        obtain ⟨hib, rfl⟩ := nums_get e2
        have rl2 := rl1.same (sameUpd (o := .tup [.int (i : Nat), .int (J i : Nat)]) hT)
        obtain ⟨l, ms, m1, m2, m3, m4⟩ := (hmv i (J i) hib (hJ i hib)).same rl2.s
        have rl2' : RowsL H (upd H1 T' (.tup [.int (i : Nat), .int (J i : Nat)])) R ls W.nb W.sz (fun t o => st t o + Pm.sumTo (fun b => W.mv b (J b) t o) i + if t < 0 then W.mv i (J i) t o else 0) := rl2.congr fun t o _ _ => by rw [if_neg (Nat.not_lt_zero _), Int.add_zero]
        refine ⟨_, rfl, _, rfl, _, rfl, d, _, rfl, dget_t (k := [Sum.inl (i : Int), Sum.inl (J i : Int)]) (rl2.s _ _ hd) upd_same m1, false, false, R, l, _, _, rfl, SqL.of rl2.d, SqL.of m2, ?_⟩
        refine for_it (walk_zipM (xs := ls.map V.ref) (ys := ms.map V.ref) (by rw [List.length_map, List.length_map, rl2.len, m3])) (fun t σ H' => RowsL H H' R ls W.nb W.sz (fun t' o => st t' o + Pm.sumTo (fun b => W.mv b (J b) t' o) i + if t' < t then W.mv i (J i) t' o else 0) ∧ H' l = some (.lst (ms.map V.ref)) ∧ (∀ (t : Nat) (q : Addr), ms[t]? = some q → H' q = some (.lst (nums (W.sz t) fun o => W.mv i (J i) t o))) ∧ ∃ x6 x7 x8 x9, σ = [some (.ref d), some (.ref a), some (.ref j), some (.ref R), x4, some (.ref T'), x6, x7, x8, x9]) ?_ ?_ ?_ ?_
        · exact ⟨rl2', m2, m4, _, _, _, _, rfl⟩
        · rintro t σ H' _ ⟨rl', h2, _⟩; exact ⟨SqL.of rl'.d, SqL.of h2⟩
        · rintro t x σ H3 H4 htn ⟨rl3, l3, mm3, x6, x7, x8, x9, rfl⟩ ⟨T2, z1, z2, rfl, hT2, rfl, e3, e4⟩
          obtain ⟨q, hq, rfl⟩ := refs_get e3
          obtain ⟨mq, hmq, rfl⟩ := refs_get e4
          have htb : t < W.nb := by have := get_lt hq; rw [rl3.len] at this; exact this
          have s4 := sameUpd (o := .tup [.ref q, .ref mq]) hT2
          have rl4 := rl3.same s4
          -- what is read stands since the beginning, what is written is new
          obtain ⟨l0, ms0, n1, n2, n3, n4'⟩ := hmv i (J i) hib (hJ i hib)
          have el : l0 = l := by rw [n1] at m1; injection m1 with m1; injection m1
          subst el
          have ems : ms0 = ms := by
            have := rl3.s _ _ n2
            rw [l3] at this
            injection this with this
            injection this with this
            have inj : ∀ (a b : List Addr), a.map V.ref = b.map V.ref → a = b := fun a b h => by
              induction a generalizing b with
              | nil => cases b with
                | nil => rfl
                | cons _ _ => simp at h
              | cons x r ih => cases b with
                | nil => simp at h
                | cons y s => simp at h; rw [h.1, ih s (by simpa using h.2)]
            exact (inj _ _ this).symm
          subst ems
          refine ⟨T2, _, rfl, SqT.of upd_same, rfl, _, _, rfl, _, _, rfl, rfl, ?_⟩
          have rl4' : RowsL H (upd H3 T2 (.tup [.ref q, .ref mq])) R ls W.nb W.sz (fun t' o' => st t' o' + Pm.sumTo (fun b => W.mv b (J b) t' o') i + if t' < t ∨ (t' = t ∧ o' < 0) then W.mv i (J i) t' o' else 0) := rl4.congr fun t' o' _ _ => by
            congr 1
            by_cases h : t' < t
            · rw [if_pos h, if_pos (.inl h)]
            · rw [if_neg h, if_neg (fun z => z.elim h (fun y => Nat.not_lt_zero _ y.2))]
          refine ⟨_, rfl, false, mq, _, rfl, SqL.of (rl4.s _ _ (n4' t mq hmq)), ?_⟩
          refine for_it (walk_enumM (xs := nums (W.sz t) fun o => W.mv i (J i) t o)) (fun o σ H' => RowsL H H' R ls W.nb W.sz (fun t' o' => st t' o' + Pm.sumTo (fun b => W.mv b (J b) t' o') i + if t' < t ∨ (t' = t ∧ o' < o) then W.mv i (J i) t' o' else 0) ∧ ∃ x8 x9, σ = [some (.ref d), some (.ref a), some (.ref j), some (.ref R), x4, some (.ref T'), some (.ref q), some (.ref mq), x8, x9]) ?_ ?_ ?_ ?_
          · exact ⟨rl4', _, _, rfl⟩
          · rintro o σ H' _ ⟨rl', _⟩; exact SqL.of (rl'.s _ _ (n4' t mq hmq))
          · rintro o x σ H5 H6 hon ⟨rl5, x8, x9, rfl⟩ ⟨T3, w1, w2, rfl, hT3, rfl, e5, e6⟩
            cases e5
            obtain ⟨hoz, rfl⟩ := nums_get e6
            have rl6 := rl5.same (sameUpd (o := .tup [.int (o : Nat), .int (W.mv i (J i) t o)]) hT3)
            refine ⟨T3, _, rfl, SqT.of upd_same, rfl, _, _, rfl, _, _, rfl, rfl, ?_⟩
            have hqv := rl6.at_ t q hq
            refine ⟨_, rfl, _, rfl, _, _, _, _, rfl, rfl, SqL.of hqv, atI_nat (nums_at hoz), _, rfl, _, _, rfl, rfl, _, rfl, _, rfl, q, _, (o : Int), o, rfl, rfl, hqv, by rw [nums_len]; exact ixN_nat hoz, ?_⟩
            refine ⟨(rl6.put hq).congr fun t' o' _ _ => ?_, _, _, rfl⟩
            simp only [Pm.put2]
            by_cases h1 : t' = t ∧ o' = o
            · obtain ⟨rfl, rfl⟩ := h1
              rw [if_pos ⟨rfl, rfl⟩, if_neg (by omega), if_pos (by omega), Int.add_zero]
            · rw [if_neg h1]
              congr 1
              by_cases h2 : t' < t ∨ (t' = t ∧ o' < o)
              · rw [if_pos h2, if_pos (by omega)]
              · rw [if_neg h2, if_neg (by omega)]
          · rintro σ H5 ⟨rl5, x8, x9, rfl⟩
            rw [nums_len] at rl5
            refine ⟨rl5.congr fun t' o' _ ho' => ?_, rl5.s _ _ n2, fun t q e => rl5.s _ _ (n4' t q e), _, _, _, _, rfl⟩
            congr 1
            by_cases h : t' < t + 1
            · rw [if_pos h, if_pos]
              by_cases h2 : t' < t
              · exact .inl h2
              · have : t' = t := by omega
                subst this
                exact .inr ⟨rfl, ho'⟩
            · rw [if_neg h, if_neg (by omega)]
        · rintro σ H3 ⟨rl3, l3, mm3, x6, x7, x8, x9, rfl⟩
          refine ⟨rl3.congr fun t o ht _ => ?_, _, _, _, _, _, _, rfl⟩
          rw [List.length_map, rl2.len, if_pos ht, sum_succ]
          omega
      · rintro σ H1 ⟨rl1, x4, x5, x6, x7, x8, x9, rfl⟩
        rw [nums_len] at rl1
        refine ⟨_, rfl, R, rfl, ⟨_, SqL.of rl1.d⟩, fun D2 hD2 => lc_col (walk_list (xs := ls.map V.ref)) hD2 (by rw [List.length_map, rl1.len]; omega)
          (fun t y H => ∃ q, y = .ref q ∧ q ≠ D2 ∧ H q = some (.tup (nums (W.sz t) fun o => st t o + Pm.sumTo (fun b => W.mv b (J b) t o) W.nb))) (fun t y H H' hk ⟨q, e, ne, hq⟩ => ⟨q, e, ne, hk _ _ hq ne⟩) (fun H' s' => SqL.of (s' _ _ rl1.d)) ?_ ?_⟩
        · rintro t x _ H2 K2 ht s2 ⟨acc, hacc⟩ ⟨rfl, hx⟩ hK
          obtain ⟨q, hq, rfl⟩ := refs_get hx
          have hqv := s2 _ _ (rl1.at_ t q hq)
          refine ⟨rfl, _, rfl, .inl ⟨q, _, rfl, SqL.of hqv, fun q2 hq2 => hK _ _ (sameUpd hq2) ⟨q2, rfl, (ne_of_none hacc hq2).symm, upd_same⟩⟩⟩
        · rintro H4 ys s4 hy hl4 hr4
          obtain ⟨rs, rfl, hrs⟩ := refs_of hr4
          refine .inl ⟨D2, _, rfl, SqL.of hy, newT fun r H5 hr5 s5 h5 => ?_⟩
          exact kont r _ (Same.tr rl1.s (Same.tr s4 s5)) ⟨rs, h5, by rw [List.length_map, List.length_map, rl1.len] at hl4; exact hl4, fun b p hp => s5 _ _ (hrs b p hp).2⟩
abbrev sLGone : Stmt := top 58
theorem scLGone : FnScope ["_law_told_here", "_law_moves_here", "_law_stand_here", "_law_beats", "_law_row", "_law_beat"] ["_law_told_here", "_law_moves_here", "_law_stand_here", "_law_beats"] (defScope sLGone) := ⟨rfl, rfl, rfl, by decide +kernel, rfl, by decide +kernel, by decide +kernel⟩
theorem ok_LGone {f : Addr} {fd : FuncData} (F : Fun K "_law_gone" "_law_gone" sLGone f fd) (T : NoG mg) (c__law_behind : Cal P w K mg base CX0 1 "_law_behind" ["_law_moves_here", "_law_stand_here", "_law_joint_here"] (spLBehind K cW cS)) (c__law_joint : Cal P w K mg base CX0 1 "_law_joint" ["_law_told_here", "_law_stand_here"] (spLJoint K cW cS)) : FnOk P w K mg base CX0 2 f fd ["_law_told_here", "_law_moves_here", "_law_stand_here", "_law_beats"] (spLGone K cW cS) := by
  refine F.ok scLGone (fun vs H Q E h => ?_) (fun cdv A outer s H vs Q E hr h => ?_)
  · repeat (first | (obtain ⟨rfl, _⟩ := h; rfl) | (obtain ⟨_, h⟩ := h))
  · obtain ⟨ta, d, a, W, st0, k, v, T', rfl, ok, ok', hT, htd, hmv, hst, kont⟩ := h
    refine ⟨_, (pss_cons (ps_set (i := 4) scLGone.nd rfl (Or.inl rfl) (pe_lst pa_nil))
      (pss_cons (ps_for PassesOwn.never rfl (pi_range1 (by rfl) T.range (pa_cons (pv 3) pa_nil)) (pg_name (i := 5) scLGone.nd rfl (Or.inl rfl))
        (pss_cons (ps_expr (pe_bm PySem.F.plainAttrs_list PySem.F.slot_list_append PySem.F.type_list_append mt_append (pv 4) (pa_cons (pe_cal c__law_joint (hr.mono (by decide)) pass0 (pa_cons (pv 0) (pa_cons (pv 2) pa_nil))) pa_nil)))
          (pss_one (ps_set (i := 2) scLGone.nd rfl (Or.inl rfl) (pe_cal c__law_behind (hr.mono (by decide)) pass0 (pa_cons (pv 1) (pa_cons (pv 2) (pa_cons (pe_ix ix_list (pv 4) (pe_un un_neg pe_int) (fun _ _ => rfl)) pa_nil))))))))
      (pss_one (ps_ret (pe_tup (pa_cons (pv 4) (pa_cons (pv 2) pa_nil))))))), ?_⟩
    refine ⟨big1000 (by simp), fun D hD => ?_⟩
    have s0 : Same H (upd H D (.lst [])) := sameUpd hD
    refine ⟨_, rfl, _, rfl, by omega, by omega, for_it (wrn (n := T')) (fun t σ H' => Same H H' ∧ (∃ js : List Addr, H' D = some (.lst (js.map V.ref)) ∧ js.length = t ∧ ∀ (t : Nat) (j : Addr), js[t]? = some j → JtAt H' j W.nb ((Pm.sys W st0 k).J ((Pm.sys W st0 k).st v t))) ∧ ∃ a' x5, StAt H' a' W.nb W.sz ((Pm.sys W st0 k).st v t) ∧ σ = [some (.ref ta), some (.ref d), some (.ref a'), some (.int (T' : Nat)), some (.ref D), x5]) ?_ (fun _ _ _ _ _ => trivial) ?_ ?_⟩
    · exact ⟨s0, ⟨[], upd_same, rfl, by simp⟩, a, _, hst.same s0, rfl⟩
    · rintro t x σ _ H1 ht ⟨s1, ⟨js, hD1, hl, hj⟩, a', x5, hst1, rfl⟩ ⟨rfl, rfl⟩
      refine ⟨_, rfl, .inl ⟨rfl, _, SqL.of hD1⟩, _, rfl, _, rfl, ta, a', W.turn k v, (Pm.sys W st0 k).st v t, rfl, ok', htd.same s1, by rw [turn_nb, turn_sz]; exact hst1, fun r H2 s2 hr => ?_⟩
      rw [turn_nb, turn_ord] at hr
      have hr : JtAt H2 r W.nb ((Pm.sys W st0 k).J ((Pm.sys W st0 k).st v t)) := hr
      have hD2 := s2 _ _ hD1
      refine ⟨D, _, _, rfl, rfl, hD2, by rw [List.length_map, hl, sizeLine_eq]; omega, ?_⟩
      have s3 : Same H (upd H2 D (.lst (js.map V.ref ++ [.ref r]))) := sameW (Same.tr s1 s2) hD
      have hk : ∀ b xs, H2 b = some (.tup xs) → (upd H2 D (.lst (js.map V.ref ++ [.ref r]))) b = some (.tup xs) := fun b xs e => (upd_ne (ne_of e hD2 (by simp))).trans e
      have hD3 : (upd H2 D (.lst (js.map V.ref ++ [.ref r]))) D = some (.lst ((js ++ [r]).map V.ref)) := by rw [upd_same, List.map_append]; rfl
      have hst3 : StAt (upd H2 D (.lst (js.map V.ref ++ [.ref r]))) a' W.nb W.sz ((Pm.sys W st0 k).st v t) := ((hst1.same s2).hideI hD2 (by simp)).same (sameW hid_same hid_none)
      have hj3 : JtAt (upd H2 D (.lst (js.map V.ref ++ [.ref r]))) r W.nb ((Pm.sys W st0 k).J ((Pm.sys W st0 k).st v t)) := hk _ _ hr
      have hjs : ∀ (t' : Nat) (j : Addr), (js ++ [r])[t']? = some j → JtAt (upd H2 D (.lst (js.map V.ref ++ [.ref r]))) j W.nb ((Pm.sys W st0 k).J ((Pm.sys W st0 k).st v t')) := fun t' j e => by
        by_cases ht' : t' < js.length
        · rw [List.getElem?_append_left ht'] at e
          exact hk _ _ (s2 _ _ (hj t' j e))
        · have : t' = t := by have := get_lt e; simp at this; omega
          subst this
          rw [List.getElem?_append_right (by omega)] at e
          simp [hl] at e
          subst e
          exact hj3
      refine ⟨_, rfl, _, rfl, _, rfl, _, rfl, D, _, _, _, rfl, rfl, SqL.of hD3, atI_end (v := .ref r) (by simp) (by simp), d, a', r, W.turn k v, (Pm.sys W st0 k).st v t, (Pm.sys W st0 k).J ((Pm.sys W st0 k).st v t), rfl, ok', hmv.same s3, by rw [turn_nb, turn_sz]; exact hst3, by rw [turn_nb]; exact hj3, fun b hb => ?_, fun r4 H4 s4 h4 => ?_⟩
      · rw [turn_nb] at hb
        rw [turn_sz]
        exact (ok.mem b hb _).mp (Pm.pick_mem (by intro z; have := (ok.mem b hb 0).mpr (ok.s1 b hb); rw [show W.ord b = [] from z] at this; simp at this) _)
      · rw [turn_nb, turn_sz] at h4
        exact ⟨Same.tr s3 s4, ⟨js ++ [r], s4 _ _ hD3, by simp [hl], fun t' j e => s4 _ _ (hjs t' j e)⟩, r4, _, h4, rfl⟩
    · rintro σ H1 ⟨s1, ⟨js, hD1, hl, hj⟩, a', x5, hst1, rfl⟩
      exact ⟨_, rfl, _, rfl, big1000 (by simp), newT fun r H2 _ s2 h2 => kont r H2 D a' (Same.tr s1 s2) h2 ⟨js, s2 _ _ hD1, hl, fun t j e => s2 _ _ (hj t j e)⟩⟩
abbrev sLRowBy : Stmt := top 63
theorem scLRowBy : FnScope ["_law_told_here", "_law_stand_here", "_law_knob_here", "_law_number", "_law_beats", "_law_there", "_law_begun"] ["_law_told_here", "_law_stand_here", "_law_knob_here", "_law_number", "_law_beats"] (defScope sLRowBy) := ⟨rfl, rfl, rfl, by decide +kernel, rfl, by decide +kernel, by decide +kernel⟩
theorem ok_LRowBy {f : Addr} {fd : FuncData} (F : Fun K "_law_row_by" "_law_row_by" sLRowBy f fd) (T : NoG mg) (c__law_turned : Cal P w K mg base CX0 2 "_law_turned" ["_law_told_here", "_law_stand_here", "_law_knob_here", "_law_number"] (spLTurned K cW cS)) (c__law_gone : Cal P w K mg base CX0 2 "_law_gone" ["_law_told_here", "_law_moves_here", "_law_stand_here", "_law_beats"] (spLGone K cW cS)) (c__law_moves : Cal P w K mg base CX0 1 "_law_moves" ["_law_told_here"] (spLMoves K cW cS)) : FnOk P w K mg base CX0 3 f fd ["_law_told_here", "_law_stand_here", "_law_knob_here", "_law_number", "_law_beats"] (spLRowBy K cW cS) := by
  refine F.ok scLRowBy (fun vs H Q E h => ?_) (fun cdv A outer s H vs Q E hr h => ?_)
  · repeat (first | (obtain ⟨rfl, _⟩ := h; rfl) | (obtain ⟨_, h⟩ := h))
  · obtain ⟨ta, a, kk, W, st0, k, v, T', rfl, ok, hok, hv, hT, htd, hst, hk, kont⟩ := h
    refine ⟨_, (pss_cons (ps_asg (pe_cal c__law_turned (hr.mono (by decide)) pass0 (pa_cons (pv 0) (pa_cons (pv 1) (pa_cons (pv 2) (pa_cons (pv 3) pa_nil))))) (pg_tup (n := 2) rfl (pgs_cons (pg_name (i := 5) scLRowBy.nd rfl (Or.inl rfl)) (pgs_cons (pg_name (i := 6) scLRowBy.nd rfl (Or.inl rfl)) pgs_nil))))
      (pss_one (ps_ret (pe_ix ix_tup (pe_cal c__law_gone (hr.mono (by decide)) pass0 (pa_cons (pv 5) (pa_cons (pe_cal c__law_moves (hr.mono (by decide)) pass0 (pa_cons (pv 5) pa_nil)) (pa_cons (pv 6) (pa_cons (pv 4) pa_nil))))) pe_int (fun _ _ => rfl))))), ?_⟩
    refine ⟨_, rfl, _, rfl, _, rfl, _, rfl, ta, a, kk, W, st0, k, v, rfl, ok, htd, hst, hk, hok, fun r H1 ta' a' s1 h1 td1 st1 => ?_⟩
    have ok' := turn_ok ok hok hv
    refine ⟨r, _, rfl, SqT.of h1, rfl, _, _, rfl, _, _, rfl, rfl, ?_⟩
    refine ⟨_, rfl, _, rfl, ta', W.turn k v, rfl, ok', td1, fun d H2 s2 hm => ⟨_, rfl, _, rfl, ta', d, a', W, st0, k, v, T', rfl, ok, ok', hT, td1.same s2, hm, st1.same s2, fun r3 H3 rw' a3 s3 h3 hr => ?_⟩⟩
    exact ⟨_, _, _, _, rfl, rfl, SqT.of h3, rfl, kont rw' H3 (Same.tr s1 (Same.tr s2 s3)) hr⟩
end
end WB


namespace WB
open PySem L2
/-! ### the law's slopes, by keys -/
def kcv (k : Pm.Knob) : List Key := [Sum.inl (k.b : Int), Sum.inl (k.c : Int)]
def tkv (k : Pm.Knob) : List Key := [Sum.inl (k.tk.1 : Int), Sum.inl (k.tk.2 : Int)]
def KeysOk (k : Pm.Knob) (mk : List (List Key × V)) : Prop := mk.map (·.1) = [kcv k] ∨ (mk.map (·.1) = [kcv k, tkv k] ∧ kcv k ≠ tkv k)
theorem hu16 {A : Around} {k : Nat} (hr : Room k A) : A.units + 16 < cLine := by have := hr.units; omega
theorem keys_put {k : Pm.Knob} {mk : List (List Key × V)} (v : V) (h : KeysOk k mk) : KeysOk k (putK mk (tkv k) v) := by
  have hm : ∀ l : List (List Key × V), (l.map fun kv => if kv.1 = tkv k then (kv.1, v) else kv).map (·.1) = l.map (·.1) := fun l => by
    rw [List.map_map]
    refine List.map_congr_left fun x _ => ?_
    show (if x.1 = tkv k then (x.1, v) else x).1 = x.1
    split <;> rfl
  unfold putK
  by_cases ha : (mk.any fun kv => decide (kv.1 = tkv k)) = true
  · rw [if_pos ha]
    unfold KeysOk
    rw [hm]
    exact h
  · rw [if_neg ha]
    rcases h with h | ⟨h, _⟩
    · right
      refine ⟨by rw [List.map_append, h]; rfl, fun z => ha ?_⟩
      obtain ⟨x, hx, he⟩ : ∃ x ∈ mk, x.1 = kcv k := by
        have : kcv k ∈ mk.map (·.1) := by rw [h]; simp
        obtain ⟨x, hx, e⟩ := List.mem_map.mp this
        exact ⟨x, hx, e⟩
      rw [List.any_eq_true]
      exact ⟨x, hx, by rw [he, z]; simp⟩
    · exact absurd (by
        obtain ⟨x, hx, he⟩ : ∃ x ∈ mk, x.1 = tkv k := by
          have : tkv k ∈ mk.map (·.1) := by rw [h]; simp
          obtain ⟨x, hx, e⟩ := List.mem_map.mp this
          exact ⟨x, hx, e⟩
        rw [List.any_eq_true]
        exact ⟨x, hx, by rw [he]; simp⟩) ha
def hs2 (b c : Nat) : Int := reduceHash (Builtin.Tuple.tupleHashOf [hashInt (b : Int), hashInt (c : Int)])
theorem hs2_nodup : ((List.range 20).map fun n => hs2 (n / 5) (n % 5)).Nodup := by decide +kernel
theorem hs2_ne {b c t o : Nat} (hb : b < 4) (hc : c < 5) (ht : t < 4) (ho : o < 5) (h : (b, c) ≠ (t, o)) : hs2 b c ≠ hs2 t o := fun e => by
  have h1 : ((List.range 20).map fun n => hs2 (n / 5) (n % 5))[b * 5 + c]? = some (hs2 b c) := by
    rw [List.getElem?_map, List.getElem?_range (by omega)]
    simp only [Option.map_some]
    rw [show (b * 5 + c) / 5 = b from by omega, show (b * 5 + c) % 5 = c from by omega]
  have h2 : ((List.range 20).map fun n => hs2 (n / 5) (n % 5))[t * 5 + o]? = some (hs2 t o) := by
    rw [List.getElem?_map, List.getElem?_range (by omega)]
    simp only [Option.map_some]
    rw [show (t * 5 + o) / 5 = t from by omega, show (t * 5 + o) % 5 = o from by omega]
  rw [← e] at h2
  have := nodup_at hs2_nodup h1 h2
  exact h (Prod.ext (by show b = t; omega) (by show c = o; omega))
theorem knob_rng {W : Pm.Wd} (ok : W.Ok) {k : Pm.Knob} (h : k.ok W) : k.b < 4 ∧ k.c < 5 ∧ k.tk.1 < 4 ∧ k.tk.2 < 5 := by
  have n4 := ok.n4
  cases k with
  | feed b c t o =>
    have := ok.s5 b h.1
    have := ok.s5 t h.2.2.1
    have := h.1; have := h.2.1; have := h.2.2.1; have := h.2.2.2.1
    exact ⟨by show b < 4; omega, by show c < 5; omega, by show t < 4; omega, by show o < 5; omega⟩
  | str b c => have := ok.s5 b h.1; have := h.1; have := h.2; exact ⟨by show b < 4; omega, by show c < 5; omega, by show b < 4; omega, by show c < 5; omega⟩
  | gain b c => have := ok.s5 b h.1; have := h.1; have := h.2; exact ⟨by show b < 4; omega, by show c < 5; omega, by show b < 4; omega, by show c < 5; omega⟩
  | wane b c => have := ok.s5 b h.1; have := h.1; have := h.2; exact ⟨by show b < 4; omega, by show c < 5; omega, by show b < 4; omega, by show c < 5; omega⟩
theorem keys_apart {w : World} {W : Pm.Wd} (ok : W.Ok) {k : Pm.Knob} (h : k.ok W) {mk : List (List Key × V)} (hk : KeysOk k mk) : L2.Apart w mk := by
  unfold L2.Apart
  have e : (mk.map fun p => reduceHash (Builtin.Tuple.tupleHashOf (p.1.map (keyH w)))) = (mk.map (·.1)).map fun p => reduceHash (Builtin.Tuple.tupleHashOf (p.map (keyH w))) := by rw [List.map_map]; rfl
  rw [e]
  obtain ⟨h1, h2, h3, h4⟩ := knob_rng ok h
  rcases hk with hk | ⟨hk, hne⟩
  · rw [hk]; simp
  · rw [hk]
    have := hs2_ne h1 h2 h3 h4 (fun z => hne (by unfold kcv tkv; rw [show k.b = k.tk.1 from congrArg Prod.fst z, show k.c = k.tk.2 from congrArg Prod.snd z]))
    refine List.nodup_cons.mpr ⟨?_, by simp⟩
    simp only [List.map_cons, List.map_nil, List.mem_singleton]
    exact this
def SlAt (H : Hp) (d : Addr) (k : Pm.Knob) (f : Nat → Nat → Int) : Prop := ∃ mk, H d = some (.dT mk) ∧ KeysOk k mk ∧ ∀ x o : Nat, (valV mk [Sum.inl (x : Int), Sum.inl (o : Int)]).getD (.int 0) = .int (f x o)
theorem SlAt.same {H H' : Hp} {d : Addr} {k : Pm.Knob} {f : Nat → Nat → Int} (s : Same H H') (h : SlAt H d k f) : SlAt H' d k f := let ⟨mk, a, b, c⟩ := h; ⟨mk, s _ _ a, b, c⟩
def spLSlopes (K : PySem.W.Frag) (cW cS : Addr) : Sp := fun vs H Q _ => ∃ (ta kk j d : Addr) (W : Pm.Wd) (k : Pm.Knob) (J : Nat → Nat) (f : Nat → Nat → Int), vs = [.ref ta, .ref kk, .ref j, .ref d] ∧ W.Ok ∧ k.ok W ∧ KnobAt H kk k ∧ JtAt H j W.nb J ∧ SlAt H d k f ∧ ∀ r H', Same H H' → SlAt H' r k (fun x o => f x o + if (x, o) = k.tk then k.by' (J k.b) else 0) → Q (.ref r) H'
section
variable {P : Program} {w : World} {K : PySem.W.Frag} {mg : Str → Option Value} {base : Heap} {cW cS dW : Addr} {xs : Exs}
abbrev sLSlopes : Stmt := top 64
theorem scLSlopes : FnScope ["_law_told_here", "_law_knob_here", "_law_joint_here", "_law_slopes_here", "_law_word", "_law_here", "_law_one_here", "_law_found", "_law_key", "_law_by"] ["_law_told_here", "_law_knob_here", "_law_joint_here", "_law_slopes_here"] (defScope sLSlopes) := ⟨rfl, rfl, rfl, by decide +kernel, rfl, by decide +kernel, by decide +kernel⟩
theorem ok_LSlopes {f : Addr} {fd : FuncData} (F : Fun K "_law_slopes" "_law_slopes" sLSlopes f fd) (T : NoG mg)  : FnOk P w K mg base CX0 1 f fd ["_law_told_here", "_law_knob_here", "_law_joint_here", "_law_slopes_here"] (spLSlopes K cW cS) := by
  refine F.ok scLSlopes (fun vs H Q E h => ?_) (fun cdv A outer s H vs Q E hr h => ?_)
  · repeat (first | (obtain ⟨rfl, _⟩ := h; rfl) | (obtain ⟨_, h⟩ := h))
  · obtain ⟨ta, kk, j, d, W, k, J, f', rfl, ok, hok, hk, hj, ⟨mk, hd, hks, hf⟩, kont⟩ := h
    refine ⟨_, (pss_cons (ps_asg (pe_slice sl_tupA (pv 1) po_none (po_some pe_int)) (pg_tup (n := 3) rfl (pgs_cons (pg_name (i := 4) scLSlopes.nd rfl (Or.inl rfl)) (pgs_cons (pg_name (i := 5) scLSlopes.nd rfl (Or.inl rfl)) (pgs_cons (pg_name (i := 6) scLSlopes.nd rfl (Or.inl rfl)) pgs_nil)))))
      (pss_cons (ps_set (i := 7) scLSlopes.nd rfl (Or.inl rfl) (pe_callTy (call_dictT (hu16 hr)) (by rfl) T.dict (by decide +kernel) (pa_cons (pv 3) pa_nil)))
      (pss_cons (ps_set (i := 8) scLSlopes.nd rfl (Or.inl rfl) (pe_tup (pa_cons (pv 5) (pa_cons (pv 6) pa_nil))))
      (pss_cons (ps_if (pt_cmpR op_eq (pv 4) pe_str (nomark _)) (pss_one (ps_set (i := 8) scLSlopes.nd rfl (Or.inl rfl) (pe_slice sl_tupA (pv 1) (po_some pe_int) po_none))) pss_nil)
      (pss_cons (ps_set (i := 9) scLSlopes.nd rfl (Or.inl rfl) (pe_callTy call_int1 (by rfl) T.int (by decide +kernel) (pa_cons (pe_cmpR op_eq (pe_ix ix_tup (pv 2) (pv 5) (fun _ _ => rfl)) (pv 6) (nomark _)) pa_nil)))
      (pss_cons (ps_if (pt_cmpR op_eq (pv 4) pe_str (nomark _)) (pss_one (ps_set (i := 9) scLSlopes.nd rfl (Or.inl rfl) pe_int)) pss_nil)
      (pss_cons (ps_if (pt_cmpR op_eq (pv 4) pe_str (nomark _)) (pss_one (ps_set (i := 9) scLSlopes.nd rfl (Or.inl rfl) (pe_op op_sub (pv 9) pe_int))) pss_nil)
      (pss_cons (ps_dput (hu_of hr) (pv 7) (pv 8) (pe_op op_add (pe_dget2 (hu_of hr) (pv 7) (pv 8) pe_int ⟨rfl, rfl, rfl, rfl⟩) (pv 9)) rfl)
      (pss_one (ps_ret (pv 7))))))))))), ?_⟩
    obtain ⟨wd, kb, kc, hw, hwd⟩ := knob_words k
    refine ⟨_, rfl, _, rfl, cut_ok hk fun r1 H1 s1 h1 => ?_⟩
    have h1' : H1 r1 = some (.tup [.str wd, .int (kb : Nat), .int (kc : Nat)]) := by rw [h1, ← hw]; exact congrArg (fun l => some (HO.tup l)) (cut_to (knobV k) 3)
    refine ⟨r1, _, rfl, SqT.of h1', rfl, _, _, rfl, _, _, rfl, _, _, rfl, rfl, _, rfl, d, mk, rfl, s1 _ _ hd, keys_apart ok hok hks, fun p hp => ?_⟩
    have s2 : Same H1 (upd H1 p (.dT mk)) := sameUpd hp
    refine ⟨_, rfl, _, rfl, big1000 (by simp), fun t1 ht1 => ?_⟩
    have s3 := sameUpd (o := .tup [.int (kb : Nat), .int (kc : Nat)]) ht1
    have s13 := Same.tr s1 (Same.tr s2 s3)
    have hp3 : (upd (upd H1 p (.dT mk)) t1 (.tup [.int (kb : Nat), .int (kc : Nat)])) p = some (.dT mk) := s3 _ _ upd_same
    have hpH : H p = none := none_same s1 hp
    have ht3 : (upd (upd H1 p (.dT mk)) t1 (.tup [.int (kb : Nat), .int (kc : Nat)])) t1 = some (.tup [.int (kb : Nat), .int (kc : Nat)]) := upd_same
    generalize (upd (upd H1 p (.dT mk)) t1 (.tup [.int (kb : Nat), .int (kc : Nat)])) = H3 at s13 hp3 ht3
    -- the end, whatever the key and the number
    have fin : ∀ H4 t4 by4, Same H3 H4 → H4 t4 = some (.tup ((tkv k).map kV)) → by4 = k.by' (J k.b) → ∀ H5, H5 = upd H4 p (.dT (putK mk (tkv k) (.int (f' k.tk.1 k.tk.2 + by4)))) → Q (.ref p) H5 := fun H4 t4 by4 s4 h4 hby H5 e5 => by
      subst e5
      refine kont p _ (sameW (Same.tr s13 s4) hpH) ⟨_, upd_same, keys_put _ hks, fun x o => ?_⟩
      rw [valV_put]
      by_cases hxo : (x, o) = k.tk
      · have e1 : ([Sum.inl (x : Int), Sum.inl (o : Int)] : List Key) = tkv k := by unfold tkv; rw [← hxo]
        dsimp only
        rw [if_pos e1, if_pos hxo, ← hxo, hby]; rfl
      · have e1 : ¬ ([Sum.inl (x : Int), Sum.inl (o : Int)] : List Key) = tkv k := fun z => hxo (by unfold tkv at z; simp at z; exact Prod.ext (by show x = _; omega) (by show o = _; omega))
        dsimp only
        rw [if_neg e1, if_neg hxo, Int.add_zero]; exact hf x o
    have hj3 := s13 _ _ hj
    have hk3 := s13 _ _ hk
    have hlen : mk.length < sizeLine := by
      have : mk.length = (mk.map (·.1)).length := by simp
      rcases hks with h | ⟨h, _⟩ <;> (rw [h] at this; refine small1000 ?_; simp at this; omega)
    have jb : ∀ b c : Nat, (if decide (V.int ((J b : Nat) : Int) = V.int (c : Nat)) = true then (1 : Int) else 0) = if J b = c then 1 else 0 := fun b c => by
      by_cases h : J b = c
      · rw [decide_eq_true (by rw [h]), if_pos rfl, if_pos h]
      · rw [decide_eq_false (fun z => h (by have := V.int.inj z; omega)), if_neg h]; rfl
    cases k with
    | str b c =>
      obtain ⟨rfl, rfl, rfl⟩ := (hwd : wd = "strength" ∧ b = kb ∧ c = kc)
      refine ⟨_, rfl, rfl, _, rfl, ?_⟩
      rw [strF (by decide)]
      refine iteF ⟨_, rfl, _, rfl, _, _, _, _, rfl, rfl, SqT.of hj3, atI_nat (nums_at hok.1), _, rfl, rfl, .inr ⟨_, rfl, _, rfl, rfl, _, rfl, ?_⟩⟩
      rw [strT]
      refine iteT ⟨_, rfl, rfl, _, rfl, ?_⟩
      rw [strF (by decide)]
      exact iteF ⟨_, rfl, p, rfl, .inr ⟨_, .inl hp3⟩, _, rfl, _, dget_t (k := tkv (Pm.Knob.str b c)) hp3 ht3 rfl, _, rfl, _, _, hf _ _, rfl, _, rfl, _, rfl, p, _, rfl, DPut.t (k := tkv (Pm.Knob.str b c)) hp3 ht3 hlen, _, rfl, fin _ _ _ Same.rf ht3 rfl _ rfl⟩
    | gain b c =>
      obtain ⟨rfl, rfl, rfl⟩ := (hwd : wd = "gain" ∧ b = kb ∧ c = kc)
      refine ⟨_, rfl, rfl, _, rfl, ?_⟩
      rw [strF (by decide)]
      refine iteF ⟨_, rfl, _, rfl, _, _, _, _, rfl, rfl, SqT.of hj3, atI_nat (nums_at hok.1), _, rfl, rfl, .inr ⟨_, rfl, _, rfl, rfl, _, rfl, ?_⟩⟩
      rw [strF (by decide)]
      refine iteF ⟨_, rfl, rfl, _, rfl, ?_⟩
      rw [strF (by decide)]
      exact iteF ⟨_, rfl, p, rfl, .inr ⟨_, .inl hp3⟩, _, rfl, _, dget_t (k := tkv (Pm.Knob.gain b c)) hp3 ht3 rfl, _, rfl, _, _, hf _ _, rfl, _, rfl, _, rfl, p, _, rfl, DPut.t (k := tkv (Pm.Knob.gain b c)) hp3 ht3 hlen, _, rfl, fin _ _ _ Same.rf ht3 (jb b c) _ rfl⟩
    | wane b c =>
      obtain ⟨rfl, rfl, rfl⟩ := (hwd : wd = "wane" ∧ b = kb ∧ c = kc)
      refine ⟨_, rfl, rfl, _, rfl, ?_⟩
      rw [strF (by decide)]
      refine iteF ⟨_, rfl, _, rfl, _, _, _, _, rfl, rfl, SqT.of hj3, atI_nat (nums_at hok.1), _, rfl, rfl, .inr ⟨_, rfl, _, rfl, rfl, _, rfl, ?_⟩⟩
      rw [strF (by decide)]
      refine iteF ⟨_, rfl, rfl, _, rfl, ?_⟩
      rw [strT]
      exact iteT ⟨_, rfl, _, _, rfl, rfl, _, rfl, p, rfl, .inr ⟨_, .inl hp3⟩, _, rfl, _, dget_t (k := tkv (Pm.Knob.wane b c)) hp3 ht3 rfl, _, rfl, _, _, hf _ _, rfl, _, rfl, _, rfl, p, _, rfl, DPut.t (k := tkv (Pm.Knob.wane b c)) hp3 ht3 hlen, _, rfl, fin _ _ _ Same.rf ht3 (congrArg (· - 1) (jb b c)) _ rfl⟩
    | feed b c t o =>
      obtain ⟨rfl, rfl, rfl⟩ := (hwd : wd = "feed" ∧ b = kb ∧ c = kc)
      refine ⟨_, rfl, rfl, _, rfl, ?_⟩
      rw [strT]
      refine iteT ⟨_, rfl, _, rfl, cut_oN hk3 ?_⟩
      intro r4 H4 s4 h4
      have h4' : H4 r4 = some (.tup ((tkv (Pm.Knob.feed b c t o)).map kV)) := by rw [h4]; rfl
      have hp4 := s4 _ _ hp3
      refine ⟨_, rfl, _, rfl, _, _, _, _, rfl, rfl, SqT.of (s4 _ _ hj3), atI_nat (nums_at hok.1), _, rfl, rfl, .inr ⟨_, rfl, _, rfl, rfl, _, rfl, ?_⟩⟩
      rw [strF (by decide)]
      refine iteF ⟨_, rfl, rfl, _, rfl, ?_⟩
      rw [strF (by decide)]
      exact iteF ⟨_, rfl, p, rfl, .inr ⟨_, .inl hp4⟩, _, rfl, _, dget_t (k := tkv (Pm.Knob.feed b c t o)) hp4 h4' rfl, _, rfl, _, _, hf _ _, rfl, _, rfl, _, rfl, p, _, rfl, DPut.t (k := tkv (Pm.Knob.feed b c t o)) hp4 h4' hlen, _, rfl, fin _ _ _ s4 h4' (jb b c) _ rfl⟩
end
end WB


namespace WB
open PySem L2
def spLPiece (K : PySem.W.Frag) (cW cS : Addr) : Sp := fun vs H Q _ => ∃ (ta a kk bd : Addr) (W : Pm.Wd) (st0 : Pm.Stand) (k : Pm.Knob) (v : Int) (T : Nat) (lo hi : Int), vs = [.ref ta, .ref a, .ref kk, .int v, .ref bd, .int (T : Nat)] ∧ W.Ok ∧ k.ok W ∧ (Pm.isStr k = true ∨ Pm.Amt v) ∧ T ≤ 100 ∧ ToldAt H ta W ∧ StAt H a W.nb W.sz st0 ∧ KnobAt H kk k ∧ H bd = some (.tup [.int lo, .int hi]) ∧
  ∀ r H' rw, Same H H' → H' r = some (.tup [.int ((Pm.sys W st0 k).start v T lo), .int ((Pm.sys W st0 k).last v T hi), .ref rw]) → RowAt H' rw (Pm.sys W st0 k) v T → Q (.ref r) H'
theorem lo_pos {v e : Int} {c : Int × Int} (h : 0 < c.2) : Pm.loStep v e c = max e (v - c.1 / c.2) := by unfold Pm.loStep; rw [if_pos h]
theorem lo_not {v e : Int} {c : Int × Int} (h : ¬ 0 < c.2) : Pm.loStep v e c = e := by unfold Pm.loStep; rw [if_neg h]
theorem hi_neg {v e : Int} {c : Int × Int} (h : c.2 < 0) : Pm.hiStep v e c = min e (v + c.1 / (-c.2)) := by unfold Pm.hiStep; rw [if_pos h]
theorem hi_not {v e : Int} {c : Int × Int} (h : ¬ c.2 < 0) : Pm.hiStep v e c = e := by unfold Pm.hiStep; rw [if_neg h]
theorem idxOf_cast (l : List Nat) (c : Nat) : (l.map fun x => ((x : Nat) : Int)).idxOf (c : Int) = Pm.rk l c := by
  induction l with
  | nil => rfl
  | cons x r ih =>
    rw [List.map_cons, List.idxOf_cons, ih, Pm.rk]
    by_cases h : x = c
    · simp [h]
    · have : (((x : Nat) : Int) == (c : Int)) = false := by simp; omega
      rw [this, if_neg h]; rfl
section
variable {P : Program} {w : World} {K : PySem.W.Frag} {mg : Str → Option Value} {base : Heap} {cW cS dW : Addr} {xs : Exs}
abbrev sLPiece : Stmt := top 65
theorem scLPiece : FnScope ["_law_told_here", "_law_stand_here", "_law_knob_here", "_law_number", "_law_bounds", "_law_beats", "_law_there", "_law_here", "_law_moves_here", "_law_slopes_here", "_law_start", "_law_end", "_law_row", "_law_beat", "_law_joint_here", "_law_shelf", "_law_pick", "_law_order_here", "_law_other", "_law_lead", "_law_slope"] ["_law_told_here", "_law_stand_here", "_law_knob_here", "_law_number", "_law_bounds", "_law_beats"] (defScope sLPiece) := ⟨rfl, rfl, rfl, by decide +kernel, rfl, by decide +kernel, by decide +kernel⟩
theorem ok_LPiece {f : Addr} {fd : FuncData} (F : Fun K "_law_piece" "_law_piece" sLPiece f fd) (T : NoG mg) (c__law_turned : Cal P w K mg base CX0 2 "_law_turned" ["_law_told_here", "_law_stand_here", "_law_knob_here", "_law_number"] (spLTurned K cW cS)) (c__law_moves : Cal P w K mg base CX0 1 "_law_moves" ["_law_told_here"] (spLMoves K cW cS)) (c__law_joint : Cal P w K mg base CX0 1 "_law_joint" ["_law_told_here", "_law_stand_here"] (spLJoint K cW cS)) (c__law_slopes : Cal P w K mg base CX0 1 "_law_slopes" ["_law_told_here", "_law_knob_here", "_law_joint_here", "_law_slopes_here"] (spLSlopes K cW cS)) (c__law_behind : Cal P w K mg base CX0 1 "_law_behind" ["_law_moves_here", "_law_stand_here", "_law_joint_here"] (spLBehind K cW cS)) : FnOk P w K mg base CX0 3 f fd ["_law_told_here", "_law_stand_here", "_law_knob_here", "_law_number", "_law_bounds", "_law_beats"] (spLPiece K cW cS) := by
  refine F.ok scLPiece (fun vs H Q E h => ?_) (fun cdv A outer s H vs Q E hr h => ?_)
  · repeat (first | (obtain ⟨rfl, _⟩ := h; rfl) | (obtain ⟨_, h⟩ := h))
  · obtain ⟨ta, a, kk, bd, W, st0, k, v, T', lo, hi, rfl, ok, hok, hv, hT, htd, hst, hk, hbd, kont⟩ := h
    refine ⟨_, (pss_cons (ps_asg (pe_cal c__law_turned (hr.mono (by decide)) pass0 (pa_cons (pv 0) (pa_cons (pv 1) (pa_cons (pv 2) (pa_cons (pv 3) pa_nil))))) (pg_tup (n := 2) rfl (pgs_cons (pg_name (i := 6) scLPiece.nd rfl (Or.inl rfl)) (pgs_cons (pg_name (i := 7) scLPiece.nd rfl (Or.inl rfl)) pgs_nil))))
      (pss_cons (ps_set (i := 8) scLPiece.nd rfl (Or.inl rfl) (pe_cal c__law_moves (hr.mono (by decide)) pass0 (pa_cons (pv 6) pa_nil)))
      (pss_cons (ps_set (i := 9) scLPiece.nd rfl (Or.inl rfl) (pe_disp1T (hu_of hr) (pe_slice sl_tupA (pv 2) (po_some pe_int) (po_some pe_int)) (pe_callTy call_int1 (by rfl) T.int (by decide +kernel) (pa_cons (pe_cmpR op_eq (pe_ix ix_tup (pv 2) pe_int (fun _ _ => rfl)) pe_str (nomark _)) pa_nil))))
      (pss_cons (ps_asg (pv 4) (pg_tup (n := 2) rfl (pgs_cons (pg_name (i := 10) scLPiece.nd rfl (Or.inl rfl)) (pgs_cons (pg_name (i := 11) scLPiece.nd rfl (Or.inl rfl)) pgs_nil))))
      (pss_cons (ps_set (i := 12) scLPiece.nd rfl (Or.inl rfl) (pe_lst pa_nil))
      (pss_cons (ps_for PassesOwn.never rfl (pi_range1 (by rfl) T.range (pa_cons (pv 5) pa_nil)) (pg_name (i := 13) scLPiece.nd rfl (Or.inl rfl))
        (pss_cons (ps_set (i := 14) scLPiece.nd rfl (Or.inl rfl) (pe_cal c__law_joint (hr.mono (by decide)) pass0 (pa_cons (pv 6) (pa_cons (pv 7) pa_nil))))
          (pss_cons (ps_for PassesOwn.never rfl (pi_enumM (by rfl) T.enumerate (pa_cons (pv 14) pa_nil)) (pg_tup (n := 2) rfl (pgs_cons (pg_name (i := 15) scLPiece.nd rfl (Or.inl rfl)) (pgs_cons (pg_name (i := 16) scLPiece.nd rfl (Or.inl rfl)) pgs_nil)))
            (pss_cons (ps_set (i := 17) scLPiece.nd rfl (Or.inl rfl) (pe_ix ix_tup (pe_ix ix_list (pe_ix ix_tup (pv 0) pe_int (fun _ _ => rfl)) (pv 15) (fun _ _ => rfl)) pe_int (fun _ _ => rfl)))
              (pss_one (ps_for PassesOwn.never rfl (pi_range1 (by rfl) T.range (pa_cons (pe_callB call_len (by rfl) T.len PySem.boot_len (pa_cons (pv 17) pa_nil)) pa_nil)) (pg_name (i := 18) scLPiece.nd rfl (Or.inl rfl))
                (pss_cons (ps_set (i := 19) scLPiece.nd rfl (Or.inl rfl) (pe_op op_sub (pe_ix ix_tup (pe_ix ix_tup (pv 7) (pv 15) (fun _ _ => rfl)) (pv 16) (fun _ _ => rfl)) (pe_ix ix_tup (pe_ix ix_tup (pv 7) (pv 15) (fun _ _ => rfl)) (pv 18) (fun _ _ => rfl))))
                  (pss_cons (ps_set (i := 19) scLPiece.nd rfl (Or.inl rfl) (pe_op op_sub (pv 19) (pe_callTy call_int1 (by rfl) T.int (by decide +kernel) (pa_cons (pe_cmpR op_lt (pe_bmZ PySem.F.slot_tuple_index PySem.F.type_tuple_index mt_idxI (pv 17) (pa_cons (pv 18) pa_nil)) (pe_bmZ PySem.F.slot_tuple_index PySem.F.type_tuple_index mt_idxI (pv 17) (pa_cons (pv 16) pa_nil)) (nomark _)) pa_nil))))
                  (pss_cons (ps_set (i := 20) scLPiece.nd rfl (Or.inl rfl) (pe_op op_sub (pe_dget2 (hu_of hr) (pv 9) (pe_tup (pa_cons (pv 15) (pa_cons (pv 16) pa_nil))) pe_int ⟨rfl, rfl, rfl, rfl⟩) (pe_dget2 (hu_of hr) (pv 9) (pe_tup (pa_cons (pv 15) (pa_cons (pv 18) pa_nil))) pe_int ⟨rfl, rfl, rfl, rfl⟩)))
                  (pss_cons (ps_if (pt_cmpR op_gt (pv 20) pe_int (nomark _)) (pss_one (ps_set (i := 10) scLPiece.nd rfl (Or.inl rfl) (pe_callB (call_max2 rfl) (by rfl) T.max (by decide +kernel) (pa_cons (pv 10) (pa_cons (pe_op op_sub (pv 3) (pe_op op_fdiv (pv 19) (pv 20))) pa_nil))))) pss_nil)
                  (pss_one (ps_if (pt_cmpR op_lt (pv 20) pe_int (nomark _)) (pss_one (ps_set (i := 11) scLPiece.nd rfl (Or.inl rfl) (pe_callB (call_min2 rfl) (by rfl) T.min (by decide +kernel) (pa_cons (pv 11) (pa_cons (pe_op op_add (pv 3) (pe_op op_fdiv (pv 19) (pe_op op_sub pe_int (pv 20)))) pa_nil))))) pss_nil))))))))))
          (pss_cons (ps_expr (pe_bm PySem.F.plainAttrs_list PySem.F.slot_list_append PySem.F.type_list_append mt_append (pv 12) (pa_cons (pv 14) pa_nil)))
          (pss_cons (ps_set (i := 9) scLPiece.nd rfl (Or.inl rfl) (pe_cal c__law_slopes (hr.mono (by decide)) pass0 (pa_cons (pv 0) (pa_cons (pv 2) (pa_cons (pv 14) (pa_cons (pv 9) pa_nil))))))
          (pss_one (ps_set (i := 7) scLPiece.nd rfl (Or.inl rfl) (pe_cal c__law_behind (hr.mono (by decide)) pass0 (pa_cons (pv 8) (pa_cons (pv 7) (pa_cons (pv 14) pa_nil)))))))))))
      (pss_one (ps_ret (pe_tup (pa_cons (pv 10) (pa_cons (pv 11) (pa_cons (pv 12) pa_nil)))))))))))), ?_⟩
    have n4 := ok.n4
    have ok' := turn_ok ok hok hv
    have yok := Pm.sys_ok ok (s := st0) hok
    obtain ⟨krb, krc, krt, kro⟩ := knob_rng ok hok
    refine ⟨_, rfl, _, rfl, _, rfl, _, rfl, ta, a, kk, W, st0, k, v, rfl, ok, htd, hst, hk, hok, fun r H1 ta' a' s1 h1 td1 st1 => ?_⟩
    refine ⟨r, _, rfl, SqT.of h1, rfl, _, _, rfl, _, _, rfl, rfl, ?_⟩
    refine ⟨_, rfl, ta', W.turn k v, rfl, ok', td1, fun dm H2 s2 hm => ?_⟩
    intro p hp
    have s3 : Same H2 (upd H2 p (.dT [])) := sameUpd hp
    have s12 := Same.tr s1 s2
    refine ⟨_, rfl, _, rfl, _, rfl, cut_ok (s3 _ _ (s12 _ _ hk)) ?_⟩
    intro r4 H4 s4 h4
    have h4' : H4 r4 = some (.tup ((kcv k).map kV)) := by
      rw [h4]
      refine congrArg (fun l => some (HO.tup l)) ?_
      cases k <;> rfl
    have hp4 : H4 p = some (.dT []) := s4 _ _ upd_same
    have hk4 := s4 _ _ (s3 _ _ (s12 _ _ hk))
    obtain ⟨wd, hw0, hwd⟩ := is_str_word k
    refine ⟨_, rfl, _, _, _, _, rfl, rfl, SqT.of hk4, atI_nat hw0, rfl, .inr ⟨_, rfl, r4, kcv k, rfl, h4', hp4, ?_⟩⟩
    have hwd2 : decide (V.str wd = V.str "strength") = Pm.isStr k := by
      cases h1 : decide (V.str wd = V.str "strength") <;> cases h2 : Pm.isStr k <;> rw [h1, h2] at hwd <;> first | rfl | cases hwd
    rw [hwd2]
    have hpn : H p = none := none_same s12 hp
    have s5 : Same H (upd H4 p (.dT [(kcv k, .int (if Pm.isStr k = true then 1 else 0))])) := sameW (Same.tr s12 (Same.tr s3 s4)) hpn
    have s25 : Same H2 (upd H4 p (.dT [(kcv k, .int (if Pm.isStr k = true then 1 else 0))])) := sameW (Same.tr s3 s4) hp
    have sl5 : SlAt (upd H4 p (.dT [(kcv k, .int (if Pm.isStr k = true then 1 else 0))])) p k ((Pm.sys W st0 k).sl v 0) := by
      refine ⟨_, upd_same, .inl rfl, fun x o => ?_⟩
      show (valV [(kcv k, V.int (if Pm.isStr k = true then 1 else 0))] _).getD (.int 0) = V.int (if Pm.isStr k = true ∧ (x, o) = k.tk then 1 else 0)
      by_cases hxo : x = k.b ∧ o = k.c
      · obtain ⟨rfl, rfl⟩ := hxo
        have : valV [(kcv k, V.int (if Pm.isStr k = true then 1 else 0))] [Sum.inl ((k.b : Nat) : Int), Sum.inl ((k.c : Nat) : Int)] = some (V.int (if Pm.isStr k = true then 1 else 0)) := by
          simp [valV, kcv]
        rw [this]
        cases k <;> simp [Pm.isStr, Pm.Knob.tk, Pm.Knob.b, Pm.Knob.c]
      · have : valV [(kcv k, V.int (if Pm.isStr k = true then 1 else 0))] [Sum.inl (x : Int), Sum.inl (o : Int)] = none := by
          simp only [valV, kcv, List.find?_cons, List.find?_nil]
          rw [decide_eq_false (fun z => hxo (by simp at z; omega))]; rfl
        rw [this]
        cases k with
        | str b c => rw [if_neg (fun z => hxo (by have := z.2; simp only [Pm.Knob.tk, Prod.mk.injEq] at this; exact this))]; rfl
        | _ => rw [if_neg (fun z => by have := z.1; simp [Pm.isStr] at this)]; rfl
    generalize (upd H4 p (.dT [(kcv k, .int (if Pm.isStr k = true then 1 else 0))])) = H5 at s5 s25 sl5
    refine ⟨_, rfl, bd, _, rfl, SqT.of (s5 _ _ hbd), rfl, _, _, rfl, _, _, rfl, rfl, ?_⟩
    refine ⟨big1000 (by simp), fun D hD => ?_⟩
    have s6 : Same H5 (upd H5 D (.lst [])) := sameUpd hD
    have td5 := htd.same s5
    have tdt5 := td1.same (Same.tr s2 s25)
    have mv5 := hm.same s25
    have st5 := st1.same (Same.tr s2 s25)
    have hk5 := s5 _ _ hk
    obtain ⟨la, lb, ps, qs, fs, hta, td⟩ := td5
    refine ⟨_, rfl, _, rfl, by omega, by omega, for_it (wrn (n := T')) (fun t σ H' => Same H5 H' ∧ RowAt H' D (Pm.sys W st0 k) v t ∧ ∃ at_ sl x13 x14 x15 x16 x17 x18 x19 x20, StAt H' at_ W.nb W.sz ((Pm.sys W st0 k).st v t) ∧ SlAt H' sl k ((Pm.sys W st0 k).sl v t) ∧ σ = [some (.ref ta), some (.ref a), some (.ref kk), some (.int v), some (.ref bd), some (.int (T' : Nat)), some (.ref ta'), some (.ref at_), some (.ref dm), some (.ref sl), some (.int (((Pm.sys W st0 k).con v t).foldl (Pm.loStep v) lo)), some (.int (((Pm.sys W st0 k).con v t).foldl (Pm.hiStep v) hi)), some (.ref D), x13, x14, x15, x16, x17, x18, x19, x20]) ?_ (fun _ _ _ _ _ => trivial) ?_ ?_⟩
    · exact ⟨s6, ⟨[], upd_same, rfl, by simp⟩, a', p, _, _, _, _, _, _, _, _, st5.same s6, sl5.same s6, rfl⟩
    · rintro t x σ _ H6 ht ⟨s6, ⟨js, hD6, hjl, hj⟩, at_, sl, x13, x14, x15, x16, x17, x18, x19, x20, st6, sl6, rfl⟩ ⟨rfl, rfl⟩
      generalize hlot : (((Pm.sys W st0 k).con v t).foldl (Pm.loStep v) lo) = lot
      generalize hhit : (((Pm.sys W st0 k).con v t).foldl (Pm.hiStep v) hi) = hit
      refine ⟨_, rfl, _, rfl, ta', at_, W.turn k v, (Pm.sys W st0 k).st v t, rfl, ok', tdt5.same s6, by rw [turn_nb, turn_sz]; exact st6, fun j H7 s7 hj7 => ?_⟩
      rw [turn_nb, turn_ord] at hj7
      have hj7 : JtAt H7 j W.nb ((Pm.sys W st0 k).J ((Pm.sys W st0 k).st v t)) := hj7
      have s57 := Same.tr s6 s7
      obtain ⟨ss, ha7, hsl7, hss7⟩ := st6.same s7
      have sl7 := sl6.same s7
      obtain ⟨mk, d7, ks7, m7⟩ := id sl7
      have hJ : ∀ b, b < W.nb → (Pm.sys W st0 k).J ((Pm.sys W st0 k).st v t) b < W.sz b := fun b hb => yok.J_lt hb _
      refine ⟨_, rfl, true, j, _, rfl, SqT.of hj7, for_it (walk_enumM (xs := nums W.nb fun b => (((Pm.sys W st0 k).J ((Pm.sys W st0 k).st v t) b : Nat) : Int))) (fun i σ H' => Same H7 H' ∧ ∃ x15 x16 x17 x18 x19 x20, σ = [some (.ref ta), some (.ref a), some (.ref kk), some (.int v), some (.ref bd), some (.int (T' : Nat)), some (.ref ta'), some (.ref at_), some (.ref dm), some (.ref sl), some (.int (((List.range i).flatMap ((Pm.sys W st0 k).conB v t)).foldl (Pm.loStep v) lot)), some (.int (((List.range i).flatMap ((Pm.sys W st0 k).conB v t)).foldl (Pm.hiStep v) hit)), some (.ref D), some (.int (t : Nat)), some (.ref j), x15, x16, x17, x18, x19, x20]) ?_ ?_ ?_ ?_⟩
      · exact ⟨Same.rf, _, _, _, _, _, _, rfl⟩
      · rintro i σ H' _ ⟨s', _⟩; exact SqT.of (s' _ _ hj7)
      · rintro i x σ H8 H9 hin ⟨s8, x15, x16, x17, x18, x19, x20, rfl⟩ ⟨T2, y1, y2, rfl, hT2, rfl, e1, e2⟩
        cases e1
        obtain ⟨hib, rfl⟩ := nums_get e2
        have s9 : Same H8 (upd H8 T2 (.tup [.int (i : Nat), .int ((Pm.sys W st0 k).J ((Pm.sys W st0 k).st v t) i : Nat)])) := sameUpd hT2
        have s79 := Same.tr s8 s9
        have s59 := Same.tr s57 s79
        refine ⟨T2, _, rfl, SqT.of upd_same, rfl, _, _, rfl, _, _, rfl, rfl, ?_⟩
        have hbp : ps[i]? = some (ps[i]'(by rw [td.bk.1]; exact hib)) := List.getElem?_eq_getElem _
        generalize ps[i]'(by rw [td.bk.1]; exact hib) = q at hbp
        obtain ⟨o, g, ww, b1, b2, b3, b4⟩ := (td.bk.2 i q hbp).same s59
        refine ⟨_, rfl, _, _, _, _, rfl, rfl, SqT.of (s59 _ _ hta), rfl, _, rfl, _, _, _, _, rfl, rfl, SqL.of (s59 _ _ td.a), atI_nat (refs_at hbp), _, _, _, _, rfl, rfl, SqT.of b1, rfl, ?_⟩
        have e : ss[i]? = some (ss[i]'(by rw [hsl7]; exact hib)) := List.getElem?_eq_getElem _
        generalize ss[i]'(by rw [hsl7]; exact hib) = sr at e
        have hln := ok.ln i hib
        have h5 := ok.s5 i hib
        refine ⟨_, rfl, _, W.sz i, rfl, .inr ⟨_, b2.sq, by rw [ordV_len, hln]⟩, _, rfl, by omega, by omega, ?_⟩
        generalize hlob : (((List.range i).flatMap ((Pm.sys W st0 k).conB v t)).foldl (Pm.loStep v) lot) = lob
        generalize hhib : (((List.range i).flatMap ((Pm.sys W st0 k).conB v t)).foldl (Pm.hiStep v) hit) = hib'
        refine for_it (wrn (n := W.sz i)) (fun oo σ H' => Same (upd H8 T2 (.tup [.int (i : Nat), .int ((Pm.sys W st0 k).J ((Pm.sys W st0 k).st v t) i : Nat)])) H' ∧ ∃ x18 x19 x20, σ = [some (.ref ta), some (.ref a), some (.ref kk), some (.int v), some (.ref bd), some (.int (T' : Nat)), some (.ref ta'), some (.ref at_), some (.ref dm), some (.ref sl), some (.int (((List.range oo).map ((Pm.sys W st0 k).conO v t i)).foldl (Pm.loStep v) lob)), some (.int (((List.range oo).map ((Pm.sys W st0 k).conO v t i)).foldl (Pm.hiStep v) hib')), some (.ref D), some (.int (t : Nat)), some (.ref j), some (.int (i : Nat)), some (.int ((Pm.sys W st0 k).J ((Pm.sys W st0 k).st v t) i : Nat)), some (.ref o), x18, x19, x20]) ?_ (fun _ _ _ _ _ => trivial) ?_ ?_
        · exact ⟨Same.rf, _, _, _, rfl⟩
        · rintro oo x σ _ H10 hoo ⟨s10, x18, x19, x20, rfl⟩ ⟨rfl, rfl⟩
          have s710 := Same.tr s79 s10
          have ha := s710 _ _ ha7
          have hrow := s710 _ _ (hss7 i sr e)
          have hJi := hJ i hib
          refine ⟨_, rfl, _, rfl, _, _, _, _, rfl, rfl, SqT.of ha, atI_nat (refs_at e), _, rfl, _, _, _, _, rfl, rfl, SqT.of hrow, atI_nat (nums_at hJi), _, rfl, _, rfl, _, _, _, _, rfl, rfl, SqT.of ha, atI_nat (refs_at e), _, rfl, _, _, _, _, rfl, rfl, SqT.of hrow, atI_nat (nums_at hoo), _, _, rfl, rfl, ?_⟩
          have o10 := b2.same s10
          have osq : SqT K H10 o (((W.ord i).map fun c => ((c : Nat) : Int)).map V.int) := by have := o10.sq (K := K); rw [ordV_map] at this; exact this
          have mm : ∀ c : Nat, c < W.sz i → (c : Int) ∈ (W.ord i).map fun c => ((c : Nat) : Int) := fun c hc => List.mem_map.mpr ⟨c, (ok.mem i hib c).mpr hc, rfl⟩
          refine ⟨_, rfl, _, rfl, ⟨o, _, rfl, o10⟩, _, rfl, o, _, (oo : Int), rfl, rfl, osq, mm oo hoo, _, rfl, ⟨o, _, rfl, o10⟩, _, rfl, o, _, ((Pm.sys W st0 k).J ((Pm.sys W st0 k).st v t) i : Int), rfl, rfl, osq, mm _ hJi, _, _, rfl, rfl, .inr ⟨_, rfl, _, _, rfl, rfl, ?_⟩⟩
          have d10 := s710 _ _ d7
          refine ⟨_, rfl, sl, rfl, .inr ⟨_, .inl d10⟩, _, rfl, _, rfl, big1000 (by simp), fun q1 hq1 => ?_⟩
          have s11 := sameUpd (o := .tup [.int (i : Nat), .int ((Pm.sys W st0 k).J ((Pm.sys W st0 k).st v t) i : Nat)]) hq1
          refine ⟨_, dget_t (k := [Sum.inl (i : Int), Sum.inl ((Pm.sys W st0 k).J ((Pm.sys W st0 k).st v t) i : Int)]) (s11 _ _ d10) upd_same rfl, ?_⟩
          refine ⟨_, rfl, sl, rfl, .inr ⟨_, .inl (s11 _ _ d10)⟩, _, rfl, _, rfl, big1000 (by simp), fun q2 hq2 => ?_⟩
          have s12' := sameUpd (o := .tup [.int (i : Nat), .int (oo : Nat)]) hq2
          refine ⟨_, dget_t (k := [Sum.inl (i : Int), Sum.inl (oo : Int)]) (s12' _ _ (s11 _ _ d10)) upd_same rfl, ?_⟩
          refine ⟨_, _, m7 _ _, m7 _ _, ?_⟩
          have hc1 : ((Pm.sys W st0 k).st v t i ((Pm.sys W st0 k).J ((Pm.sys W st0 k).st v t) i) - (Pm.sys W st0 k).st v t i oo - (if decide ((((W.ord i).map fun c => ((c : Nat) : Int)).idxOf (oo : Int) : Int) < (((W.ord i).map fun c => ((c : Nat) : Int)).idxOf ((Pm.sys W st0 k).J ((Pm.sys W st0 k).st v t) i : Int) : Int)) = true then 1 else 0)) = ((Pm.sys W st0 k).conO v t i oo).1 := by
            rw [idxOf_cast, idxOf_cast]
            show _ = Pm.lead (W.ord i) ((Pm.sys W st0 k).st v t i) ((Pm.sys W st0 k).J ((Pm.sys W st0 k).st v t) i) oo
            unfold Pm.lead
            by_cases hrk : Pm.rk (W.ord i) oo < Pm.rk (W.ord i) ((Pm.sys W st0 k).J ((Pm.sys W st0 k).st v t) i)
            · rw [if_pos hrk, decide_eq_true (by omega)]; rfl
            · rw [if_neg hrk, decide_eq_false (by omega)]; rfl
          have hc2 : (Pm.sys W st0 k).sl v t i ((Pm.sys W st0 k).J ((Pm.sys W st0 k).st v t) i) - (Pm.sys W st0 k).sl v t i oo = ((Pm.sys W st0 k).conO v t i oo).2 := rfl
          dsimp only
          rw [hc1, hc2]
          have bd1 := sl_bound W st0 k v t i ((Pm.sys W st0 k).J ((Pm.sys W st0 k).st v t) i)
          have bd2 := sl_bound W st0 k v t i oo
          have hcb : -1000 < ((Pm.sys W st0 k).conO v t i oo).2 ∧ ((Pm.sys W st0 k).conO v t i oo).2 < 1000 := by rw [← hc2]; omega
          have st : ∀ (σ : L2.St), σ = [some (.ref ta), some (.ref a), some (.ref kk), some (.int v), some (.ref bd), some (.int (T' : Nat)), some (.ref ta'), some (.ref at_), some (.ref dm), some (.ref sl), some (.int (Pm.loStep v (((List.range oo).map ((Pm.sys W st0 k).conO v t i)).foldl (Pm.loStep v) lob) ((Pm.sys W st0 k).conO v t i oo))), some (.int (Pm.hiStep v (((List.range oo).map ((Pm.sys W st0 k).conO v t i)).foldl (Pm.hiStep v) hib') ((Pm.sys W st0 k).conO v t i oo))), some (.ref D), some (.int (t : Nat)), some (.ref j), some (.int (i : Nat)), some (.int ((Pm.sys W st0 k).J ((Pm.sys W st0 k).st v t) i : Nat)), some (.ref o), some (.int (oo : Nat)), some (.int ((Pm.sys W st0 k).conO v t i oo).1), some (.int ((Pm.sys W st0 k).conO v t i oo).2)] → ∃ x18 x19 x20, σ = [some (.ref ta), some (.ref a), some (.ref kk), some (.int v), some (.ref bd), some (.int (T' : Nat)), some (.ref ta'), some (.ref at_), some (.ref dm), some (.ref sl), some (.int (((List.range (oo + 1)).map ((Pm.sys W st0 k).conO v t i)).foldl (Pm.loStep v) lob)), some (.int (((List.range (oo + 1)).map ((Pm.sys W st0 k).conO v t i)).foldl (Pm.hiStep v) hib')), some (.ref D), some (.int (t : Nat)), some (.ref j), some (.int (i : Nat)), some (.int ((Pm.sys W st0 k).J ((Pm.sys W st0 k).st v t) i : Nat)), some (.ref o), x18, x19, x20] := fun σ hσ => by
            refine ⟨some (.int (oo : Nat)), some (.int ((Pm.sys W st0 k).conO v t i oo).1), some (.int ((Pm.sys W st0 k).conO v t i oo).2), ?_⟩
            rw [hσ, List.range_succ, List.map_append, List.foldl_append, List.foldl_append]
            rfl
          generalize hlo : (((List.range oo).map ((Pm.sys W st0 k).conO v t i)).foldl (Pm.loStep v) lob) = loo at st ⊢
          generalize hhi : (((List.range oo).map ((Pm.sys W st0 k).conO v t i)).foldl (Pm.hiStep v) hib') = hio at st ⊢
          generalize (Pm.sys W st0 k).conO v t i oo = cc at hcb st ⊢
          by_cases c1 : 0 < cc.2
          · rw [lo_pos c1, hi_not (by omega)] at st
            refine ⟨_, rfl, _, _, rfl, rfl, _, rfl, ?_⟩
            rw [decide_eq_true c1]
            refine iteT ⟨_, rfl, _, rfl, _, rfl, _, rfl, _, _, rfl, rfl, ⟨c1, by omega⟩, _, _, rfl, rfl, _, _, rfl, ?_⟩
            have : (if v - cc.1 / cc.2 > loo then v - cc.1 / cc.2 else loo) = max loo (v - cc.1 / cc.2) := by split <;> omega
            dsimp only
            rw [this]
            refine ⟨_, rfl, _, _, rfl, rfl, _, rfl, ?_⟩
            rw [decide_eq_false (by omega)]
            exact iteF ⟨Same.tr s10 (Same.tr s11 s12'), st _ rfl⟩
          · rw [lo_not c1] at st
            refine ⟨_, rfl, _, _, rfl, rfl, _, rfl, ?_⟩
            rw [decide_eq_false c1]
            refine iteF ⟨_, rfl, _, _, rfl, rfl, _, rfl, ?_⟩
            by_cases c2 : cc.2 < 0
            · rw [hi_neg c2] at st
              rw [decide_eq_true c2]
              refine iteT ⟨_, rfl, _, rfl, _, rfl, _, rfl, _, _, rfl, rfl, _, _, rfl, rfl, ⟨by omega, by omega⟩, _, _, rfl, rfl, _, _, rfl, ?_⟩
              have : (if v + cc.1 / (0 - cc.2) < hio then v + cc.1 / (0 - cc.2) else hio) = min hio (v + cc.1 / (-cc.2)) := by rw [Int.zero_sub]; split <;> omega
              dsimp only
              rw [this]
              exact ⟨Same.tr s10 (Same.tr s11 s12'), st _ rfl⟩
            · rw [hi_not c2] at st
              rw [decide_eq_false c2]
              exact iteF ⟨Same.tr s10 (Same.tr s11 s12'), st _ rfl⟩
        · rintro σ H10 ⟨s10, x18, x19, x20, rfl⟩
          refine ⟨Same.tr s79 s10, some (.int (i : Nat)), some (.int ((Pm.sys W st0 k).J ((Pm.sys W st0 k).st v t) i : Nat)), some (.ref o), x18, x19, x20, ?_⟩
          rw [List.range_succ, List.flatMap_append, List.foldl_append, List.foldl_append, hlob, hhib]
          simp only [List.flatMap_cons, List.flatMap_nil, List.append_nil]
          rfl
      · rintro σ H8 ⟨s8, x15, x16, x17, x18, x19, x20, rfl⟩
        rw [nums_len]
        have s68 := Same.tr s7 s8
        have hD8 := s68 _ _ hD6
        refine ⟨_, rfl, .inl ⟨rfl, _, SqL.of hD8⟩, _, rfl, D, _, _, rfl, rfl, hD8, by rw [List.length_map, hjl, sizeLine_eq]; omega, ?_⟩
        have s9 : Same H5 (upd H8 D (.lst (js.map V.ref ++ [.ref j]))) := sameW (Same.tr s57 s8) hD
        have hk9 : ∀ b xs, H8 b = some (.tup xs) → (upd H8 D (.lst (js.map V.ref ++ [.ref j]))) b = some (.tup xs) := fun b xs e => (upd_ne (ne_of e hD8 (by simp))).trans e
        have hD9 : (upd H8 D (.lst (js.map V.ref ++ [.ref j]))) D = some (.lst ((js ++ [j]).map V.ref)) := by rw [upd_same, List.map_append]; rfl
        have sW : Same (hid D H8) (upd H8 D (.lst (js.map V.ref ++ [.ref j]))) := sameW hid_same hid_none
        have st9 : StAt (upd H8 D (.lst (js.map V.ref ++ [.ref j]))) at_ W.nb W.sz ((Pm.sys W st0 k).st v t) := (StAt.hideI hD8 (by simp) ⟨ss, s8 _ _ ha7, hsl7, hss7.same s8⟩).same sW
        have sl9 : SlAt (upd H8 D (.lst (js.map V.ref ++ [.ref j]))) sl k ((Pm.sys W st0 k).sl v t) := ⟨mk, sW _ _ (hid_ne hD8 (s8 _ _ d7) (by simp)), ks7, m7⟩
        have hj9 := hk9 _ _ (s8 _ _ hj7)
        have hrow9 : ∀ (t' : Nat) (j' : Addr), (js ++ [j])[t']? = some j' → JtAt (upd H8 D (.lst (js.map V.ref ++ [.ref j]))) j' W.nb ((Pm.sys W st0 k).J ((Pm.sys W st0 k).st v t')) := fun t' j' e => by
          by_cases ht' : t' < js.length
          · rw [List.getElem?_append_left ht'] at e
            exact hk9 _ _ (s68 _ _ (hj t' j' e))
          · have : t' = t := by have := get_lt e; simp at this; omega
            subst this
            rw [List.getElem?_append_right (by omega)] at e
            simp [hjl] at e
            subst e
            exact hj9
        generalize (upd H8 D (.lst (js.map V.ref ++ [.ref j]))) = H9 at s9 hD9 st9 sl9 hj9 hrow9
        refine ⟨_, rfl, _, rfl, _, rfl, _, rfl, ta, kk, j, sl, W, k, (Pm.sys W st0 k).J ((Pm.sys W st0 k).st v t), (Pm.sys W st0 k).sl v t, rfl, ok, hok, s9 _ _ hk5, hj9, sl9, fun sl2 H10 s10 sl10 => ?_⟩
        refine ⟨_, rfl, _, rfl, _, rfl, dm, at_, j, W.turn k v, (Pm.sys W st0 k).st v t, (Pm.sys W st0 k).J ((Pm.sys W st0 k).st v t), rfl, ok', mv5.same (Same.tr s9 s10), by rw [turn_nb, turn_sz]; exact st9.same s10, by rw [turn_nb]; exact s10 _ _ hj9, by rw [turn_nb, turn_sz]; exact hJ, fun a2 H11 s11 h11 => ?_⟩
        rw [turn_nb, turn_sz] at h11
        have s1011 := Same.tr s10 s11
        refine ⟨Same.tr s9 s1011, ⟨js ++ [j], s1011 _ _ hD9, by simp [hjl], fun t' j' e => s1011 _ _ (hrow9 t' j' e)⟩, a2, sl2, some (.int (t : Nat)), some (.ref j), x15, x16, x17, x18, x19, x20, h11, sl10.same s11, ?_⟩
        have e1 : (Pm.sys W st0 k).con v (t + 1) = (Pm.sys W st0 k).con v t ++ (Pm.sys W st0 k).conT v t := by
          unfold Pm.Sys.con
          rw [List.range_succ, List.flatMap_append]
          simp only [List.flatMap_cons, List.flatMap_nil, List.append_nil]
        rw [e1, List.foldl_append, List.foldl_append, hlot, hhit]
        rfl
    · rintro σ H6 ⟨s6, hrow, at_, sl, x13, x14, x15, x16, x17, x18, x19, x20, st6, sl6, rfl⟩
      exact ⟨_, rfl, _, rfl, _, rfl, big1000 (by simp), newT fun r7 H7 _ s7 h7 => kont r7 H7 D (Same.tr s5 (Same.tr s6 s7)) h7 (hrow.same s7)⟩
end
end WB


namespace WB
open PySem L2
def spLAll (K : PySem.W.Frag) (cW cS : Addr) : Sp := fun vs H Q _ => ∃ (ta a kk bd : Addr) (W : Pm.Wd) (st0 : Pm.Stand) (k : Pm.Knob) (T : Nat) (lo hi : Int), vs = [.ref ta, .ref a, .ref kk, .ref bd, .int (T : Nat)] ∧ W.Ok ∧ k.ok W ∧ 0 < T ∧ T ≤ 100 ∧ ToldAt H ta W ∧ StAt H a W.nb W.sz st0 ∧ KnobAt H kk k ∧ H bd = some (.tup [.int lo, .int hi]) ∧ (Pm.isStr k = true ∨ (-1000000000 ≤ lo ∧ hi ≤ 1000000000)) ∧
  match (Pm.sys W st0 k).pcs T hi 300 lo with
  | some ps => ∀ r H', Same H H' → PiecesAt H' r (Pm.sys W st0 k) T ps → Q (.ref r) H'
  | none => ∀ H', Same H H' → Q .non H'
def dueV : Option (Option Int) → V
  | none => .str "many"
  | some r => hiV r
def spLDue (K : PySem.W.Frag) (cW cS : Addr) : Sp := fun vs H Q _ => ∃ (ta a kk ask : Addr) (W : Pm.Wd) (st0 : Pm.Stand) (k : Pm.Knob) (T spot wish : Nat) (far : Int), vs = [.ref ta, .ref a, .int (T : Nat), .ref kk, .ref ask, .int far] ∧ W.Ok ∧ k.ok W ∧ 0 < T ∧ T ≤ 100 ∧ ToldAt H ta W ∧ StAt H a W.nb W.sz st0 ∧ KnobAt H kk k ∧ H ask = some (.tup [.int (spot : Nat), .int (wish : Nat)]) ∧ spot < W.nb ∧ 0 ≤ far ∧ ∀ H', Same H H' → Q (dueV (dueOf W st0 k T far spot wish)) H'
section
variable {P : Program} {w : World} {K : PySem.W.Frag} {mg : Str → Option Value} {base : Heap} {cW cS dW : Addr} {xs : Exs}
abbrev sLAll : Stmt := top 66
theorem scLAll : FnScope ["_law_told_here", "_law_stand_here", "_law_knob_here", "_law_bounds", "_law_beats", "_law_found", "_law_start", "_law_end"] ["_law_told_here", "_law_stand_here", "_law_knob_here", "_law_bounds", "_law_beats"] (defScope sLAll) := ⟨rfl, rfl, rfl, by decide +kernel, rfl, by decide +kernel, by decide +kernel⟩
theorem ok_LAll {f : Addr} {fd : FuncData} (F : Fun K "_law_all" "_law_all" sLAll f fd) (T : NoG mg) (c__law_piece : Cal P w K mg base CX0 3 "_law_piece" ["_law_told_here", "_law_stand_here", "_law_knob_here", "_law_number", "_law_bounds", "_law_beats"] (spLPiece K cW cS)) : FnOk P w K mg base CX0 4 f fd ["_law_told_here", "_law_stand_here", "_law_knob_here", "_law_bounds", "_law_beats"] (spLAll K cW cS) := by
  refine F.ok scLAll (fun vs H Q E h => ?_) (fun cdv A outer s H vs Q E hr h => ?_)
  · repeat (first | (obtain ⟨rfl, _⟩ := h; rfl) | (obtain ⟨_, h⟩ := h))
  · obtain ⟨ta, a, kk, bd, W, st0, k, T', lo, hi, rfl, ok, hok, hT0, hT, htd, hst, hk, hbd, hrg, kont⟩ := h
    refine ⟨_, (pss_cons (ps_set (i := 5) scLAll.nd rfl (Or.inl rfl) (pe_lst pa_nil))
      (pss_cons (ps_asg (pv 3) (pg_tup (n := 2) rfl (pgs_cons (pg_name (i := 6) scLAll.nd rfl (Or.inl rfl)) (pgs_cons (pg_name (i := 7) scLAll.nd rfl (Or.inl rfl)) pgs_nil))))
      (pss_cons (ps_while PassesOwn.never (pt_cmpR op_le (pv 6) (pv 7) (nomark _))
        (pss_cons (ps_if (pt_cmpR op_eq (pe_callB call_len (by rfl) T.len PySem.boot_len (pa_cons (pv 5) pa_nil)) pe_int (nomark _)) (pss_one (ps_ret pe_non)) pss_nil)
          (pss_cons (ps_expr (pe_bm PySem.F.plainAttrs_list PySem.F.slot_list_append PySem.F.type_list_append mt_append (pv 5) (pa_cons (pe_cal c__law_piece (hr.mono (by decide)) pass0 (pa_cons (pv 0) (pa_cons (pv 1) (pa_cons (pv 2) (pa_cons (pv 6) (pa_cons (pv 3) (pa_cons (pv 4) pa_nil))))))) pa_nil)))
          (pss_one (ps_set (i := 6) scLAll.nd rfl (Or.inl rfl) (pe_op op_add (pe_ix ix_tup (pe_ix ix_list (pv 5) (pe_un un_neg pe_int) (fun _ _ => rfl)) pe_int (fun _ _ => rfl)) pe_int))))))
      (pss_one (ps_ret (pv 5)))))), ?_⟩
    have yok := Pm.sys_ok ok (s := st0) hok
    refine ⟨big1000 (by simp), fun r hr => ?_⟩
    have s0 : Same H (upd H r (.lst [])) := sameUpd hr
    refine ⟨_, rfl, bd, _, rfl, SqT.of (s0 _ _ hbd), rfl, _, _, rfl, _, _, rfl, rfl, ?_⟩
    refine ⟨fun m σ H' => ∃ (lo' : Int) (n : Nat) (ps : List (Int × Int)) (qs : List Addr), m = 300 - n ∧ n ≤ 300 ∧ lo ≤ lo' ∧ (Pm.sys W st0 k).Begins T' lo hi lo' ∧ ps.length = n ∧ qs.length = n ∧ σ = [some (.ref ta), some (.ref a), some (.ref kk), some (.ref bd), some (.int (T' : Nat)), some (.ref r), some (.int lo'), some (.int hi)] ∧ Same H H' ∧ H' r = some (.lst (qs.map V.ref)) ∧ (∀ (i : Nat) (q : Addr) (pc : Int × Int), qs[i]? = some q → ps[i]? = some pc → PieceAt H' q (Pm.sys W st0 k) pc.1 pc.2 T') ∧ (Pm.sys W st0 k).pcs T' hi 300 lo = ((Pm.sys W st0 k).pcs T' hi (300 - n) lo').map (ps ++ ·), ⟨300, lo, 0, [], [], rfl, by omega, Int.le_refl _, .inl rfl, rfl, rfl, rfl, s0, upd_same, by simp, by simp⟩, ?_⟩
    rintro m σ H1 ⟨lo', n, ps, qs, rfl, hn, hlo, hbeg, hpl, hql, rfl, s1, hr1, hpc, heq⟩
    refine ⟨_, rfl, _, rfl, _, _, rfl, rfl, _, rfl, ite2 (fun e => ?_) (fun e => ?_)⟩
    · have e1 : lo' ≤ hi := of_decide_eq_true e
      by_cases hn3 : n = 300
      · subst hn3
        have hnone : (Pm.sys W st0 k).pcs T' hi 300 lo = none := by
          rw [heq]
          unfold Pm.Sys.pcs
          rw [if_neg (by omega)]; rfl
        rw [hnone] at kont
        refine ⟨fun _ _ => False, fun _ _ h => h.elim, ?_⟩
        refine ⟨_, rfl, _, 300, rfl, .inl ⟨_, SqL.of hr1, by rw [List.length_map, hql]⟩, rfl, _, rfl, iteT (kont H1 s1)⟩
      · refine ⟨fun σ' H' => ∃ (lo2 : Int) (ps2 : List (Int × Int)) (qs2 : List Addr), lo ≤ lo2 ∧ (Pm.sys W st0 k).Begins T' lo hi lo2 ∧ ps2.length = n + 1 ∧ qs2.length = n + 1 ∧ σ' = [some (.ref ta), some (.ref a), some (.ref kk), some (.ref bd), some (.int (T' : Nat)), some (.ref r), some (.int lo2), some (.int hi)] ∧ Same H H' ∧ H' r = some (.lst (qs2.map V.ref)) ∧ (∀ (i : Nat) (q : Addr) (pc : Int × Int), qs2[i]? = some q → ps2[i]? = some pc → PieceAt H' q (Pm.sys W st0 k) pc.1 pc.2 T') ∧ (Pm.sys W st0 k).pcs T' hi 300 lo = ((Pm.sys W st0 k).pcs T' hi (300 - (n + 1)) lo2).map (ps2 ++ ·), fun σ' H' h => ?_, ?_⟩
        · obtain ⟨lo2, ps2, qs2, g1, gb, g2, g3, g4, g5, g6, g7, g8⟩ := h
          exact ⟨300 - (n + 1), by omega, lo2, n + 1, ps2, qs2, rfl, by omega, g1, gb, g2, g3, g4, g5, g6, g7, g8⟩
        refine ⟨_, rfl, _, n, rfl, .inl ⟨_, SqL.of hr1, by rw [List.length_map, hql]⟩, rfl, _, rfl, ?_⟩
        rw [decide_eq_false (fun z => hn3 (by have := V.int.inj z; omega))]
        have hsz : n < 300 := by omega
        refine iteF ⟨_, rfl, .inl ⟨rfl, _, SqL.of hr1⟩, _, rfl, _, rfl, _, rfl, _, rfl, _, rfl, _, rfl, ta, a, kk, bd, W, st0, k, lo', T', lo, hi, rfl, ok, hok, hrg.imp id (fun h => ⟨by omega, by omega⟩), hT, htd.same s1, hst.same s1, s1 _ _ hk, s1 _ _ hbd, fun q H3 rwq s13 hq1 hrw => ?_⟩
        rw [yok.start_eq hbeg hlo e1] at hq1
        obtain ⟨js, hj1, hj2, hj3⟩ := hrw
        have hpq : PieceAt H3 q (Pm.sys W st0 k) lo' ((Pm.sys W st0 k).last lo' T' hi) T' := ⟨rwq, js, hq1, hj1, hj2, hj3⟩
        have hr3 := s13 _ _ hr1
        refine ⟨r, _, _, rfl, rfl, hr3, by rw [List.length_map, hql, sizeLine_eq]; omega, ?_⟩
        have hpc3 : ∀ (i : Nat) (q' : Addr) (pc : Int × Int), (qs ++ [q])[i]? = some q' → (ps ++ [(lo', (Pm.sys W st0 k).last lo' T' hi)])[i]? = some pc → PieceAt H3 q' (Pm.sys W st0 k) pc.1 pc.2 T' := fun i q' pc e e2 => by
          by_cases hi' : i < n
          · rw [List.getElem?_append_left (by omega)] at e e2
            exact (hpc i q' pc e e2).same s13
          · have : i = n := by have := get_lt e; simp at this; omega
            subst this
            rw [List.getElem?_append_right (by omega)] at e e2
            simp [hql, hpl] at e e2
            subst e e2
            exact hpq
        have hqt : ∀ q' ∈ qs, ∃ a b c, H3 q' = some (.tup [.int a, .int b, .ref c]) := fun q' hm => by
          obtain ⟨i, hi'⟩ := List.getElem?_of_mem hm
          have hil : i < ps.length := by have := get_lt hi'; omega
          obtain ⟨rw', _, h1, _⟩ := hpc i q' _ hi' (List.getElem?_eq_getElem hil)
          exact ⟨_, _, _, s13 _ _ h1⟩
        have gW : Same (hid r H3) (upd H3 r (.lst (qs.map V.ref ++ [.ref q]))) := sameW hid_same hid_none
        have hr4 : (upd H3 r (.lst (qs.map V.ref ++ [.ref q]))) r = some (.lst ((qs ++ [q]).map V.ref)) := by rw [upd_same, List.map_append]; rfl
        refine ⟨_, rfl, _, rfl, r, _, _, _, rfl, rfl, SqL.of hr4, atI_end (v := .ref q) ?_ (by simp), _, _, _, _, rfl, rfl, SqT.of (gW _ _ (hid_ne hr3 hq1 (by simp))), rfl, _, _, rfl, rfl, ?_⟩
        · simp
        have hle := yok.n_le_last (T := T') e1
        refine ⟨(Pm.sys W st0 k).last lo' T' hi + 1, ps ++ [(lo', (Pm.sys W st0 k).last lo' T' hi)], qs ++ [q], by omega, .inr ⟨lo', hlo, e1, rfl⟩, by simp [hpl], by simp [hql], rfl, sameW (Same.tr s1 s13) hr, hr4, fun i q' pc e e2 => ((hpc3 i q' pc e e2).hide hT0 hr3 hqt).same gW, ?_⟩
        rw [heq]
        conv => lhs; unfold Pm.Sys.pcs
        rw [if_neg (by omega), show 300 - n = (300 - (n + 1)) + 1 from by omega]
        simp only [Option.map_map]
        congr 1
        funext l
        simp
    · have e1 : hi < lo' := by have : ¬ lo' ≤ hi := fun z => e (decide_eq_true z); omega
      have hsome : (Pm.sys W st0 k).pcs T' hi 300 lo = some ps := by
        rw [heq]
        unfold Pm.Sys.pcs
        rw [if_pos e1]; simp
      rw [hsome] at kont
      exact ⟨_, rfl, kont r H1 s1 ⟨qs, hr1, by omega, hpc⟩⟩
abbrev sLDue : Stmt := top 68
theorem scLDue : FnScope ["_law_told_here", "_law_stand_here", "_law_beats", "_law_knob_here", "_law_asked_for", "_law_reach", "_law_own_here", "_law_start", "_law_end", "_law_some"] ["_law_told_here", "_law_stand_here", "_law_beats", "_law_knob_here", "_law_asked_for", "_law_reach"] (defScope sLDue) := ⟨rfl, rfl, rfl, by decide +kernel, rfl, by decide +kernel, by decide +kernel⟩
theorem ok_LDue {f : Addr} {fd : FuncData} (F : Fun K "_law_due" "_law_due" sLDue f fd) (T : NoG mg) (c__law_own : Cal P w K mg base CX0 1 "_law_own" ["_law_told_here", "_law_stand_here", "_law_knob_here"] (spLOwn K cW cS)) (c__law_all : Cal P w K mg base CX0 4 "_law_all" ["_law_told_here", "_law_stand_here", "_law_knob_here", "_law_bounds", "_law_beats"] (spLAll K cW cS)) (c__law_nearest : Cal P w K mg base CX0 1 "_law_nearest" ["_law_some", "_law_own_here", "_law_spot", "_law_wish"] (spLNearest K cW cS)) : FnOk P w K mg base CX0 5 f fd ["_law_told_here", "_law_stand_here", "_law_beats", "_law_knob_here", "_law_asked_for", "_law_reach"] (spLDue K cW cS) := by
  refine F.ok scLDue (fun vs H Q E h => ?_) (fun cdv A outer s H vs Q E hr h => ?_)
  · repeat (first | (obtain ⟨rfl, _⟩ := h; rfl) | (obtain ⟨_, h⟩ := h))
  · obtain ⟨ta, a, kk, ask, W, st0, k, T', spot, wish, far, rfl, ok, hok, hT0, hT, htd, hst, hk, hask, hsp, hfar, kont⟩ := h
    refine ⟨_, (pss_cons (ps_set (i := 6) scLDue.nd rfl (Or.inl rfl) (pe_cal c__law_own (hr.mono (by decide)) pass0 (pa_cons (pv 0) (pa_cons (pv 1) (pa_cons (pv 3) pa_nil)))))
      (pss_cons (ps_par (i := 7) (j := 8) rfl scLDue.nd rfl rfl (by decide) rfl rfl (pa_cons (pe_op op_sub (pv 6) (pv 5)) (pa_cons (pe_op op_add (pv 6) (pv 5)) pa_nil)) (by rfl))
      (pss_cons (ps_if (pt_cmpR op_ne (pe_ix ix_tup (pv 3) pe_int (fun _ _ => rfl)) pe_str (nomark _)) (pss_one (ps_par (i := 7) (j := 8) rfl scLDue.nd rfl rfl (by decide) rfl rfl (pa_cons (pe_callB (call_max2 rfl) (by rfl) T.max (by decide +kernel) (pa_cons (pv 7) (pa_cons (pe_op op_sub pe_int (pe_op op_pow pe_int pe_int)) pa_nil))) (pa_cons (pe_callB (call_min2 rfl) (by rfl) T.min (by decide +kernel) (pa_cons (pv 8) (pa_cons (pe_op op_pow pe_int pe_int) pa_nil))) pa_nil)) (by rfl))) pss_nil)
      (pss_cons (ps_set (i := 9) scLDue.nd rfl (Or.inl rfl) (pe_cal c__law_all (hr.mono (by decide)) pass0 (pa_cons (pv 0) (pa_cons (pv 1) (pa_cons (pv 3) (pa_cons (pe_tup (pa_cons (pv 7) (pa_cons (pv 8) pa_nil))) (pa_cons (pv 2) pa_nil)))))))
      (pss_cons (ps_if (pt_cmp (pc_isN (pv 9))) (pss_one (ps_ret pe_str)) pss_nil)
      (pss_one (ps_ret (pe_cal c__law_nearest (hr.mono (by decide)) pass0 (pa_cons (pv 9) (pa_cons (pv 6) (pa_cons (pe_ix ix_tup (pv 4) pe_int (fun _ _ => rfl)) (pa_cons (pe_ix ix_tup (pv 4) pe_int (fun _ _ => rfl)) pa_nil)))))))))))), ?_⟩
    refine ⟨_, rfl, _, rfl, _, rfl, ta, a, kk, W, st0, k, rfl, ok, htd, hst, hk, hok, fun H1 s1 => ?_⟩
    generalize hown : Pm.own W st0 k = own
    have hk1 := s1 _ _ hk
    obtain ⟨wd, hw0, hwd⟩ := is_str_word k
    refine ⟨_, rfl, _, rfl, _, _, rfl, rfl, _, rfl, _, rfl, _, _, rfl, rfl, _, _, rfl, ?_⟩
    refine ⟨_, rfl, _, _, _, _, rfl, rfl, SqT.of hk1, atI_nat hw0, rfl, _, rfl, ?_⟩
    rw [hwd]
    have p9 : (10 : Int) ^ (9 : Int).toNat = 1000000000 := by decide
    cases hstr : Pm.isStr k
    case' false =>
      refine iteT ⟨_, rfl, _, _, rfl, rfl, ⟨by decide, by decide, by decide⟩, _, _, rfl, rfl, _, _, rfl, _, rfl, _, _, rfl, rfl, ⟨by decide, by decide, by decide⟩, _, _, rfl, _, _, rfl, ?_⟩
      dsimp only
      rw [p9]
      have hbn : bnd k own far = ((if 0 - 1000000000 > own - far then 0 - 1000000000 else own - far), (if 1000000000 < own + far then 1000000000 else own + far)) := by
        unfold bnd
        rw [hstr, if_neg (by decide)]
        refine Prod.ext ?_ ?_
        · show max (own - far) (-1000000000) = _; split <;> omega
        · show min (own + far) 1000000000 = _; split <;> omega
      have hrg : Pm.isStr k = true ∨ (-1000000000 ≤ (if 0 - 1000000000 > own - far then 0 - 1000000000 else own - far) ∧ (if 1000000000 < own + far then 1000000000 else own + far) ≤ 1000000000) := .inr ⟨by split <;> omega, by split <;> omega⟩
      generalize (if 0 - 1000000000 > own - far then 0 - 1000000000 else own - far) = lo at hbn hrg ⊢
      generalize (if 1000000000 < own + far then 1000000000 else own + far) = hi at hbn hrg ⊢
    case' true =>
      refine iteF ?_
      have hbn : bnd k own far = (own - far, own + far) := by unfold bnd; rw [hstr, if_pos rfl]
      have hrg : Pm.isStr k = true ∨ (-1000000000 ≤ own - far ∧ own + far ≤ 1000000000) := .inl hstr
      dsimp only
      generalize own - far = lo at hbn hrg
      generalize own + far = hi at hbn hrg
    all_goals
      have ek : dueOf W st0 k T' far spot wish = ((Pm.sys W st0 k).pcs T' hi 300 lo).map ((Pm.sys W st0 k).near T' own spot wish) := by
        unfold dueOf Pm.Sys.due
        rw [hown, hbn]
      rw [ek] at kont
      refine ⟨_, rfl, _, rfl, _, rfl, _, rfl, _, rfl, big1000 (by simp), fun bd hbd => ?_⟩
      have s2 := sameUpd (o := .tup [.int lo, .int hi]) hbd
      have s12 := Same.tr s1 s2
      refine ⟨_, rfl, ta, a, kk, bd, W, st0, k, T', lo, hi, rfl, ok, hok, hT0, hT, htd.same s12, hst.same s12, s12 _ _ hk, upd_same, hrg, ?_⟩
      cases hps : (Pm.sys W st0 k).pcs T' hi 300 lo with
      | none =>
        rw [hps] at kont
        intro H4 s4
        exact ⟨_, rfl, _, rfl, iteT (kont H4 (Same.tr s12 s4))⟩
      | some ps =>
        rw [hps] at kont
        have kont : ∀ H', Same H H' → Q (hiV ((Pm.sys W st0 k).near T' own spot wish ps)) H' := kont
        intro r H4 s4 hpa
        have s14 := Same.tr s12 s4
        refine ⟨_, rfl, _, rfl, iteF ?_⟩
        exact ⟨_, rfl, _, rfl, _, rfl, _, _, _, _, rfl, rfl, SqT.of (s14 _ _ hask), rfl, _, rfl, _, _, _, _, rfl, rfl, SqT.of (s14 _ _ hask), rfl, r, own, spot, wish, T', (Pm.sys W st0 k), ps, rfl, hT0, hsp, hpa, fun H5 s5 => kont H5 (Same.tr s14 s5)⟩
end
end WB


namespace WB
open PySem L2
/-! ### the well -/
def WellAt (H : Hp) (wl : Addr) : Prop := ∃ x n : Int, H wl = some (.lst [.int x, .int n])
def spLWell (K : PySem.W.Frag) (cW cS : Addr) : Sp := fun vs H Q _ => ∃ (x : Int), vs = [.int x] ∧ ∀ wl H', Same H H' → H wl = none → WellAt H' wl → Q (.ref wl) H'
def spLDraw (K : PySem.W.Frag) (cW cS : Addr) : Sp := fun vs H Q _ => ∃ (wl : Addr) (many : Int), vs = [.ref wl, .int many] ∧ WellAt H wl ∧ 0 < many ∧ many ≤ 1000000000 ∧ ∀ (r : Nat) H', Same (hid wl H) H' → WellAt H' wl → (r : Int) < many → Q (.int (r : Nat)) H'
def spLOne (K : PySem.W.Frag) (cW cS : Addr) : Sp := fun vs H Q _ => ∃ (wl l : Addr) (ys : List V), vs = [.ref wl, .ref l] ∧ WellAt H wl ∧ H l = some (.lst ys) ∧ l ≠ wl ∧ 0 < ys.length ∧ ys.length ≤ 1000 ∧ ∀ y H', Same (hid wl H) H' → WellAt H' wl → y ∈ ys → Q y H'
def spLOrder (K : PySem.W.Frag) (cW cS : Addr) : Sp := fun vs H Q _ => ∃ (wl : Addr) (n : Nat), vs = [.ref wl, .int (n : Nat)] ∧ WellAt H wl ∧ n ≤ 5 ∧ ∀ o H' (l : List Nat), Same (hid wl H) H' → WellAt H' wl → OT H' o (ordV l) → l.Nodup → l.length = n → (∀ c, c ∈ l ↔ c < n) → Q (.ref o) H'
def spLNumbers (K : PySem.W.Frag) (cW cS : Addr) : Sp := fun vs H Q _ => ∃ (wl : Addr) (n : Nat) (by' : Int), vs = [.ref wl, .int (n : Nat), .int by'] ∧ WellAt H wl ∧ n ≤ 5 ∧ 1 ≤ by' ∧ by' ≤ 10000 ∧ ∀ q H' f, Same (hid wl H) H' → WellAt H' wl → H' q = some (.tup (nums n f)) → (∀ c, c < n → Pm.Amt (f c)) → Q (.ref q) H'
theorem hid_mono {p : Addr} {H H' : Hp} (s : Same (hid p H) H') : Same (hid p H) (hid p H') := fun b o e => hid_at (s _ _ e) (ne_of_none e hid_none)
theorem hid_tr {p : Addr} {H H1 H2 : Hp} (s : Same (hid p H) H1) (t : Same (hid p H1) H2) : Same (hid p H) H2 := Same.tr (hid_mono s) t
theorem hid_up {p : Addr} {H H1 H2 : Hp} (s : Same (hid p H) H1) (t : Same H1 H2) : Same (hid p H) H2 := Same.tr s t
theorem map_nums (zs : List Int) : zs.map V.int = nums zs.length fun c => zs.getD c 0 := by
  refine eq_nums (by simp) fun i y hy => ?_
  rw [List.getElem?_map] at hy
  cases e : zs[i]? with
  | none => rw [e] at hy; simp at hy
  | some z => rw [e] at hy; simp at hy; subst hy; simp [List.getD, e]
theorem well_ne {H : Hp} {wl b : Addr} {o : HO} (hw : WellAt H wl) (h : H b = some o) (ho : ∀ x n : Int, o ≠ .lst [.int x, .int n]) : b ≠ wl := fun z => by
  subst z
  obtain ⟨x, n, e⟩ := hw
  rw [e] at h
  cases h
  exact ho _ _ rfl
theorem perm_erase : ∀ (l : List Nat) (r : Nat) (h : r < l.length), (l[r] :: l.eraseIdx r).Perm l
  | [], r, h => by simp at h
  | x :: l, 0, h => by simp
  | x :: l, r + 1, h => by
    have := perm_erase l r (by simpa using h)
    simp only [List.getElem_cons_succ, List.eraseIdx_cons_succ]
    exact (List.Perm.swap _ _ _).trans (List.Perm.cons x this)
theorem draw_fin {a many : Int} (hm : 0 < many) : ∃ r : Nat, a % many = (r : Nat) ∧ (r : Int) < many := by
  have h1 := Int.emod_nonneg a (by omega : many ≠ 0)
  have h2 := Int.emod_lt_of_pos a hm
  exact ⟨(a % many).toNat, by omega, by omega⟩
section
variable {P : Program} {w : World} {K : PySem.W.Frag} {mg : Str → Option Value} {base : Heap} {cW cS dW : Addr} {xs : Exs}
abbrev sLWell : Stmt := top 48
theorem scLWell : FnScope ["_law_cell"] ["_law_cell"] (defScope sLWell) := ⟨rfl, rfl, rfl, by decide +kernel, rfl, by decide +kernel, by decide +kernel⟩
theorem ok_LWell {f : Addr} {fd : FuncData} (F : Fun K "_law_well" "_law_well" sLWell f fd) (T : NoG mg)  : FnOk P w K mg base CX0 1 f fd ["_law_cell"] (spLWell K cW cS) := by
  refine F.ok scLWell (fun vs H Q E h => ?_) (fun cdv A outer s H vs Q E hr h => ?_)
  · repeat (first | (obtain ⟨rfl, _⟩ := h; rfl) | (obtain ⟨_, h⟩ := h))
  · obtain ⟨x, rfl, kont⟩ := h
    refine ⟨_, (pss_one (ps_ret (pe_lst (pa_cons (pv 0) (pa_cons pe_int pa_nil))))), ?_⟩
    exact ⟨_, rfl, big1000 (by simp), fun p hp => kont p _ (sameUpd hp) hp ⟨x, 0, upd_same⟩⟩
abbrev sLDraw : Stmt := top 49
theorem scLDraw : FnScope ["_law_well_here", "_law_many", "_law_digit", "_law_number", "_law_more"] ["_law_well_here", "_law_many"] (defScope sLDraw) := ⟨rfl, rfl, rfl, by decide +kernel, rfl, by decide +kernel, by decide +kernel⟩
theorem ok_LDraw {f : Addr} {fd : FuncData} (F : Fun K "_law_draw" "_law_draw" sLDraw f fd) (T : NoG mg)  : FnOk P w K mg base CX0 1 f fd ["_law_well_here", "_law_many"] (spLDraw K cW cS) := by
  refine F.ok scLDraw (fun vs H Q E h => ?_) (fun cdv A outer s H vs Q E hr h => ?_)
  · repeat (first | (obtain ⟨rfl, _⟩ := h; rfl) | (obtain ⟨_, h⟩ := h))
  · obtain ⟨wl, many, rfl, ⟨x, n, hw⟩, hm, hm2, kont⟩ := h
    refine ⟨_, (pss_cons (ps_if (pt_cmpR op_ge (pe_ix ix_list (pv 0) pe_int (fun _ _ => rfl)) (pe_op op_pow pe_int pe_int) (nomark _)) (pss_cons (ps_set (i := 2) scLDraw.nd rfl (Or.inl rfl) (pe_op op_mod (pe_ix ix_list (pv 0) pe_int (fun _ _ => rfl)) (pv 1)))
          (pss_cons (ps_asg (pe_op op_fdivW (pe_ix ix_list (pv 0) pe_int (fun _ _ => rfl)) (pv 1)) (pg_sub (pv 0) pe_int set_list))
          (pss_one (ps_ret (pv 2))))) pss_nil)
      (pss_cons (ps_asg (pe_op op_add (pe_ix ix_list (pv 0) pe_int (fun _ _ => rfl)) pe_int) (pg_sub (pv 0) pe_int set_list))
      (pss_cons (ps_set (i := 3) scLDraw.nd rfl (Or.inl rfl) (pe_op op_mod (pe_op op_mul (pe_op op_add (pe_op op_add (pe_op op_mod (pe_ix ix_list (pv 0) pe_int (fun _ _ => rfl)) pe_int) (pe_op op_mul pe_int (pe_ix ix_list (pv 0) pe_int (fun _ _ => rfl)))) pe_int) pe_int) pe_int))
      (pss_cons (ps_set (i := 4) scLDraw.nd rfl (Or.inl rfl) (pe_op op_mod (pe_op op_fdivW (pe_ix ix_list (pv 0) pe_int (fun _ _ => rfl)) pe_int) pe_int))
      (pss_cons (ps_set (i := 3) scLDraw.nd rfl (Or.inl rfl) (pe_op op_mod (pe_op op_mul (pv 3) (pe_op op_add (pe_op op_add (pe_op op_fdivW (pv 3) pe_int) pe_int) (pv 4))) pe_int))
      (pss_one (ps_ret (pe_op op_mod (pe_op op_fdivW (pe_op op_mod (pe_op op_mul (pv 3) (pe_op op_add (pe_op op_fdivW (pv 3) pe_int) pe_int)) pe_int) pe_int) (pv 1))))))))), ?_⟩
    have dm : CDivW 0 many := wide_div (b := 30) hm (by omega) (by decide) (by decide)
    refine ⟨_, rfl, wl, _, _, _, rfl, rfl, SqL.of hw, rfl, _, _, rfl, rfl, ⟨by decide, by decide, by decide⟩, _, _, rfl, rfl, _, rfl, ite2 (fun e => ?_) (fun e => ?_)⟩
    · refine ⟨_, rfl, wl, _, _, _, rfl, rfl, SqL.of hw, rfl, _, rfl, _, _, rfl, rfl, hm, ?_⟩
      obtain ⟨r, hr, hr2⟩ := draw_fin (a := x) hm
      refine ⟨_, rfl, wl, _, _, _, rfl, rfl, SqL.of hw, rfl, _, rfl, _, _, rfl, rfl, dm, _, rfl, wl, _, 0, 0, rfl, rfl, hw, rfl, _, rfl, ?_⟩
      dsimp only
      rw [hr]
      exact kont r _ (sameW hid_same hid_none) ⟨_, _, upd_same⟩ hr2
    · refine ⟨_, rfl, wl, _, _, _, rfl, rfl, SqL.of hw, rfl, _, _, rfl, rfl, _, rfl, wl, _, 1, 1, rfl, rfl, hw, rfl, ?_⟩
      have hs : Same (hid wl H) (upd H wl (.lst [.int x, .int (n + 1)])) := sameW hid_same hid_none
      have hw1 : (upd H wl (.lst [.int x, .int (n + 1)])) wl = some (.lst [.int x, .int (n + 1)]) := upd_same
      have c1 : CDivW 0 2147483629 := ⟨by decide, by decide +kernel⟩
      have c2 : CDivW 0 1013 := ⟨by decide, by decide +kernel⟩
      have c3 : CDivW 0 2003 := ⟨by decide, by decide +kernel⟩
      have c5 : CDivW 0 5 := ⟨by decide, by decide +kernel⟩
      refine ⟨_, rfl, wl, _, _, _, rfl, rfl, SqL.of hw1, rfl, _, _, rfl, rfl, of_decide_eq_true rfl, _, rfl, wl, _, _, _, rfl, rfl, SqL.of hw1, rfl, _, _, rfl, rfl, .inl ⟨by decide, by decide⟩, _, _, rfl, rfl, _, _, rfl, rfl, _, _, rfl, rfl, .inr ⟨by decide, by decide⟩, _, _, rfl, rfl, of_decide_eq_true rfl, ?_⟩
      refine ⟨_, rfl, wl, _, _, _, rfl, rfl, SqL.of hw1, rfl, _, _, rfl, rfl, c1, _, _, rfl, rfl, of_decide_eq_true rfl, ?_⟩
      dsimp only
      generalize hN : (x % 2147483629 + 60013 * (n + 1) + 11) * 48271 % 2147483647 = N
      have hN1 : 0 ≤ N := by rw [← hN]; exact Int.emod_nonneg _ (by decide)
      have hN2 : N < 2147483647 := by rw [← hN]; exact Int.emod_lt_of_pos _ (by decide)
      generalize x / 2147483629 % 9973 = M
      refine ⟨_, rfl, _, rfl, _, _, rfl, rfl, c2, _, _, rfl, rfl, _, rfl, _, _, rfl, rfl, _, _, rfl, rfl, .inl ⟨by omega, by omega⟩, _, _, rfl, rfl, of_decide_eq_true rfl, ?_⟩
      dsimp only
      generalize hN' : N * (N / 1013 + 40692 + M) % 2147483587 = N'
      have hN3 : 0 ≤ N' := by rw [← hN']; exact Int.emod_nonneg _ (by decide)
      have hN4 : N' < 2147483587 := by rw [← hN']; exact Int.emod_lt_of_pos _ (by decide)
      refine ⟨_, rfl, _, rfl, _, _, rfl, rfl, c3, _, _, rfl, rfl, _, _, rfl, rfl, .inl ⟨by omega, by omega⟩, _, _, rfl, rfl, of_decide_eq_true rfl, _, _, rfl, rfl, c5, _, rfl, _, _, rfl, rfl, hm, ?_⟩
      dsimp only
      obtain ⟨r, hr, hr2⟩ := draw_fin (a := N' * (N' / 2003 + 69621) % 2147483563 / 5) hm
      rw [hr]
      exact kont r _ hs ⟨_, _, hw1⟩ hr2
abbrev sLOne : Stmt := top 50
theorem scLOne : FnScope ["_law_well_here", "_law_some"] ["_law_well_here", "_law_some"] (defScope sLOne) := ⟨rfl, rfl, rfl, by decide +kernel, rfl, by decide +kernel, by decide +kernel⟩
theorem ok_LOne {f : Addr} {fd : FuncData} (F : Fun K "_law_one" "_law_one" sLOne f fd) (T : NoG mg) (c__law_draw : Cal P w K mg base CX0 1 "_law_draw" ["_law_well_here", "_law_many"] (spLDraw K cW cS)) : FnOk P w K mg base CX0 2 f fd ["_law_well_here", "_law_some"] (spLOne K cW cS) := by
  refine F.ok scLOne (fun vs H Q E h => ?_) (fun cdv A outer s H vs Q E hr h => ?_)
  · repeat (first | (obtain ⟨rfl, _⟩ := h; rfl) | (obtain ⟨_, h⟩ := h))
  · obtain ⟨wl, l, ys, rfl, hw, hl, hne, h0, h1, kont⟩ := h
    refine ⟨_, (pss_one (ps_ret (pe_ix ix_list (pv 1) (pe_cal c__law_draw (hr.mono (by decide)) pass0 (pa_cons (pv 0) (pa_cons (pe_callB call_len (by rfl) T.len PySem.boot_len (pa_cons (pv 1) pa_nil)) pa_nil))) (fun _ _ => rfl)))), ?_⟩
    refine ⟨_, rfl, _, rfl, _, rfl, _, ys.length, rfl, .inl ⟨_, SqL.of hl, rfl⟩, wl, _, rfl, hw, by omega, by omega, fun r H1 s1 hw1 hr => ?_⟩
    have hl1 := s1 _ _ (hid_at hl hne)
    have e : ys[r]? = some (ys[r]'(by omega)) := List.getElem?_eq_getElem _
    exact ⟨l, _, _, _, rfl, rfl, SqL.of hl1, atI_nat e, kont _ _ s1 hw1 (List.getElem_mem _)⟩
abbrev sLOrder : Stmt := top 51
theorem scLOrder : FnScope ["_law_well_here", "_law_many", "_law_left", "_law_k"] ["_law_well_here", "_law_many"] (defScope sLOrder) := ⟨rfl, rfl, rfl, by decide +kernel, rfl, by decide +kernel, by decide +kernel⟩
theorem ok_LOrder {f : Addr} {fd : FuncData} (F : Fun K "_law_order" "_law_order" sLOrder f fd) (T : NoG mg) (c__law_draw : Cal P w K mg base CX0 1 "_law_draw" ["_law_well_here", "_law_many"] (spLDraw K cW cS)) : FnOk P w K mg base CX0 2 f fd ["_law_well_here", "_law_many"] (spLOrder K cW cS) := by
  refine F.ok scLOrder (fun vs H Q E h => ?_) (fun cdv A outer s H vs Q E hr h => ?_)
  · repeat (first | (obtain ⟨rfl, _⟩ := h; rfl) | (obtain ⟨_, h⟩ := h))
  · obtain ⟨wl, n, rfl, hw, hn, kont⟩ := h
    refine ⟨_, (pss_cons (ps_set (i := 2) scLOrder.nd rfl (Or.inr rfl) (pe_listRg rfl (by rfl) T.list (prg_1 (by rfl) T.range (pv 1))))
      (pss_one (ps_ret (pe_tupleZ (by rfl) T.tuple (pe_lcD (own := [("_law_k", 3)]) rfl scLOrder.nd (pi_range1 (by rfl) T.range (pa_cons (pv 1) pa_nil)) (blkOk_by (by kernel_rfl)) (fun _ _ _ _ _ => (pg_name (i := 3) scLOrder.nd rfl (Or.inl rfl))) (fun _ _ _ _ _ => pts_nil) (fun _ _ _ _ _ => (pe_bm PySem.F.plainAttrs_list PySem.F.slot_list_pop PySem.F.type_list_pop mt_popAt (pv 2) (pa_cons (pe_cal c__law_draw (hr.mono (by decide)) pass0 (pa_cons (pv 0) (pa_cons (pe_callB call_len (by rfl) T.len PySem.boot_len (pa_cons (pv 2) pa_nil)) pa_nil))) pa_nil)))))))), ?_⟩
    refine ⟨_, rfl, _, rfl, ⟨by omega, by omega, by omega, by omega, by omega⟩, fun L hL => ?_⟩
    have sL := sameUpd (o := .lst (rgV 0 (n : Nat))) hL
    have hwL : L ≠ wl := fun z => by subst z; obtain ⟨x, m, e⟩ := hw; rw [e] at hL; cases hL
    have eL : rgV 0 (n : Nat) = ordV (List.range n) := by
      unfold rgV ordV
      simp
    have hL1 : (upd H L (.lst (rgV 0 (n : Nat)))) L = some (.lst (ordV (List.range n))) := by rw [upd_same, eL]
    have hw1 : WellAt (upd H L (.lst (rgV 0 (n : Nat)))) wl := by obtain ⟨x, m, e⟩ := hw; exact ⟨x, m, sL _ _ e⟩
    generalize (upd H L (.lst (rgV 0 (n : Nat)))) = H1 at sL hL1 hw1
    refine ⟨_, rfl, _, rfl, by omega, by omega, fun D hD => ?_⟩
    have hwD : D ≠ wl := fun z => by subst z; obtain ⟨x, m, e⟩ := hw1; rw [e] at hD; cases hD
    have hDL : D ≠ L := fun z => by subst z; rw [hL1] at hD; cases hD
    have sD := sameUpd (o := .lst []) hD
    have hDh : hid wl H D = none := none_same hid_same (none_same sL hD)
    have hLh : hid wl H L = none := none_same hid_same hL
    refine lc_it (wrn (n := n)) (fun i H' => Same (hid wl H) H' ∧ WellAt H' wl ∧ ∃ lf acc : List Nat, H' L = some (.lst (ordV lf)) ∧ H' D = some (.lst (ordV acc)) ∧ (acc ++ lf).Perm (List.range n) ∧ acc.length = i) ?_ (fun _ _ _ _ => trivial) ?_ ?_
    · exact ⟨Same.tr hid_same (Same.tr sL sD), by obtain ⟨x, m, e⟩ := hw1; exact ⟨x, m, sD _ _ e⟩, List.range n, [], sD _ _ hL1, upd_same, by simp, rfl⟩
    · rintro i x _ H2 hi ⟨s2, hw2, lf, acc, hL2, hD2, hpm, hlen⟩ ⟨rfl, rfl⟩
      have hll : lf.length = n - i := by have := hpm.length_eq; simp at this; omega
      refine ⟨rfl, _, rfl, .inl ⟨rfl, _, SqL.of hL2⟩, _, rfl, _, rfl, _, lf.length, rfl, .inl ⟨_, SqL.of hL2, by rw [ordV_len]⟩, wl, _, rfl, hw2, by omega, by omega, fun r H3 s3 hw3 hr => ?_⟩
      have hL3 := s3 _ _ (hid_at hL2 hwL)
      have hD3 := s3 _ _ (hid_at hD2 hwD)
      have hrl : r < lf.length := by omega
      have er : lf[r]? = some lf[r] := List.getElem?_eq_getElem hrl
      refine ⟨L, _, (r : Int), r, _, rfl, rfl, hL3, by omega, by omega, (ixN_seq (ixN_nat (by rw [ordV_len]; exact hrl))).1, ordV_at er, ?_⟩
      have hD4 : (upd H3 L (.lst ((ordV lf).eraseIdx r))) D = some (.lst (ordV acc)) := (upd_ne hDL).trans hD3
      refine ⟨_, hD4, by rw [ordV_len, sizeLine_eq]; omega, ?_, ?_, lf.eraseIdx r, acc ++ [lf[r]], ?_, ?_, ?_, by simp [hlen]⟩
      · exact sameW (sameW (hid_tr s2 s3) hLh) hDh
      · obtain ⟨x, m, e⟩ := hw3
        exact ⟨x, m, (upd_ne hwD.symm).trans ((upd_ne hwL.symm).trans e)⟩
      · rw [upd_ne hDL.symm, upd_same]
        unfold ordV
        rw [DT.map_erase]
      · rw [upd_same]
        simp [ordV]
      · refine List.Perm.trans ?_ hpm
        rw [List.append_assoc]
        exact List.Perm.append_left _ (perm_erase lf r hrl)
    · rintro H2 ⟨s2, hw2, lf, acc, hL2, hD2, hpm, hlen⟩
      have hll : lf = [] := by have := hpm.length_eq; simp at this; exact List.length_eq_zero_iff.mp (by omega)
      subst hll
      rw [List.append_nil] at hpm
      refine ⟨D, _, rfl, SqL.of hD2, fun q ob hob hq => ?_⟩
      have sq := sameUpd (o := .frz ob (.tup (ordV acc))) hq
      refine kont q _ acc (Same.tr s2 sq) (by obtain ⟨x, m, e⟩ := hw2; exact ⟨x, m, sq _ _ e⟩) ⟨ob, hob, upd_same⟩ (hpm.nodup_iff.mpr List.nodup_range) hlen (fun c => by rw [hpm.mem_iff, List.mem_range])
abbrev sLNumbers : Stmt := top 52
theorem scLNumbers : FnScope ["_law_well_here", "_law_many", "_law_by", "_law_k"] ["_law_well_here", "_law_many", "_law_by"] (defScope sLNumbers) := ⟨rfl, rfl, rfl, by decide +kernel, rfl, by decide +kernel, by decide +kernel⟩
theorem ok_LNumbers {f : Addr} {fd : FuncData} (F : Fun K "_law_numbers" "_law_numbers" sLNumbers f fd) (T : NoG mg) (c__law_draw : Cal P w K mg base CX0 1 "_law_draw" ["_law_well_here", "_law_many"] (spLDraw K cW cS)) : FnOk P w K mg base CX0 2 f fd ["_law_well_here", "_law_many", "_law_by"] (spLNumbers K cW cS) := by
  refine F.ok scLNumbers (fun vs H Q E h => ?_) (fun cdv A outer s H vs Q E hr h => ?_)
  · repeat (first | (obtain ⟨rfl, _⟩ := h; rfl) | (obtain ⟨_, h⟩ := h))
  · obtain ⟨wl, n, by', rfl, hw, hn, hb1, hb2, kont⟩ := h
    refine ⟨_, (pss_one (ps_ret (pe_tupleOf (by rfl) T.tuple (pe_lcD (own := [("_law_k", 3)]) rfl scLNumbers.nd (pi_range1 (by rfl) T.range (pa_cons (pv 1) pa_nil)) (blkOk_by (by kernel_rfl)) (fun _ _ _ _ _ => (pg_name (i := 3) scLNumbers.nd rfl (Or.inl rfl))) (fun _ _ _ _ _ => pts_nil) (fun _ _ _ _ _ => (pe_op op_mul (pe_op op_sub (pe_cal c__law_draw (hr.mono (by decide)) pass0 (pa_cons (pv 0) (pa_cons pe_int pa_nil))) pe_int) (pv 2))))))), ?_⟩
    refine ⟨_, rfl, _, rfl, by omega, by omega, fun D hD => ?_⟩
    have hwD : D ≠ wl := fun z => by subst z; obtain ⟨x, m, e⟩ := hw; rw [e] at hD; cases hD
    have sD := sameUpd (o := .lst []) hD
    have hDh : hid wl H D = none := none_same hid_same hD
    refine lc_it (wrn (n := n)) (fun i H' => Same (hid wl H) H' ∧ WellAt H' wl ∧ ∃ zs : List Int, H' D = some (.lst (zs.map V.int)) ∧ zs.length = i ∧ ∀ z ∈ zs, Pm.Amt z) ?_ (fun _ _ _ _ => trivial) ?_ ?_
    · exact ⟨Same.tr hid_same sD, by obtain ⟨x, m, e⟩ := hw; exact ⟨x, m, sD _ _ e⟩, [], upd_same, rfl, by simp⟩
    · rintro i x _ H2 hi ⟨s2, hw2, zs, hD2, hlen, hz⟩ ⟨rfl, rfl⟩
      refine ⟨rfl, _, rfl, wl, 12, rfl, hw2, by decide, by decide, fun r H3 s3 hw3 hr => ?_⟩
      have hD3 := s3 _ _ (hid_at hD2 hwD)
      refine ⟨_, _, rfl, rfl, _, rfl, _, _, rfl, rfl, .inr ⟨by omega, by omega⟩, _, hD3, by rw [List.length_map, sizeLine_eq]; omega, sameW (hid_tr s2 s3) hDh, ?_, zs ++ [((r : Int) - 4) * by'], by rw [upd_same, List.map_append]; rfl, by simp [hlen], fun z hm => ?_⟩
      · obtain ⟨x, m, e⟩ := hw3
        exact ⟨x, m, (upd_ne hwD.symm).trans e⟩
      · rcases List.mem_append.mp hm with h | h
        · exact hz z h
        · rw [List.mem_singleton] at h
          subst h
          have a1 : -4 ≤ (r : Int) - 4 := by omega
          have a2 : (r : Int) - 4 ≤ 7 := by omega
          have b1 : -4 * by' ≤ ((r : Int) - 4) * by' := Int.mul_le_mul_of_nonneg_right a1 (by omega)
          have b2 : ((r : Int) - 4) * by' ≤ 7 * by' := Int.mul_le_mul_of_nonneg_right a2 (by omega)
          exact ⟨by omega, by omega⟩
    · rintro H2 ⟨s2, hw2, zs, hD2, hlen, hz⟩
      refine .inl ⟨D, _, rfl, SqL.of hD2, newT fun q H3 _ s3 h3 => kont q H3 (fun c => zs.getD c 0) (Same.tr s2 s3) (by obtain ⟨x, m, e⟩ := hw2; exact ⟨x, m, s3 _ _ e⟩) (by rw [h3, map_nums, hlen]) fun c hc => ?_⟩
      have : zs[c]? = some (zs.getD c 0) := getD_at (by omega)
      exact hz _ (List.mem_of_getElem? this)
end
end WB


namespace WB
open PySem L2
theorem refs_ints {ps : List Addr} {x n : Int} : ps.map V.ref ≠ [V.int x, V.int n] := by
  cases ps with
  | nil => simp
  | cons p r => simp
theorem WellAt.same {H H' : Hp} {wl : Addr} (s : Same H H') (h : WellAt H wl) : WellAt H' wl := let ⟨x, n, e⟩ := h; ⟨x, n, s _ _ e⟩
theorem WellAt.upd {H : Hp} {wl b : Addr} {o : HO} (h : WellAt H wl) (ne : b ≠ wl) : WellAt (upd H b o) wl := let ⟨x, n, e⟩ := h; ⟨x, n, (upd_ne ne.symm).trans e⟩
theorem well_none {H : Hp} {wl b : Addr} (h : WellAt H wl) (e : H b = none) : b ≠ wl := fun z => by subst z; obtain ⟨x, n, e2⟩ := h; rw [e2] at e; cases e
theorem hidW {H : Hp} {wl b : Addr} {o : HO} (hw : WellAt H wl) (h : H b = some o) (ho : ∀ x n : Int, o ≠ .lst [.int x, .int n]) : hid wl H b = some o := hid_at h (well_ne hw h ho)
theorem lst_refs {ps : List Addr} : ∀ x n : Int, HO.lst (ps.map V.ref) ≠ .lst [.int x, .int n] := fun x n z => refs_ints (HO.lst.inj z)
theorem tup_lst {xs : List V} : ∀ x n : Int, HO.tup xs ≠ .lst [.int x, .int n] := fun x n z => by cases z
theorem OT.hideW {H : Hp} {wl o : Addr} {xs : List V} (hw : WellAt H wl) (h : OT H o xs) : OT (hid wl H) o xs := let ⟨ob, d, e⟩ := h; ⟨ob, d, hidW hw e (fun x n z => by cases z)⟩
theorem BookAt.hideW {H : Hp} {wl p : Addr} {W : Pm.Wd} {b : Nat} (hw : WellAt H wl) (h : BookAt H p W b) : BookAt (hid wl H) p W b := let ⟨o, g, w, h1, h2, h3, h4⟩ := h; ⟨o, g, w, hidW hw h1 tup_lst, h2.hideW hw, hidW hw h3 tup_lst, hidW hw h4 tup_lst⟩
theorem BooksAt.hideW {H : Hp} {wl : Addr} {ps : List Addr} {W : Pm.Wd} (hw : WellAt H wl) (h : BooksAt H ps W) : BooksAt (hid wl H) ps W := ⟨h.1, fun b p e => (h.2 b p e).hideW hw⟩
theorem FeedsAt.hideW {H : Hp} {wl : Addr} {qs : List Addr} {fs : List Pm.Fd} (hw : WellAt H wl) (h : FeedsAt H qs fs) : FeedsAt (hid wl H) qs fs := ⟨h.1, fun i q f e e' => hidW hw (h.2 i q f e e') tup_lst⟩
theorem Told.hideW {H : Hp} {wl la lb : Addr} {W : Pm.Wd} {ps qs : List Addr} {fs : List Pm.Fd} (hw : WellAt H wl) (h : Told H la lb W ps qs fs) : Told (hid wl H) la lb W ps qs fs := ⟨hidW hw h.a lst_refs, hidW hw h.b lst_refs, h.bk.hideW hw, h.pm, h.fd.hideW hw⟩
theorem ToldAt.hideW {H : Hp} {wl a : Addr} {W : Pm.Wd} (hw : WellAt H wl) (h : ToldAt H a W) : ToldAt (hid wl H) a W := let ⟨la, lb, ps, qs, fs, h1, h2⟩ := h; ⟨la, lb, ps, qs, fs, hidW hw h1 tup_lst, h2.hideW hw⟩
theorem RowsAt.hideW {H : Hp} {wl : Addr} {ps : List Addr} {sz : Nat → Nat} {f : Nat → Nat → Int} (hw : WellAt H wl) (h : RowsAt H ps sz f) : RowsAt (hid wl H) ps sz f := fun b p e => hidW hw (h b p e) tup_lst
theorem StAt.hideW {H : Hp} {wl a : Addr} {n : Nat} {sz : Nat → Nat} {f : Nat → Nat → Int} (hw : WellAt H wl) (h : StAt H a n sz f) : StAt (hid wl H) a n sz f := let ⟨ps, h1, h2, h3⟩ := h; ⟨ps, hidW hw h1 tup_lst, h2, h3.hideW hw⟩
theorem KnobAt.hideW {H : Hp} {wl a : Addr} {k : Pm.Knob} (hw : WellAt H wl) (h : KnobAt H a k) : KnobAt (hid wl H) a k := hidW hw h tup_lst
theorem WontAt.hideW {cW : Addr} {H : Hp} {wl p : Addr} {W : Pm.Wd} (hw : WellAt H wl) (h : WontAt cW H p W) : WontAt cW (hid wl H) p W := by
  obtain ⟨ok, dx', tb, tl, d, m, r, ps, rs, gs, mk, h1, h2⟩ := h
  refine ⟨ok, dx', tb, tl, d, m, r, ps, rs, gs, mk, hidW hw h1 (fun x n z => by cases z), hidW hw h2.tb tup_lst, h2.bk.hideW hw, hidW hw h2.tl tup_lst, hidW hw h2.d (fun x n z => by cases z), h2.pm, hidW hw h2.m (fun x n z => by cases z), fun b c hb hc => ?_, hidW hw h2.r lst_refs, ⟨h2.rk.1, fun b q e => ?_⟩⟩
  · obtain ⟨l, ts, x1, x2, x3, x4⟩ := h2.mv b c hb hc
    exact ⟨l, ts, x1, hidW hw x2 lst_refs, x3, x4.hideW hw⟩
  · obtain ⟨kvs, x1, x2⟩ := h2.rk.2 b q e
    exact ⟨kvs, hidW hw x1 (fun x n z => by cases z), x2⟩
def spLStand (K : PySem.W.Frag) (cW cS : Addr) : Sp := fun vs H Q _ => ∃ (wl ta : Addr) (W : Pm.Wd), vs = [.ref wl, .ref ta] ∧ WellAt H wl ∧ W.Ok ∧ ToldAt (hid wl H) ta W ∧ ∀ r H' st, Same (hid wl H) H' → WellAt H' wl → StAt H' r W.nb W.sz st → Q (.ref r) H'
def spLKnob (K : PySem.W.Frag) (cW cS : Addr) : Sp := fun vs H Q _ => ∃ (wl ta : Addr) (W : Pm.Wd), vs = [.ref wl, .ref ta] ∧ WellAt H wl ∧ W.Ok ∧ ToldAt (hid wl H) ta W ∧ ∀ kk H' k, Same (hid wl H) H' → WellAt H' wl → KnobAt H' kk k → k.ok W → Q (.ref kk) H'
/-- pairs of book and choice, as a list of tuples -/
abbrev Ky := Addr × Nat × Nat
def KysAt (H : Hp) (ks : List Ky) : Prop := ∀ z ∈ ks, H z.1 = some (.tup [.int (z.2.1 : Nat), .int (z.2.2 : Nat)])
theorem KysAt.same {H H' : Hp} {ks : List Ky} (s : Same H H') (h : KysAt H ks) : KysAt H' ks := fun z hz => s _ _ (h z hz)
def kyR (ks : List Ky) : List V := ks.map fun z => V.ref z.1
theorem kyR_refs (ks : List Ky) : kyR ks = (ks.map (·.1)).map V.ref := by rw [List.map_map]; rfl
/-- all the pairs of the first n books -/
def prs (sz : Nat → Nat) (n : Nat) : List (Nat × Nat) := (List.range n).flatMap fun b => (List.range (sz b)).map fun c => (b, c)
theorem prs_succ (sz : Nat → Nat) (n : Nat) : prs sz (n + 1) = prs sz n ++ (List.range (sz n)).map fun c => (n, c) := by
  unfold prs
  rw [List.range_succ, List.flatMap_append]
  simp only [List.flatMap_cons, List.flatMap_nil, List.append_nil]
theorem mem_prs {sz : Nat → Nat} {n : Nat} {z : Nat × Nat} : z ∈ prs sz n ↔ z.1 < n ∧ z.2 < sz z.1 := by
  unfold prs
  simp only [List.mem_flatMap, List.mem_range, List.mem_map]
  constructor
  · rintro ⟨b, hb, c, hc, rfl⟩; exact ⟨hb, hc⟩
  · rintro ⟨h1, h2⟩; exact ⟨z.1, h1, z.2, h2, rfl⟩
theorem prs_nodup (sz : Nat → Nat) : ∀ n, (prs sz n).Nodup
  | 0 => List.nodup_nil
  | n + 1 => by
    rw [prs_succ, List.nodup_append]
    refine ⟨prs_nodup sz n, ?_, fun a ha b hb => ?_⟩
    · rw [List.nodup_iff_pairwise_ne, List.pairwise_map]
      exact (List.nodup_iff_pairwise_ne.mp List.nodup_range).imp fun h e => h (by simpa using e)
    · have h1 := (mem_prs.mp ha).1
      obtain ⟨c, _, rfl⟩ := List.mem_map.mp hb
      intro z
      rw [z] at h1
      exact absurd h1 (Nat.lt_irrefl _)
theorem prs_len (sz : Nat → Nat) : ∀ n, (∀ b, b < n → 0 < sz b ∧ sz b ≤ 5) → n ≤ (prs sz n).length ∧ (prs sz n).length ≤ 5 * n
  | 0, _ => ⟨Nat.le_refl _, Nat.le_refl _⟩
  | n + 1, h => by
    have ih := prs_len sz n fun b hb => h b (by omega)
    have h2 := h n (by omega)
    rw [prs_succ, List.length_append, List.length_map, List.length_range]
    omega
section
variable {P : Program} {w : World} {K : PySem.W.Frag} {mg : Str → Option Value} {base : Heap} {cW cS dW : Addr} {xs : Exs}
abbrev sLStand : Stmt := top 54
theorem scLStand : FnScope ["_law_well_here", "_law_told_here", "_law_wide", "_law_found", "_law_order_here", "_law_gains", "_law_wanes", "_law_pick"] ["_law_well_here", "_law_told_here"] (defScope sLStand) := ⟨rfl, rfl, rfl, by decide +kernel, rfl, by decide +kernel, by decide +kernel⟩
theorem ok_LStand {f : Addr} {fd : FuncData} (F : Fun K "_law_stand" "_law_stand" sLStand f fd) (T : NoG mg) (c__law_one : Cal P w K mg base CX0 2 "_law_one" ["_law_well_here", "_law_some"] (spLOne K cW cS)) (c__law_draw : Cal P w K mg base CX0 1 "_law_draw" ["_law_well_here", "_law_many"] (spLDraw K cW cS)) : FnOk P w K mg base CX0 3 f fd ["_law_well_here", "_law_told_here"] (spLStand K cW cS) := by
  refine F.ok scLStand (fun vs H Q E h => ?_) (fun cdv A outer s H vs Q E hr h => ?_)
  · repeat (first | (obtain ⟨rfl, _⟩ := h; rfl) | (obtain ⟨_, h⟩ := h))
  · obtain ⟨wl, ta, W, rfl, hw, ok, ⟨la, lb, ps, qs, fs, hta, td⟩, kont⟩ := h
    refine ⟨_, (pss_cons (ps_set (i := 2) scLStand.nd rfl (Or.inr rfl) (pe_cal c__law_one (hr.mono (by decide)) pass0 (pa_cons (pv 0) (pa_cons (pe_lst (pa_cons pe_int (pa_cons pe_int (pa_cons pe_int (pa_cons pe_int (pa_cons pe_int (pa_cons (pe_op op_pow pe_int pe_int) pa_nil))))))) pa_nil))))
      (pss_cons (ps_set (i := 3) scLStand.nd rfl (Or.inl rfl) (pe_lst pa_nil))
      (pss_cons (ps_for PassesOwn.never rfl (pi_list (pe_ix ix_tup (pv 1) pe_int (fun _ _ => rfl))) (pg_tup (n := 3) rfl (pgs_cons (pg_name (i := 4) scLStand.nd rfl (Or.inl rfl)) (pgs_cons (pg_name (i := 5) scLStand.nd rfl (Or.inl rfl)) (pgs_cons (pg_name (i := 6) scLStand.nd rfl (Or.inl rfl)) pgs_nil))))
        (pss_one (ps_expr (pe_bm PySem.F.plainAttrs_list PySem.F.slot_list_append PySem.F.type_list_append mt_append (pv 3) (pa_cons (pe_tupleOf (by rfl) T.tuple (pe_lcD (own := [("_law_pick", 7)]) rfl scLStand.nd (pi_tup (pv 4)) (blkOk_by (by kernel_rfl)) (fun _ _ _ _ _ => (pg_name (i := 7) scLStand.nd rfl (Or.inl rfl))) (fun _ _ _ _ _ => pts_nil) (fun _ _ _ _ _ => (pe_op op_sub (pe_cal c__law_draw (hr.mono (by decide)) pass0 (pa_cons (pv 0) (pa_cons (pv 2) pa_nil))) (pe_op op_fdiv (pv 2) pe_int))))) pa_nil)))))
      (pss_one (ps_ret (pe_tupleOf (by rfl) T.tuple (pv 3))))))), ?_⟩
    have n4 := ok.n4
    have p9 : (10 : Int) ^ (9 : Int).toNat = 1000000000 := by decide
    refine ⟨_, rfl, _, _, rfl, rfl, ⟨by decide, by decide, by decide⟩, big1000 (by simp), fun l hl => ?_⟩
    have sl := sameUpd (o := .lst [.int 1, .int 4, .int 30, .int 30, .int 1000, .int (10 ^ (9 : Int).toNat)]) hl
    refine ⟨wl, l, _, rfl, hw.same sl, upd_same, well_none hw hl, by simp, by simp, fun y H1 s1 hw1 hy => ?_⟩
    have hwide : ∃ wide : Int, y = .int wide ∧ 1 ≤ wide ∧ wide ≤ 1000000000 := by
      dsimp only at hy
      rw [p9] at hy
      simp only [List.mem_cons, List.not_mem_nil, or_false] at hy
      rcases hy with h | h | h | h | h | h <;> exact ⟨_, h, by decide, by decide⟩
    obtain ⟨wide, rfl, hwd1, hwd2⟩ := hwide
    have g1 : Same (hid wl H) H1 := fun b o e => s1 _ _ (hid_at (sl _ _ (hid_same _ _ e)) (ne_of_none e hid_none))
    refine ⟨big1000 (by simp), fun F hF => ?_⟩
    have sF := sameUpd (o := .lst []) hF
    have hwF := well_none hw1 hF
    have hFn : hid wl H F = none := none_same g1 hF
    refine ⟨_, rfl, _, _, _, _, rfl, rfl, SqT.of ((Same.tr g1 sF) _ _ hta), rfl, la, rfl, ⟨_, SqL.of ((Same.tr g1 sF) _ _ td.a)⟩, ?_⟩
    refine for_it (walk_list (xs := ps.map V.ref)) (fun i σ H' => Same (hid wl H) H' ∧ WellAt H' wl ∧ (∃ (ss : List Addr) (st : Nat → Nat → Int), H' F = some (.lst (ss.map V.ref)) ∧ ss.length = i ∧ RowsAt H' ss W.sz st) ∧ ∃ x4 x5 x6 x7, σ = [some (.ref wl), some (.ref ta), some (.int wide), some (.ref F), x4, x5, x6, x7]) ?_ ?_ ?_ ?_
    · exact ⟨Same.tr g1 sF, hw1.same sF, ⟨[], fun _ _ => 0, upd_same, rfl, fun b p e => by simp at e⟩, _, _, _, _, rfl⟩
    · rintro i σ H' _ ⟨s', _⟩; exact SqL.of (s' _ _ td.a)
    · rintro i x σ _ H2 hin ⟨g2, hw2, ⟨ss, st, hF2, hsl, hss⟩, x4, x5, x6, x7, rfl⟩ ⟨rfl, hx⟩
      obtain ⟨p, hp, rfl⟩ := refs_get hx
      have hib : i < W.nb := by have := get_lt hp; have := td.bk.1; omega
      obtain ⟨o, g, ww, b1, b2, b3, b4⟩ := (td.bk.2 i p hp).same g2
      have hln := ok.ln i hib
      have h5 := ok.s5 i hib
      refine ⟨p, _, rfl, SqT.of b1, rfl, _, _, rfl, _, _, rfl, _, _, rfl, rfl, _, rfl, .inl ⟨rfl, _, SqL.of hF2⟩, _, rfl, o, rfl, ⟨_, b2.sq⟩, fun D hD => ?_⟩
      have sD := sameUpd (o := .lst []) hD
      have hwD := well_none hw2 hD
      have hDF : D ≠ F := (ne_of_none hF2 hD).symm
      have hDn : hid wl H D = none := none_same g2 hD
      have lno : (ordV (W.ord i)).length = W.sz i := by rw [ordV_len, hln]
      refine lc_it (walk_tup (xs := ordV (W.ord i))) (fun j H' => Same (hid wl H2) H' ∧ WellAt H' wl ∧ ∃ zs : List Int, H' D = some (.lst (zs.map V.int)) ∧ zs.length = j) ?_ ?_ ?_ ?_
      · exact ⟨Same.tr hid_same sD, hw2.same sD, [], upd_same, rfl⟩
      · rintro j H' _ ⟨s', _⟩; exact ((b2.hideW hw2).same s').sq
      · rintro j x _ H3 hj ⟨s3, hw3, zs, hD3, hzl⟩ ⟨rfl, hx3⟩
        refine ⟨rfl, _, rfl, _, rfl, wl, wide, rfl, hw3, by omega, hwd2, fun r H4 s4 hw4 hr => ?_⟩
        have hD4 := s4 _ _ (hid_at hD3 hwD)
        have hDn2 : hid wl H2 D = none := none_same hid_same hD
        exact ⟨_, rfl, _, _, rfl, rfl, ⟨by decide, by decide⟩, _, _, rfl, rfl, _, hD4, by rw [List.length_map, hzl, sizeLine_eq]; omega, sameW (hid_tr s3 s4) hDn2, hw4.upd hwD, zs ++ [_], by rw [upd_same, List.map_append]; rfl, by simp [hzl]⟩
      · rintro H3 ⟨s3, hw3, zs, hD3, hzl⟩
        rw [lno] at hzl
        refine .inl ⟨D, _, rfl, SqL.of hD3, fun q hq => ?_⟩
        have sq := sameUpd (o := .tup (zs.map V.int)) hq
        have hF3 := sq _ _ (s3 _ _ (hid_at hF2 hwF))
        have hil : i < 10 := by omega
        refine ⟨F, _, _, rfl, rfl, hF3, by rw [List.length_map, hsl, sizeLine_eq]; omega, ?_⟩
        have hk : ∀ b xs, (upd H3 q (.tup (zs.map V.int))) b = some (.tup xs) → (upd (upd H3 q (.tup (zs.map V.int))) F (.lst (ss.map V.ref ++ [.ref q]))) b = some (.tup xs) := fun b xs e => (upd_ne (ne_of e hF3 (by simp))).trans e
        refine ⟨sameW (Same.tr (hid_tr g2 s3) sq) hFn, (hw3.same sq).upd hwF, ⟨ss ++ [q], fun b => if b = i then fun c => zs.getD c 0 else st b, by rw [upd_same, List.map_append]; rfl, by simp [hsl], fun b p' e => ?_⟩, _, _, _, _, rfl⟩
        by_cases hb : b < ss.length
        · rw [List.getElem?_append_left hb] at e
          rw [hk _ _ (sq _ _ (s3 _ _ (hidW hw2 (hss b p' e) tup_lst)))]
          dsimp only
          rw [if_neg (by omega)]
        · have : b = i := by have := get_lt e; simp at this; omega
          subst this
          rw [List.getElem?_append_right (by omega)] at e
          simp [hsl] at e
          subst e
          rw [hk _ _ upd_same]
          dsimp only
          rw [if_pos rfl, map_nums, hzl]
    · rintro σ H2 ⟨g2, hw2, ⟨ss, st, hF2, hsl, hss⟩, x4, x5, x6, x7, rfl⟩
      refine ⟨_, rfl, .inl ⟨F, _, rfl, SqL.of hF2, newT fun r H3 _ s3 h3 => kont r H3 st (Same.tr g2 s3) (hw2.same s3) ⟨ss, h3, ?_, hss.same s3⟩⟩⟩
      rw [hsl, List.length_map, td.bk.1]
abbrev sLKnob : Stmt := top 59
theorem scLKnob : FnScope ["_law_well_here", "_law_told_here", "_law_keys", "_law_shelf", "_law_row", "_law_pick", "_law_one_here", "_law_other", "_law_word"] ["_law_well_here", "_law_told_here"] (defScope sLKnob) := ⟨rfl, rfl, rfl, by decide +kernel, rfl, by decide +kernel, by decide +kernel⟩
theorem ok_LKnob {f : Addr} {fd : FuncData} (F : Fun K "_law_knob" "_law_knob" sLKnob f fd) (T : NoG mg) (c__law_one : Cal P w K mg base CX0 2 "_law_one" ["_law_well_here", "_law_some"] (spLOne K cW cS)) : FnOk P w K mg base CX0 3 f fd ["_law_well_here", "_law_told_here"] (spLKnob K cW cS) := by
  refine F.ok scLKnob (fun vs H Q E h => ?_) (fun cdv A outer s H vs Q E hr h => ?_)
  · repeat (first | (obtain ⟨rfl, _⟩ := h; rfl) | (obtain ⟨_, h⟩ := h))
  · obtain ⟨wl, ta, W, rfl, hw, ok, ⟨la, lb, ps, qs, fs, hta, td⟩, kont⟩ := h
    refine ⟨_, (pss_cons (ps_set (i := 2) scLKnob.nd rfl (Or.inl rfl) (pe_lst pa_nil))
      (pss_cons (ps_for PassesOwn.never rfl (pi_enumM (by rfl) T.enumerate (pa_cons (pe_ix ix_tup (pv 1) pe_int (fun _ _ => rfl)) pa_nil)) (pg_tup (n := 2) rfl (pgs_cons (pg_name (i := 3) scLKnob.nd rfl (Or.inr rfl)) (pgs_cons (pg_name (i := 4) scLKnob.nd rfl (Or.inl rfl)) pgs_nil)))
        (pss_one (ps_expr (pe_bm PySem.F.plainAttrs_list PySem.F.slot_list_extend PySem.F.type_list_extend mt_extend (pv 2) (pa_cons (pe_lcD (own := [("_law_pick", 5)]) rfl scLKnob.nd (pi_range1 (by rfl) T.range (pa_cons (pe_callB call_len (by rfl) T.len PySem.boot_len (pa_cons (pe_ix ix_tup (pv 4) pe_int (fun _ _ => rfl)) pa_nil)) pa_nil)) (blkOk_by (by kernel_rfl)) (fun _ _ _ _ _ => (pg_name (i := 5) scLKnob.nd rfl (Or.inl rfl))) (fun _ _ _ _ _ => pts_nil) (fun _ _ _ _ _ => (pe_tup (pa_cons (pv 3) (pa_cons (pv 5) pa_nil))))) pa_nil)))))
      (pss_cons (ps_set (i := 6) scLKnob.nd rfl (Or.inl rfl) (pe_cal c__law_one (hr.mono (by decide)) pass0 (pa_cons (pv 0) (pa_cons (pv 2) pa_nil))))
      (pss_cons (ps_set (i := 7) scLKnob.nd rfl (Or.inl rfl) (pe_cal c__law_one (hr.mono (by decide)) pass0 (pa_cons (pv 0) (pa_cons (pv 2) pa_nil))))
      (pss_cons (ps_set (i := 8) scLKnob.nd rfl (Or.inl rfl) (pe_cal c__law_one (hr.mono (by decide)) pass0 (pa_cons (pv 0) (pa_cons (pe_lst (pa_cons pe_str (pa_cons pe_str (pa_cons pe_str (pa_cons pe_str (pa_cons pe_str pa_nil)))))) pa_nil))))
      (pss_cons (ps_if (PW.pt (pw_and (pt_cmpR op_eq (pv 8) pe_str (nomark _)) (pw_and1 (pt_cmpR (op_neD hr.units) (pv 6) (pv 7) (nomark _))))) (pss_one (ps_ret (pe_op op_catA (pe_op op_catA (pe_tup (pa_cons pe_str pa_nil)) (pv 6)) (pv 7)))) pss_nil)
      (pss_one (ps_ret (pe_op op_catA (pe_tup (pa_cons (pe_ix ix_list (pe_lst (pa_cons pe_str (pa_cons (pv 8) pa_nil))) (pe_callTy call_int1 (by rfl) T.int (by decide +kernel) (pa_cons (pe_cmpR op_ne (pv 8) pe_str (nomark _)) pa_nil)) (fun _ _ => rfl)) pa_nil)) (pv 6)))))))))), ?_⟩
    have n4 := ok.n4
    have n1 := ok.n1
    refine ⟨big1000 (by simp), fun L hL => ?_⟩
    have sL := sameUpd (o := .lst []) hL
    have hwL := well_none hw hL
    have hLn : hid wl H L = none := none_same hid_same hL
    have g0 : Same (hid wl H) (upd H L (.lst [])) := Same.tr hid_same sL
    refine ⟨_, rfl, _, _, _, _, rfl, rfl, SqT.of (g0 _ _ hta), rfl, false, la, _, rfl, SqL.of (g0 _ _ td.a), ?_⟩
    refine for_it (walk_enumM (xs := ps.map V.ref)) (fun i σ H' => Same (hid wl H) H' ∧ WellAt H' wl ∧ (∃ ks : List Ky, H' L = some (.lst (kyR ks)) ∧ ks.map (·.2) = prs W.sz i ∧ KysAt H' ks) ∧ ∃ x3 x4 x5 x6 x7 x8, σ = [some (.ref wl), some (.ref ta), some (.ref L), x3, x4, x5, x6, x7, x8]) ?_ ?_ ?_ ?_
    · exact ⟨g0, hw.same sL, ⟨[], upd_same, rfl, fun z hz => by simp at hz⟩, _, _, _, _, _, _, rfl⟩
    · rintro i σ H' _ ⟨s', _⟩; exact SqL.of (s' _ _ td.a)
    · rintro i x σ H1 H2 hin ⟨g1, hw1, ⟨ks, hL1, hks, hka⟩, x3, x4, x5, x6, x7, x8, rfl⟩ ⟨T', y1, y2, rfl, hT, rfl, e1, e2⟩
      cases e1
      obtain ⟨p, hp, rfl⟩ := refs_get e2
      have hib : i < W.nb := by have := get_lt hp; have := td.bk.1; omega
      have s2 : Same H1 (upd H1 T' (.tup [.int (i : Nat), .ref p])) := sameUpd hT
      have hw2 := hw1.same s2
      have g2 := Same.tr g1 s2
      have hL2 := s2 _ _ hL1
      have hka2 := hka.same s2
      obtain ⟨o, g, ww, b1, b2, b3, b4⟩ := (td.bk.2 i p hp).same g2
      have h5 := ok.s5 i hib
      have hln := ok.ln i hib
      refine ⟨T', _, rfl, SqT.of upd_same, rfl, _, _, rfl, _, _, rfl, rfl, ?_⟩
      generalize (upd H1 T' (.tup [.int (i : Nat), .ref p])) = H2 at s2 hw2 g2 hL2 hka2 b1 b2 b3 b4
      refine ⟨_, rfl, .inl ⟨rfl, _, SqL.of hL2⟩, _, rfl, _, _, _, _, rfl, rfl, SqT.of b1, rfl, _, W.sz i, rfl, .inr ⟨_, b2.sq, by rw [ordV_len, hln]⟩, _, rfl, by omega, by omega, fun D hD => ?_⟩
      refine lc_col wrn hD (by omega) (fun c y H => ∃ q, y = .ref q ∧ q ≠ D ∧ H q = some (.tup [.int (i : Nat), .int (c : Nat)])) (fun c y H H' hk ⟨q, e, ne, hq⟩ => ⟨q, e, ne, hk _ _ hq ne⟩) (fun _ _ => trivial) ?_ ?_
      · rintro c x _ H3 K3 hc s3 ⟨acc, hacc⟩ ⟨rfl, rfl⟩ hK
        exact ⟨rfl, _, rfl, _, rfl, big1000 (by simp), fun q hq => hK _ _ (sameUpd hq) ⟨q, rfl, (ne_of_none hacc hq).symm, upd_same⟩⟩
      · rintro H4 ys s4 hy hl4 hr4
        obtain ⟨rs, rfl, hrs⟩ := refs_of hr4
        have hrl : rs.length = W.sz i := by simpa using hl4
        have hL4 := s4 _ _ hL2
        have hpl := prs_len W.sz i fun b hb => ⟨ok.s1 b (by omega), ok.s5 b (by omega)⟩
        have hkl : ks.length = (prs W.sz i).length := by rw [← hks, List.length_map]
        refine ⟨L, D, kyR ks, _, rfl, rfl, hL4, hy, by unfold kyR; rw [List.length_map, List.length_map, hrl, sizeLine_eq]; omega, ?_⟩
        have hk : ∀ b xs, H4 b = some (.tup xs) → (upd H4 L (.lst (kyR ks ++ rs.map V.ref))) b = some (.tup xs) := fun b xs e => (upd_ne (ne_of e hL4 (by simp))).trans e
        refine ⟨sameW (Same.tr g2 s4) hLn, (hw2.same s4).upd hwL, ⟨ks ++ (rs.zip (List.range (W.sz i))).map fun z => (z.1, i, z.2), ?_, ?_, fun z hz => ?_⟩, _, _, _, _, _, _, rfl⟩
        · rw [upd_same]
          refine congrArg (fun l => some (HO.lst l)) ?_
          unfold kyR
          rw [List.map_append, List.map_map]
          congr 1
          have : (rs.zip (List.range (W.sz i))).map (fun z => z.1) = rs := List.map_fst_zip (by simp [hrl])
          conv => lhs; rw [← this]
          rw [List.map_map]; rfl
        · rw [List.map_append, hks, prs_succ, List.map_map]
          congr 1
          have : (rs.zip (List.range (W.sz i))).map (fun z => z.2) = List.range (W.sz i) := List.map_snd_zip (by simp [hrl])
          conv => rhs; rw [← this]
          rw [List.map_map]; rfl
        · rcases List.mem_append.mp hz with h | h
          · exact hk _ _ (s4 _ _ (hka2 z h))
          · obtain ⟨u, hu, rfl⟩ := List.mem_map.mp h
            obtain ⟨c, hcz⟩ := List.getElem?_of_mem hu
            obtain ⟨a1, a2⟩ := List.getElem?_zip_eq_some.mp hcz
            have hc : u.2 = c := by
              have := (List.getElem?_eq_some_iff.mp a2).2
              rw [List.getElem_range] at this
              exact this.symm
            have := (hrs c u.1 a1).2
            rw [hc]
            exact hk _ _ this
    · rintro σ H1 ⟨g1, hw1, ⟨ks, hL1, hks, hka⟩, x3, x4, x5, x6, x7, x8, rfl⟩
      rw [List.length_map, td.bk.1] at hks
      have hpl := prs_len W.sz W.nb fun b hb => ⟨ok.s1 b hb, ok.s5 b hb⟩
      have hkl : (kyR ks).length = (prs W.sz W.nb).length := by unfold kyR; rw [List.length_map, ← hks, List.length_map]
      have key : ∀ (y : V), y ∈ kyR ks → ∃ z ∈ ks, y = .ref z.1 ∧ z.2.1 < W.nb ∧ z.2.2 < W.sz z.2.1 := fun y hy => by
        obtain ⟨z, hz, rfl⟩ := List.mem_map.mp hy
        have : z.2 ∈ prs W.sz W.nb := by rw [← hks]; exact List.mem_map.mpr ⟨z, hz, rfl⟩
        exact ⟨z, hz, rfl, (mem_prs.mp this).1, (mem_prs.mp this).2⟩
      refine ⟨_, rfl, _, rfl, wl, L, _, rfl, hw1, hL1, hwL, by omega, by omega, fun y1 H2 s2 hw2 hy1 => ?_⟩
      obtain ⟨z1, hz1, rfl, z1b, z1c⟩ := key y1 hy1
      have hL2 := s2 _ _ (hid_at hL1 hwL)
      refine ⟨_, rfl, _, rfl, wl, L, _, rfl, hw2, hL2, hwL, by omega, by omega, fun y2 H3 s3 hw3 hy2 => ?_⟩
      obtain ⟨z2, hz2, rfl, z2b, z2c⟩ := key y2 hy2
      have g3 := hid_tr (hid_tr g1 s2) s3
      refine ⟨_, rfl, big1000 (by simp), fun l hl => ?_⟩
      have sl := sameUpd (o := .lst [.str "strength", .str "strength", .str "gain", .str "wane", .str "feed"]) hl
      refine ⟨wl, l, _, rfl, hw3.same sl, upd_same, well_none hw3 hl, by simp, by simp, fun y3 H4 s4 hw4 hy3 => ?_⟩
      have g4 : Same (hid wl H3) H4 := fun b o e => s4 _ _ (hid_at (sl _ _ (hid_same _ _ e)) (ne_of_none e hid_none))
      have gE := hid_tr g3 g4
      have up : ∀ b xs, H1 b = some (.tup xs) → H4 b = some (.tup xs) := fun b xs e => g4 _ _ (hidW hw3 (s3 _ _ (hidW hw2 (s2 _ _ (hidW hw1 e tup_lst)) tup_lst)) tup_lst)
      have k1 := up _ _ (hka z1 hz1)
      have k2 := up _ _ (hka z2 hz2)
      -- a knob of three
      have three : ∀ (wd : Str) (H5 : Hp) (t5 : Addr), Same H4 H5 → H5 t5 = some (.tup [.str wd]) → (wd = "strength" ∨ wd = "gain" ∨ wd = "wane") → ∀ r H', Same H5 H' → H' r = some (.tup ([.str wd] ++ [.int (z1.2.1 : Nat), .int (z1.2.2 : Nat)])) → Q (.ref r) H' := fun wd H5 t5 s5 h5 hwd r H' s' h' => by
        have sE := Same.tr gE (Same.tr s5 s')
        have hwE := hw4.same (Same.tr s5 s')
        rcases hwd with rfl | rfl | rfl
        · exact kont r H' (.str z1.2.1 z1.2.2) sE hwE h' ⟨z1b, z1c⟩
        · exact kont r H' (.gain z1.2.1 z1.2.2) sE hwE h' ⟨z1b, z1c⟩
        · exact kont r H' (.wane z1.2.1 z1.2.2) sE hwE h' ⟨z1b, z1c⟩
      simp only [List.mem_cons, List.not_mem_nil, or_false] at hy3
      have hy4 : (y3 = .str "feed") ∨ ∃ wd : Str, y3 = .str wd ∧ wd ≠ "feed" ∧ (wd = "strength" ∨ wd = "gain" ∨ wd = "wane") := by
        rcases hy3 with h | h | h | h | h
        · exact .inr ⟨_, h, by decide, .inl rfl⟩
        · exact .inr ⟨_, h, by decide, .inl rfl⟩
        · exact .inr ⟨_, h, by decide, .inr (.inl rfl)⟩
        · exact .inr ⟨_, h, by decide, .inr (.inr rfl)⟩
        · exact .inl h
      rcases hy4 with rfl | ⟨wd, rfl, hne, hwd⟩
      · refine ⟨_, rfl, rfl, _, rfl, ?_⟩
        rw [strT]
        refine iteT ⟨_, rfl, _, rfl, tI [(z1.2.1 : Nat), (z1.2.2 : Nat)], tI [(z2.2.1 : Nat), (z2.2.2 : Nat)], dp_ints (SqT.of k1), dp_ints (SqT.of k2), tI_shaped _, tI_shaped _, _, rfl, ?_⟩
        rw [tI_eqv]
        by_cases hz : z1.2 = z2.2
        · rw [decide_eq_true (by rw [hz])]
          refine iteF ⟨_, rfl, big1000 (by simp), fun l6 hl6 => ?_⟩
          have s6 := sameUpd (o := .lst [.str "strength", .str "feed"]) hl6
          refine ⟨_, rfl, rfl, .inr ⟨_, rfl, ?_⟩⟩
          rw [strT]
          refine ⟨l6, _, _, .str "strength", rfl, rfl, SqL.of upd_same, rfl, big1000 (by simp), fun t7 ht7 => ?_⟩
          have s7 := sameUpd (o := .tup [.str "strength"]) ht7
          refine ⟨_, rfl, cat_ok upd_same (s7 _ _ (s6 _ _ k1)) (by simp) fun r H' s' h' => three _ _ t7 (Same.tr s6 s7) upd_same (.inl rfl) r H' s' h'⟩
        · rw [decide_eq_false (fun e => hz (by simp at e; exact Prod.ext (by omega) (by omega)))]
          refine iteT ⟨big1000 (by simp), fun t7 ht7 => ?_⟩
          have s7 := sameUpd (o := .tup [.str "feed"]) ht7
          refine ⟨_, rfl, cat_ok upd_same (s7 _ _ k1) (by simp) fun r8 H8 s8 h8 => ?_⟩
          refine ⟨_, rfl, cat_ok h8 (s8 _ _ (s7 _ _ k2)) (by simp) fun r9 H9 s9 h9 => ?_⟩
          have s49 := Same.tr s7 (Same.tr s8 s9)
          exact kont r9 H9 (.feed z1.2.1 z1.2.2 z2.2.1 z2.2.2) (Same.tr gE s49) (hw4.same s49) h9 ⟨z1b, z1c, z2b, z2c, hz⟩
      · refine ⟨_, rfl, rfl, _, rfl, ?_⟩
        rw [strF hne]
        refine iteF (iteF ⟨_, rfl, big1000 (by simp), fun l6 hl6 => ?_⟩)
        have s6 := sameUpd (o := .lst [.str "strength", .str wd]) hl6
        refine ⟨_, rfl, rfl, .inr ⟨_, rfl, ?_⟩⟩
        rw [strF hne]
        refine ⟨l6, _, _, .str wd, rfl, rfl, SqL.of upd_same, rfl, big1000 (by simp), fun t7 ht7 => ?_⟩
        have s7 := sameUpd (o := .tup [.str wd]) ht7
        refine ⟨_, rfl, cat_ok upd_same (s7 _ _ (s6 _ _ k1)) (by simp) fun r H' s' h' => three _ _ t7 (Same.tr s6 s7) upd_same hwd r H' s' h'⟩
end
end WB


namespace WB
open PySem L2
def spLTold (K : PySem.W.Frag) (cW cS : Addr) : Sp := fun vs H Q _ => ∃ (wl : Addr), vs = [.ref wl, .int 3] ∧ WellAt H wl ∧ ∀ ta H' W la lb ps qs fs, Same (hid wl H) H' → WellAt H' wl → W.Ok → H' ta = some (.tup [.ref la, .ref lb]) → Told H' la lb W ps qs fs → Q (.ref ta) H'
def BookL (H : Hp) (p : Addr) (n : Nat) (l : List Nat) (gf wf : Nat → Int) : Prop := ∃ o g w, H p = some (.tup [.ref o, .ref g, .ref w]) ∧ OT H o (ordV l) ∧ H g = some (.tup (nums n gf)) ∧ H w = some (.tup (nums n wf))
theorem BookL.same {H H' : Hp} {p : Addr} {n : Nat} {l : List Nat} {gf wf : Nat → Int} (s : Same H H') (h : BookL H p n l gf wf) : BookL H' p n l gf wf := let ⟨o, g, w, h1, h2, h3, h4⟩ := h; ⟨o, g, w, s _ _ h1, h2.same s, s _ _ h3, s _ _ h4⟩
theorem BookL.hideW {H : Hp} {wl p : Addr} {n : Nat} {l : List Nat} {gf wf : Nat → Int} (hw : WellAt H wl) (h : BookL H p n l gf wf) : BookL (hid wl H) p n l gf wf := let ⟨o, g, w, h1, h2, h3, h4⟩ := h; ⟨o, g, w, hidW hw h1 tup_lst, h2.hideW hw, hidW hw h3 tup_lst, hidW hw h4 tup_lst⟩
theorem BookL.kd {H : Hp} {p b : Addr} {n : Nat} {l : List Nat} {gf wf : Nat → Int} {xs : List V} {o' : HO} (hb : H b = some (.lst xs)) (h : BookL H p n l gf wf) : BookL (upd H b o') p n l gf wf := by
  obtain ⟨o, g, w, h1, ⟨ob, d, h2⟩, h3, h4⟩ := h
  have k : ∀ a u, H a = some u → u ≠ .lst xs → (upd H b o') a = some u := fun a u e ne => (upd_ne (ne_of e hb ne)).trans e
  exact ⟨o, g, w, k _ _ h1 (by simp), ⟨ob, d, k _ _ h2 (by simp)⟩, k _ _ h3 (by simp), k _ _ h4 (by simp)⟩
structure GoodB (n : Nat) (l : List Nat) (gf wf : Nat → Int) : Prop where
  nd : l.Nodup
  ln : l.length = n
  mem : ∀ c, c ∈ l ↔ c < n
  g : ∀ c, c < n → Pm.Amt (gf c)
  w : ∀ c, c < n → Pm.Amt (wf c)
theorem KysAt.hideW {H : Hp} {wl : Addr} {ks : List Ky} (hw : WellAt H wl) (h : KysAt H ks) : KysAt (hid wl H) ks := fun z hz => hidW hw (h z hz) tup_lst
section
variable {P : Program} {w : World} {K : PySem.W.Frag} {mg : Str → Option Value} {base : Heap} {cW cS dW : Addr} {xs : Exs}
abbrev sLTold : Stmt := top 53
theorem scLTold : FnScope ["_law_well_here", "_law_most", "_law_sizes", "_law_k", "_law_by", "_law_books", "_law_many", "_law_keys", "_law_shelf", "_law_pick", "_law_thin", "_law_feeds", "_law_one_here", "_law_other"] ["_law_well_here", "_law_most"] (defScope sLTold) := ⟨rfl, rfl, rfl, by decide +kernel, rfl, by decide +kernel, by decide +kernel⟩
theorem ok_LTold {f : Addr} {fd : FuncData} (F : Fun K "_law_told" "_law_told" sLTold f fd) (T : NoG mg) (c__law_one : Cal P w K mg base CX0 2 "_law_one" ["_law_well_here", "_law_some"] (spLOne K cW cS)) (c__law_order : Cal P w K mg base CX0 2 "_law_order" ["_law_well_here", "_law_many"] (spLOrder K cW cS)) (c__law_numbers : Cal P w K mg base CX0 2 "_law_numbers" ["_law_well_here", "_law_many", "_law_by"] (spLNumbers K cW cS)) (c__law_draw : Cal P w K mg base CX0 1 "_law_draw" ["_law_well_here", "_law_many"] (spLDraw K cW cS)) : FnOk P w K mg base CX0 3 f fd ["_law_well_here", "_law_most"] (spLTold K cW cS) := by
  refine F.ok scLTold (fun vs H Q E h => ?_) (fun cdv A outer s H vs Q E hr h => ?_)
  · repeat (first | (obtain ⟨rfl, _⟩ := h; rfl) | (obtain ⟨_, h⟩ := h))
  · obtain ⟨wl, rfl, hw, kont⟩ := h
    refine ⟨_, (pss_cons (ps_setLcD (i := 2) (own := [("_law_k", 3)]) rfl scLTold.nd rfl rfl (sw_true rfl rfl rfl (by decide +kernel)) (pi_range1 (by rfl) T.range (pa_cons (pe_op op_add pe_int (pe_cal c__law_draw (hr.mono (by decide)) pass0 (pa_cons (pv 0) (pa_cons (pv 1) pa_nil)))) pa_nil)) (blkOk_by (by kernel_rfl)) (fun _ _ _ _ _ => (pg_name (i := 3) scLTold.nd rfl (Or.inl rfl))) (fun _ _ _ _ _ => pts_nil) (fun _ _ _ _ _ => (pe_cal c__law_one (hr.mono (by decide)) pass0 (pa_cons (pv 0) (pa_cons (pe_lst (pa_cons pe_int (pa_cons pe_int (pa_cons pe_int (pa_cons pe_int (pa_cons pe_int (pa_cons pe_int pa_nil))))))) pa_nil)))))
      (pss_cons (ps_set (i := 4) scLTold.nd rfl (Or.inl rfl) (pe_cal c__law_one (hr.mono (by decide)) pass0 (pa_cons (pv 0) (pa_cons (pe_lst (pa_cons pe_int (pa_cons pe_int (pa_cons pe_int (pa_cons pe_int (pa_cons (pe_op op_pow pe_int pe_int) pa_nil)))))) pa_nil))))
      (pss_cons (ps_set (i := 5) scLTold.nd rfl (Or.inl rfl) (pe_lst pa_nil))
      (pss_cons (ps_for PassesOwn.never rfl (pi_list (pv 2)) (pg_name (i := 6) scLTold.nd rfl (Or.inl rfl))
        (pss_one (ps_expr (pe_bm PySem.F.plainAttrs_list PySem.F.slot_list_append PySem.F.type_list_append mt_append (pv 5) (pa_cons (pe_tup (pa_cons (pe_cal c__law_order (hr.mono (by decide)) pass0 (pa_cons (pv 0) (pa_cons (pv 6) pa_nil))) (pa_cons (pe_cal c__law_numbers (hr.mono (by decide)) pass0 (pa_cons (pv 0) (pa_cons (pv 6) (pa_cons (pv 4) pa_nil)))) (pa_cons (pe_cal c__law_numbers (hr.mono (by decide)) pass0 (pa_cons (pv 0) (pa_cons (pv 6) (pa_cons (pv 4) pa_nil)))) pa_nil)))) pa_nil)))))
      (pss_cons (ps_set (i := 7) scLTold.nd rfl (Or.inl rfl) (pe_lst pa_nil))
      (pss_cons (ps_for PassesOwn.never rfl (pi_enumM (by rfl) T.enumerate (pa_cons (pv 2) pa_nil)) (pg_tup (n := 2) rfl (pgs_cons (pg_name (i := 8) scLTold.nd rfl (Or.inr rfl)) (pgs_cons (pg_name (i := 6) scLTold.nd rfl (Or.inl rfl)) pgs_nil)))
        (pss_one (ps_expr (pe_bm PySem.F.plainAttrs_list PySem.F.slot_list_extend PySem.F.type_list_extend mt_extend (pv 7) (pa_cons (pe_lcD (own := [("_law_pick", 9)]) rfl scLTold.nd (pi_range1 (by rfl) T.range (pa_cons (pv 6) pa_nil)) (blkOk_by (by kernel_rfl)) (fun _ _ _ _ _ => (pg_name (i := 9) scLTold.nd rfl (Or.inl rfl))) (fun _ _ _ _ _ => pts_nil) (fun _ _ _ _ _ => (pe_tup (pa_cons (pv 8) (pa_cons (pv 9) pa_nil))))) pa_nil)))))
      (pss_cons (ps_set (i := 10) scLTold.nd rfl (Or.inl rfl) (pe_cal c__law_one (hr.mono (by decide)) pass0 (pa_cons (pv 0) (pa_cons (pe_lst (pa_cons pe_int (pa_cons pe_int (pa_cons pe_int (pa_cons pe_int pa_nil))))) pa_nil))))
      (pss_cons (ps_set (i := 11) scLTold.nd rfl (Or.inl rfl) (pe_lst pa_nil))
      (pss_cons (ps_for PassesOwn.never rfl (pi_list (pv 7)) (pg_name (i := 12) scLTold.nd rfl (Or.inl rfl))
        (pss_one (ps_for PassesOwn.never rfl (pi_list (pv 7)) (pg_name (i := 13) scLTold.nd rfl (Or.inl rfl))
            (pss_one (ps_if (PW.pt (pw_and (pt_cmpR (op_neD hr.units) (pv 12) (pv 13) (nomark _)) (pw_and1 (pt_cmpR op_eq (pe_cal c__law_draw (hr.mono (by decide)) pass0 (pa_cons (pv 0) (pa_cons (pe_op op_add pe_int (pv 10)) pa_nil))) pe_int (nomark _))))) (pss_one (ps_expr (pe_bm PySem.F.plainAttrs_list PySem.F.slot_list_append PySem.F.type_list_append mt_append (pv 11) (pa_cons (pe_op op_catA (pe_op op_catA (pv 12) (pv 13)) (pe_tup (pa_cons (pe_op op_mul (pe_op op_sub (pe_cal c__law_draw (hr.mono (by decide)) pass0 (pa_cons (pv 0) (pa_cons pe_int pa_nil))) pe_int) (pv 4)) pa_nil))) pa_nil)))) pss_nil)))))
      (pss_one (ps_ret (pe_tup (pa_cons (pv 5) (pa_cons (pv 11) pa_nil)))))))))))))), ?_⟩
    refine ⟨_, rfl, _, rfl, wl, 3, rfl, hw, by decide, by decide, fun r H1 s1 hw1 hr => ⟨_, _, rfl, rfl, _, rfl, by omega, by omega, fun D hD => ?_⟩⟩
    have hwD := well_none hw1 hD
    have sD := sameUpd (o := .lst []) hD
    have hDn : hid wl H D = none := none_same s1 hD
    generalize hn : (1 + (r : Int)).toNat = n
    have hn1 : 1 ≤ n ∧ n ≤ 3 := by omega
    refine lc_it (walk_rng (n := n)) (fun i H' => Same (hid wl H) H' ∧ WellAt H' wl ∧ ∃ szl : List Nat, H' D = some (.lst (ordV szl)) ∧ szl.length = i ∧ ∀ s ∈ szl, 1 ≤ s ∧ s ≤ 4) ?_ (fun _ _ _ _ => trivial) ?_ ?_
    · exact ⟨Same.tr s1 sD, hw1.same sD, [], upd_same, rfl, by simp⟩
    · rintro i x _ H2 hi ⟨g2, hw2, szl, hD2, hszl, hs⟩ ⟨rfl, rfl⟩
      refine ⟨rfl, _, rfl, big1000 (by simp), fun l hl => ?_⟩
      have sl := sameUpd (o := .lst [.int 2, .int 3, .int 2, .int 3, .int 1, .int 4]) hl
      refine ⟨wl, l, _, rfl, hw2.same sl, upd_same, well_none hw2 hl, by simp, by simp, fun y H3 s3 hw3 hy => ?_⟩
      have hyn : ∃ s : Nat, y = .int (s : Nat) ∧ 1 ≤ s ∧ s ≤ 4 := by
        simp only [List.mem_cons, List.not_mem_nil, or_false] at hy
        rcases hy with h | h | h | h | h | h
        · exact ⟨2, h, by decide, by decide⟩
        · exact ⟨3, h, by decide, by decide⟩
        · exact ⟨2, h, by decide, by decide⟩
        · exact ⟨3, h, by decide, by decide⟩
        · exact ⟨1, h, by decide, by decide⟩
        · exact ⟨4, h, by decide, by decide⟩
      obtain ⟨s, rfl, hs1, hs4⟩ := hyn
      have hD3 := s3 _ _ (hid_at (sl _ _ hD2) hwD)
      have g23 : Same (hid wl H2) H3 := fun b o e => s3 _ _ (hid_at (sl _ _ (hid_same _ _ e)) (ne_of_none e hid_none))
      refine ⟨_, hD3, by rw [ordV_len, sizeLine_eq]; omega, sameW (hid_tr g2 g23) hDn, hw3.upd hwD, szl ++ [s], by rw [upd_same]; simp [ordV], by simp [hszl], fun z hz => ?_⟩
      rcases List.mem_append.mp hz with h | h
      · exact hs z h
      · rw [List.mem_singleton] at h; subst h; exact ⟨hs1, hs4⟩
    rintro H2 ⟨g2, hw2, szl, hD2, hszl, hs⟩
    have hsz : ∀ b, b < n → szl[b]? = some (szl.getD b 0) ∧ 1 ≤ szl.getD b 0 ∧ szl.getD b 0 ≤ 4 := fun b hb => by
      have e := getD_at (l := szl) (d := 0) (i := b) (by omega)
      exact ⟨e, hs _ (List.mem_of_getElem? e)⟩
    generalize hszf : (fun b => szl.getD b 0) = sz
    have hszb : ∀ b, b < n → szl[b]? = some (sz b) ∧ 1 ≤ sz b ∧ sz b ≤ 4 := fun b hb => by subst hszf; exact hsz b hb
    -- by
    have p4 : (10 : Int) ^ (4 : Int).toNat = 10000 := by decide
    refine ⟨_, rfl, _, _, rfl, rfl, ⟨by decide, by decide, by decide⟩, big1000 (by simp), fun l hl => ?_⟩
    have sl := sameUpd (o := .lst [.int 1, .int 1, .int 1, .int 7, .int (10 ^ (4 : Int).toNat)]) hl
    refine ⟨wl, l, _, rfl, hw2.same sl, upd_same, well_none hw2 hl, by simp, by simp, fun y H3 s3 hw3 hy => ?_⟩
    have hby : ∃ by' : Int, y = .int by' ∧ 1 ≤ by' ∧ by' ≤ 10000 := by
      dsimp only at hy
      rw [p4] at hy
      simp only [List.mem_cons, List.not_mem_nil, or_false] at hy
      rcases hy with h | h | h | h | h <;> exact ⟨_, h, by decide, by decide⟩
    obtain ⟨by', rfl, hby1, hby2⟩ := hby
    have hD3 := s3 _ _ (hid_at (sl _ _ hD2) hwD)
    have g23 : Same (hid wl H2) H3 := fun b o e => s3 _ _ (hid_at (sl _ _ (hid_same _ _ e)) (ne_of_none e hid_none))
    have g3 := hid_tr g2 g23
    -- the books
    refine ⟨big1000 (by simp), fun B hB => ?_⟩
    have sB := sameUpd (o := .lst []) hB
    have hwB := well_none hw3 hB
    have hBn : hid wl H B = none := none_same g3 hB
    have hBD : B ≠ D := (ne_of_none hD3 hB).symm
    refine ⟨_, rfl, D, rfl, ⟨_, SqL.of (sB _ _ hD3)⟩, for_it (walk_list (xs := ordV szl)) (fun i σ H' => Same (hid wl H) H' ∧ WellAt H' wl ∧ H' D = some (.lst (ordV szl)) ∧ (∃ (ps : List Addr) (ord : Nat → List Nat) (gf wf : Nat → Nat → Int), H' B = some (.lst (ps.map V.ref)) ∧ ps.length = i ∧ ∀ (b : Nat) (p : Addr), ps[b]? = some p → BookL H' p (sz b) (ord b) (gf b) (wf b) ∧ GoodB (sz b) (ord b) (gf b) (wf b)) ∧ ∃ x3 x6 x7 x8 x9 x10 x11 x12 x13, σ = [some (.ref wl), some (.int 3), some (.ref D), x3, some (.int by'), some (.ref B), x6, x7, x8, x9, x10, x11, x12, x13]) ?_ ?_ ?_ ?_⟩
    · exact ⟨Same.tr g3 sB, hw3.same sB, sB _ _ hD3, ⟨[], fun _ => [], fun _ _ => 0, fun _ _ => 0, upd_same, rfl, fun b p e => by simp at e⟩, _, _, _, _, _, _, _, _, _, rfl⟩
    · rintro i σ H' _ ⟨_, _, hD', _⟩; exact SqL.of hD'
    · rintro i x σ _ H4 hin ⟨g4, hw4, hD4, ⟨ps, ord, gf, wf, hB4, hpl, hbk⟩, x3, x6, x7, x8, x9, x10, x11, x12, x13, rfl⟩ ⟨rfl, hx⟩
      have hib : i < n := by rw [ordV_len] at hin; omega
      obtain ⟨c, hc, rfl⟩ := ordV_get hx
      obtain ⟨hci, hc1, hc4⟩ := hszb i hib
      rw [hc] at hci
      injection hci with hci
      subst hci
      refine ⟨_, rfl, .inl ⟨rfl, _, SqL.of hB4⟩, _, rfl, _, rfl, wl, sz i, rfl, hw4, by omega, fun o H5 ol s5 hw5 ho hnd hln hmem => ?_⟩
      refine ⟨_, rfl, _, rfl, _, rfl, wl, sz i, by', rfl, hw5, by omega, hby1, hby2, fun gq H6 g' s6 hw6 hg hga => ?_⟩
      refine ⟨_, rfl, _, rfl, _, rfl, wl, sz i, by', rfl, hw6, by omega, hby1, hby2, fun wq H7 w' s7 hw7 hwq hwa => ?_⟩
      refine ⟨big1000 (by simp), fun t8 ht8 => ?_⟩
      have s8 := sameUpd (o := .tup [.ref o, .ref gq, .ref wq]) ht8
      have g78 := Same.tr s7 s8
      have s47 : Same (hid wl H4) (upd H7 t8 (.tup [.ref o, .ref gq, .ref wq])) := Same.tr (hid_tr (hid_tr s5 s6) s7) s8
      have hB8 := s47 _ _ (hid_at hB4 hwB)
      have hD8 := s47 _ _ (hid_at hD4 hwD)
      have hp3 : i < 3 := by omega
      refine ⟨B, _, _, rfl, rfl, hB8, by rw [List.length_map, hpl, sizeLine_eq]; omega, ?_⟩
      refine ⟨sameW (Same.tr (hid_mono g4) s47) hBn, (hw7.same s8).upd hwB, (upd_ne hBD.symm).trans hD8, ⟨ps ++ [t8], fun b => if b = i then ol else ord b, fun b => if b = i then g' else gf b, fun b => if b = i then w' else wf b, by rw [upd_same, List.map_append]; rfl, by simp [hpl], fun b p e => ?_⟩, _, _, _, _, _, _, _, _, _, rfl⟩
      by_cases hb : b < ps.length
      · rw [List.getElem?_append_left hb] at e
        obtain ⟨q1, q2⟩ := hbk b p e
        dsimp only
        rw [if_neg (by omega), if_neg (by omega), if_neg (by omega)]
        exact ⟨((q1.hideW hw4).same s47).kd hB8, q2⟩
      · have : b = i := by have := get_lt e; simp at this; omega
        subst this
        rw [List.getElem?_append_right (by omega)] at e
        simp [hpl] at e
        subst e
        dsimp only
        rw [if_pos rfl, if_pos rfl, if_pos rfl]
        refine ⟨BookL.kd hB8 ⟨o, gq, wq, upd_same, ?_, ?_, ?_⟩, ⟨hnd, hln, hmem, hga, hwa⟩⟩
        · exact (((ho.hideW hw5).same s6).hideW hw6).same g78
        · exact g78 _ _ (hidW hw6 hg tup_lst)
        · exact s8 _ _ hwq
    rintro σ H4 ⟨g4, hw4, hD4, ⟨ps, ord, gf, wf, hB4, hpl, hbk⟩, x3, x6, x7, x8, x9, x10, x11, x12, x13, rfl⟩
    rw [ordV_len, hszl] at hpl
    -- the keys
    refine ⟨big1000 (by simp), fun L hL => ?_⟩
    have sL := sameUpd (o := .lst []) hL
    have hwL := well_none hw4 hL
    have hLn : hid wl H L = none := none_same g4 hL
    have hLn4 : H4 L = none := hL
    refine ⟨_, rfl, false, D, _, rfl, SqL.of (sL _ _ hD4), for_it (walk_enumM (xs := ordV szl)) (fun i σ H' => Same H4 H' ∧ (∃ ks : List Ky, H' L = some (.lst (kyR ks)) ∧ ks.map (·.2) = prs sz i ∧ KysAt H' ks) ∧ ∃ x3 x6 x8 x9 x10 x11 x12 x13, σ = [some (.ref wl), some (.int 3), some (.ref D), x3, some (.int by'), some (.ref B), x6, some (.ref L), x8, x9, x10, x11, x12, x13]) ?_ ?_ ?_ ?_⟩
    · exact ⟨sL, ⟨[], upd_same, rfl, fun z hz => by simp at hz⟩, _, _, _, _, _, _, _, _, rfl⟩
    · rintro i σ H' _ ⟨s', _⟩; exact SqL.of (s' _ _ hD4)
    · rintro i x σ H5 H6 hin ⟨s5, ⟨ks, hL5, hks, hka⟩, x3, x6, x8, x9, x10, x11, x12, x13, rfl⟩ ⟨T', y1, y2, rfl, hT, rfl, e1, e2⟩
      cases e1
      obtain ⟨c, hc, rfl⟩ := ordV_get e2
      have hib : i < n := by rw [ordV_len] at hin; omega
      obtain ⟨hci, hc1, hc4⟩ := hszb i hib
      rw [hc] at hci
      injection hci with hci
      subst hci
      have s6 : Same H5 (upd H5 T' (.tup [.int (i : Nat), .int (sz i : Nat)])) := sameUpd hT
      have hL6 := s6 _ _ hL5
      have hka6 := hka.same s6
      have s46 := Same.tr s5 s6
      refine ⟨T', _, rfl, SqT.of upd_same, rfl, _, _, rfl, _, _, rfl, rfl, ?_⟩
      generalize (upd H5 T' (.tup [.int (i : Nat), .int (sz i : Nat)])) = H6 at s6 hL6 hka6 s46
      refine ⟨_, rfl, .inl ⟨rfl, _, SqL.of hL6⟩, _, rfl, _, rfl, by omega, by omega, fun C hC => ?_⟩
      refine lc_col wrn hC (by omega) (fun c y H => ∃ q, y = .ref q ∧ q ≠ C ∧ H q = some (.tup [.int (i : Nat), .int (c : Nat)])) (fun c y H H' hk ⟨q, e, ne, hq⟩ => ⟨q, e, ne, hk _ _ hq ne⟩) (fun _ _ => trivial) ?_ ?_
      · rintro c x _ H7 K7 hc7 s7 ⟨acc, hacc⟩ ⟨rfl, rfl⟩ hK
        exact ⟨rfl, _, rfl, _, rfl, big1000 (by simp), fun q hq => hK _ _ (sameUpd hq) ⟨q, rfl, (ne_of_none hacc hq).symm, upd_same⟩⟩
      · rintro H7 ys s7 hy hl7 hr7
        obtain ⟨rs, rfl, hrs⟩ := refs_of hr7
        have hrl : rs.length = sz i := by simpa using hl7
        have hL7 := s7 _ _ hL6
        have hpl := prs_len sz i fun b hb => ⟨(hszb b (by omega)).2.1, by have := (hszb b (by omega)).2.2; omega⟩
        have hkl : ks.length = (prs sz i).length := by rw [← hks, List.length_map]
        refine ⟨L, C, kyR ks, _, rfl, rfl, hL7, hy, by unfold kyR; rw [List.length_map, List.length_map, hrl, sizeLine_eq]; omega, ?_⟩
        have hk : ∀ b xs, H7 b = some (.tup xs) → (upd H7 L (.lst (kyR ks ++ rs.map V.ref))) b = some (.tup xs) := fun b xs e => (upd_ne (ne_of e hL7 (by simp))).trans e
        refine ⟨sameW (Same.tr s46 s7) hLn4, ⟨ks ++ (rs.zip (List.range (sz i))).map fun z => (z.1, i, z.2), ?_, ?_, fun z hz => ?_⟩, _, _, _, _, _, _, _, _, rfl⟩
        · rw [upd_same]
          refine congrArg (fun l => some (HO.lst l)) ?_
          unfold kyR
          rw [List.map_append, List.map_map]
          congr 1
          have : (rs.zip (List.range (sz i))).map (fun z => z.1) = rs := List.map_fst_zip (by simp [hrl])
          conv => lhs; rw [← this]
          rw [List.map_map]; rfl
        · rw [List.map_append, hks, prs_succ, List.map_map]
          congr 1
          have : (rs.zip (List.range (sz i))).map (fun z => z.2) = List.range (sz i) := List.map_snd_zip (by simp [hrl])
          conv => rhs; rw [← this]
          rw [List.map_map]; rfl
        · rcases List.mem_append.mp hz with h | h
          · exact hk _ _ (s7 _ _ (hka6 z h))
          · obtain ⟨u, hu, rfl⟩ := List.mem_map.mp h
            obtain ⟨c, hcz⟩ := List.getElem?_of_mem hu
            obtain ⟨a1, a2⟩ := List.getElem?_zip_eq_some.mp hcz
            have hc : u.2 = c := by
              have := (List.getElem?_eq_some_iff.mp a2).2
              rw [List.getElem_range] at this
              exact this.symm
            have := (hrs c u.1 a1).2
            rw [hc]
            exact hk _ _ this
    rintro σ H5 ⟨s5, ⟨ks, hL5, hks, hka⟩, x3', x6', x8', x9', x10', x11', x12', x13', rfl⟩
    rw [ordV_len, hszl] at hks
    have hplen := prs_len sz n fun b hb => ⟨(hszb b hb).2.1, by have := (hszb b hb).2.2; omega⟩
    have hkl : ks.length = (prs sz n).length := by rw [← hks, List.length_map]
    have hw5 := hw4.same s5
    have g5 := Same.tr g4 s5
    have hB5 := s5 _ _ hB4
    have hbk5 : ∀ (b : Nat) (p : Addr), ps[b]? = some p → BookL H5 p (sz b) (ord b) (gf b) (wf b) := fun b p e => (hbk b p e).1.same s5
    -- thin
    refine ⟨_, rfl, big1000 (by simp), fun l2 hl2 => ?_⟩
    have sl2 := sameUpd (o := .lst [.int 1, .int 2, .int 3, .int 9]) hl2
    refine ⟨wl, l2, _, rfl, hw5.same sl2, upd_same, well_none hw5 hl2, by simp, by simp, fun y2 H6 s6 hw6 hy2 => ?_⟩
    have hth : ∃ thin : Int, y2 = .int thin ∧ 1 ≤ thin ∧ thin ≤ 9 := by
      simp only [List.mem_cons, List.not_mem_nil, or_false] at hy2
      rcases hy2 with h | h | h | h <;> exact ⟨_, h, by decide, by decide⟩
    obtain ⟨thin, rfl, hth1, hth2⟩ := hth
    have g56 : Same (hid wl H5) H6 := fun b o e => s6 _ _ (hid_at (sl2 _ _ (hid_same _ _ e)) (ne_of_none e hid_none))
    have g6 := hid_tr g5 g56
    have hL6 := g56 _ _ (hid_at hL5 hwL)
    have hB6 := g56 _ _ (hid_at hB5 hwB)
    have hka6 := (hka.hideW hw5).same g56
    have hbk6 : ∀ (b : Nat) (p : Addr), ps[b]? = some p → BookL H6 p (sz b) (ord b) (gf b) (wf b) := fun b p e => ((hbk5 b p e).hideW hw5).same g56
    -- the feeds
    refine ⟨big1000 (by simp), fun Fd hF => ?_⟩
    have sF := sameUpd (o := .lst []) hF
    have hwF := well_none hw6 hF
    have hFn : hid wl H Fd = none := none_same g6 hF
    have hFn6 : hid wl H6 Fd = none := none_same hid_same hF
    have kP : ∀ (i : Nat) (z : Ky), ks[i]? = some z → (prs sz n)[i]? = some z.2 ∧ z.2.1 < n ∧ z.2.2 < sz z.2.1 := fun i z e => by
      have e2 : (prs sz n)[i]? = some z.2 := by rw [← hks, List.getElem?_map, e]; rfl
      have := mem_prs.mp (List.mem_of_getElem? e2)
      exact ⟨e2, this.1, this.2⟩
    -- what stands at the turn (i, j)
    let St : Nat → Nat → Hp → Prop := fun i j H' => Same (hid wl H6) H' ∧ WellAt H' wl ∧ ∃ (qs : List Addr) (fs : List Pm.Fd), H' Fd = some (.lst (qs.map V.ref)) ∧ FeedsAt H' qs fs ∧ (fs.map Pm.Fd.key).Nodup ∧
      (∀ f ∈ fs, f.b < n ∧ f.c < sz f.b ∧ f.t < n ∧ f.o < sz f.t ∧ (f.b, f.c) ≠ (f.t, f.o) ∧ Pm.Amt f.amt) ∧
      (∀ f ∈ fs, ∃ i' j', (i' < i ∨ (i' = i ∧ j' < j)) ∧ (prs sz n)[i']? = some (f.b, f.c) ∧ (prs sz n)[j']? = some (f.t, f.o))
    have hL6' : hid wl H6 L = some (.lst (kyR ks)) := hid_at hL6 hwL
    refine ⟨_, rfl, L, rfl, ⟨_, SqL.of (sF _ _ hL6)⟩, for_it (walk_list (xs := kyR ks)) (fun i σ H' => St i 0 H' ∧ ∃ x3 x6 x8 x9 x12 x13, σ = [some (.ref wl), some (.int 3), some (.ref D), x3, some (.int by'), some (.ref B), x6, some (.ref L), x8, x9, some (.int thin), some (.ref Fd), x12, x13]) ?_ ?_ ?_ ?_⟩
    · exact ⟨⟨Same.tr hid_same sF, hw6.same sF, [], [], upd_same, ⟨rfl, fun i q f e => by simp at e⟩, List.nodup_nil, by simp, by simp⟩, _, _, _, _, _, _, rfl⟩
    · rintro i σ H' _ ⟨⟨s', _⟩, _⟩; exact SqL.of (s' _ _ hL6')
    · rintro i x σ _ H7 hin ⟨st7, x3, x6, x8, x9, x12, x13, rfl⟩ ⟨rfl, hx⟩
      have hik : i < ks.length := by unfold kyR at hin; rwa [List.length_map] at hin
      have hz1 : ks[i]? = some ks[i] := List.getElem?_eq_getElem hik
      generalize ks[i] = z1 at hz1
      have ex : x = .ref z1.1 := by
        unfold kyR at hx
        rw [List.getElem?_map, hz1] at hx
        exact (Option.some.inj hx).symm
      subst ex
      obtain ⟨p1, p1b, p1c⟩ := kP i z1 hz1
      have s67 := st7.1
      refine ⟨_, rfl, L, rfl, ⟨_, SqL.of (s67 _ _ hL6')⟩, for_it (walk_list (xs := kyR ks)) (fun j σ H' => St i j H' ∧ ∃ x3 x6 x8 x9 x13, σ = [some (.ref wl), some (.int 3), some (.ref D), x3, some (.int by'), some (.ref B), x6, some (.ref L), x8, x9, some (.int thin), some (.ref Fd), some (.ref z1.1), x13]) ?_ ?_ ?_ ?_⟩
      · exact ⟨st7, _, _, _, _, _, rfl⟩
      · rintro j σ H' _ ⟨⟨s', _⟩, _⟩; exact SqL.of (s' _ _ hL6')
      · rintro j x σ _ H8 hjn ⟨⟨s8, hw8, qs, fs, hF8, hfd, hnd, hfok, hord⟩, x3, x6, x8, x9, x13, rfl⟩ ⟨rfl, hx⟩
        have hjk : j < ks.length := by unfold kyR at hjn; rwa [List.length_map] at hjn
        have hz2 : ks[j]? = some ks[j] := List.getElem?_eq_getElem hjk
        generalize ks[j] = z2 at hz2
        have ex : x = .ref z2.1 := by
          unfold kyR at hx
          rw [List.getElem?_map, hz2] at hx
          exact (Option.some.inj hx).symm
        subst ex
        obtain ⟨p2, p2b, p2c⟩ := kP j z2 hz2
        have hkz : ∀ H', Same (hid wl H6) H' → H' z1.1 = some (.tup [.int (z1.2.1 : Nat), .int (z1.2.2 : Nat)]) ∧ H' z2.1 = some (.tup [.int (z2.2.1 : Nat), .int (z2.2.2 : Nat)]) := fun H' s' => ⟨s' _ _ (hidW hw6 (hka6 z1 (List.mem_of_getElem? hz1)) tup_lst), s' _ _ (hidW hw6 (hka6 z2 (List.mem_of_getElem? hz2)) tup_lst)⟩
        have nxt : ∀ H', Same (hid wl H8) H' → WellAt H' wl → St i (j + 1) H' := fun H' s' hw' =>
          ⟨hid_tr s8 s', hw', qs, fs, s' _ _ (hid_at hF8 hwF), (hfd.hideW hw8).same s', hnd, hfok, fun f hf => by
            obtain ⟨i', j', h1, h2⟩ := hord f hf
            exact ⟨i', j', by omega, h2⟩⟩
        obtain ⟨hk1, hk2⟩ := hkz H8 s8
        refine ⟨_, rfl, _, rfl, tI [(z1.2.1 : Nat), (z1.2.2 : Nat)], tI [(z2.2.1 : Nat), (z2.2.2 : Nat)], dp_ints (SqT.of hk1), dp_ints (SqT.of hk2), tI_shaped _, tI_shaped _, _, rfl, ?_⟩
        rw [tI_eqv]
        by_cases hzz : z1.2 = z2.2
        · rw [decide_eq_true (by rw [hzz])]
          exact iteF (iteF ⟨nxt H8 hid_same hw8, _, _, _, _, _, rfl⟩)
        · rw [decide_eq_false (fun e => hzz (by simp at e; exact Prod.ext (by omega) (by omega)))]
          refine iteT ⟨_, rfl, _, rfl, _, _, rfl, rfl, wl, 1 + thin, rfl, hw8, by omega, by omega, fun r9 H9 s9 hw9 hr9 => ⟨rfl, _, rfl, ite2 (fun _ => ?_) (fun _ => ?_)⟩⟩
          · have hF9 := s9 _ _ (hid_at hF8 hwF)
            obtain ⟨m1, m2⟩ := hkz H9 (hid_tr s8 s9)
            refine ⟨_, rfl, .inl ⟨rfl, _, SqL.of hF9⟩, _, rfl, _, rfl, cat_ok m1 m2 (by simp) fun r10 H10 s10 h10 => ?_⟩
            have hw10 := hw9.same s10
            refine ⟨_, rfl, wl, 31, rfl, hw10, by decide, by decide, fun r11 H11 s11 hw11 hr11 => ⟨_, _, rfl, rfl, _, rfl, _, _, rfl, rfl, .inr ⟨by omega, by omega⟩, big1000 (by simp), fun t12 ht12 => ?_⟩⟩
            have s12 := sameUpd (o := .tup [.int (((r11 : Int) - 15) * by')]) ht12
            have s11' := Same.tr s11 s12
            refine cat_ok (s11' _ _ (hidW hw10 h10 tup_lst)) upd_same (by simp) fun r13 H13 s13 h13 => ?_
            have s913 : Same (hid wl H9) H13 := Same.tr (hid_tr (Same.tr hid_same s10) s11') s13
            have hF13 := s913 _ _ (hid_at hF9 hwF)
            have hw13 := (hw11.same s12).same s13
            have hfl : fs.length ≤ 400 := keys_len (W := ⟨n, sz, ord, gf, wf, fs⟩) (by show n ≤ 4; omega) (fun b hb => by have := (hszb b hb).2.2; show sz b ≤ 5; omega) hnd fun f hf => let h := hfok f hf; ⟨h.1, h.2.1, h.2.2.1, h.2.2.2.1⟩
            have hql := hfd.1
            refine ⟨Fd, _, _, rfl, rfl, hF13, by rw [List.length_map, hql, sizeLine_eq]; omega, ?_⟩
            have hfd13 : FeedsAt H13 qs fs := (((hfd.hideW hw8).same s9).hideW hw9).same s913
            have hk : ∀ b xs, H13 b = some (.tup xs) → (upd H13 Fd (.lst (qs.map V.ref ++ [.ref r13]))) b = some (.tup xs) := fun b xs e => (upd_ne (ne_of e hF13 (by simp))).trans e
            have a1 : -15 ≤ (r11 : Int) - 15 := by omega
            have a2 : (r11 : Int) - 15 ≤ 15 := by omega
            have b1 : -15 * by' ≤ ((r11 : Int) - 15) * by' := Int.mul_le_mul_of_nonneg_right a1 (by omega)
            have b2 : ((r11 : Int) - 15) * by' ≤ 15 * by' := Int.mul_le_mul_of_nonneg_right a2 (by omega)
            refine ⟨⟨sameW (Same.tr (hid_mono (hid_tr s8 s9)) s913) hFn6, hw13.upd hwF, qs ++ [r13], fs ++ [⟨z1.2.1, z1.2.2, z2.2.1, z2.2.2, ((r11 : Int) - 15) * by'⟩], by rw [upd_same, List.map_append]; rfl, ⟨by simp [hql], fun u q f e e2 => ?_⟩, ?_, fun f hf => ?_, fun f hf => ?_⟩, _, _, _, _, _, rfl⟩
            · by_cases hu : u < fs.length
              · rw [List.getElem?_append_left (by omega)] at e
                rw [List.getElem?_append_left hu] at e2
                exact hk _ _ (hfd13.2 u q f e e2)
              · have : u = fs.length := by have := get_lt e2; simp at this; omega
                subst this
                rw [List.getElem?_append_right (by omega)] at e
                rw [List.getElem?_append_right (Nat.le_refl _)] at e2
                simp [hql] at e e2
                subst e e2
                exact hk _ _ h13
            · rw [List.map_append, List.nodup_append]
              refine ⟨hnd, by simp, fun a ha b hb e => ?_⟩
              obtain ⟨f, hf, rfl⟩ := List.mem_map.mp ha
              simp only [List.map_cons, List.map_nil, List.mem_singleton] at hb
              subst hb
              obtain ⟨i', j', h1, h2, h3⟩ := hord f hf
              simp only [Pm.Fd.key, Prod.mk.injEq] at e
              have e1 : (f.b, f.c) = z1.2 := Prod.ext e.1 e.2.1
              have e2 : (f.t, f.o) = z2.2 := Prod.ext e.2.2.1 e.2.2.2
              rw [e1] at h2
              rw [e2] at h3
              have := nodup_at (prs_nodup sz n) h2 p1
              have := nodup_at (prs_nodup sz n) h3 p2
              omega
            · rcases List.mem_append.mp hf with h | h
              · exact hfok f h
              · rw [List.mem_singleton] at h
                subst h
                exact ⟨p1b, p1c, p2b, p2c, hzz, ⟨by show (-1000000000 : Int) ≤ ((r11 : Int) - 15) * by'; omega, by show ((r11 : Int) - 15) * by' ≤ (1000000000 : Int); omega⟩⟩
            · rcases List.mem_append.mp hf with h | h
              · obtain ⟨i', j', h1, h2⟩ := hord f h
                exact ⟨i', j', by omega, h2⟩
              · rw [List.mem_singleton] at h
                subst h
                exact ⟨i, j, .inr ⟨rfl, by omega⟩, p1, p2⟩
          · exact ⟨nxt H9 s9 hw9, _, _, _, _, _, rfl⟩
      · rintro σ H8 ⟨⟨s8, hw8, qs, fs, hF8, hfd, hnd, hfok, hord⟩, x3, x6, x8, x9, x13, rfl⟩
        refine ⟨⟨s8, hw8, qs, fs, hF8, hfd, hnd, hfok, fun f hf => ?_⟩, _, _, _, _, _, _, rfl⟩
        obtain ⟨i', j', h1, h2⟩ := hord f hf
        exact ⟨i', j', by omega, h2⟩
    · rintro σ H7 ⟨⟨s7, hw7, qs, fs, hF7, hfd, hnd, hfok, hord⟩, x3, x6, x8, x9, x12, x13, rfl⟩
      have hok : (⟨n, sz, ord, gf, wf, fs⟩ : Pm.Wd).Ok := by
        have hgood : ∀ b, b < n → GoodB (sz b) (ord b) (gf b) (wf b) := fun b hb => by
          have e : ps[b]? = some (ps[b]'(by omega)) := List.getElem?_eq_getElem _
          exact (hbk b _ e).2
        exact { n1 := by show 0 < n; omega
                n4 := by show n ≤ 4; omega
                s1 := fun b hb => by have := (hszb b hb).2.1; show 0 < sz b; omega
                s5 := fun b hb => by have := (hszb b hb).2.2; show sz b ≤ 5; omega
                nd := fun b hb => (hgood b hb).nd
                ln := fun b hb => (hgood b hb).ln
                mem := fun b hb => (hgood b hb).mem
                g := fun b c hb hc => (hgood b hb).g c hc
                w := fun b c hb hc => (hgood b hb).w c hc
                fi := hfok
                fn := hnd
                fl := Nat.le_trans (keys_len (W := ⟨n, sz, ord, gf, wf, fs⟩) (by show n ≤ 4; omega) (fun b hb => by have := (hszb b hb).2.2; show sz b ≤ 5; omega) hnd fun f hf => let h := hfok f hf; ⟨h.1, h.2.1, h.2.2.1, h.2.2.2.1⟩) (by omega) }
      refine ⟨_, rfl, _, rfl, big1000 (by simp), newT fun ta H8 _ s8 h8 => ?_⟩
      have g67 := Same.tr s7 s8
      exact kont ta H8 ⟨n, sz, ord, gf, wf, fs⟩ B Fd ps qs fs (Same.tr (hid_mono g6) g67) (hw7.same s8) hok h8 ⟨g67 _ _ (hid_at hB6 hwB), s8 _ _ hF7, ⟨hpl, fun b p e => ((hbk6 b p e).hideW hw6).same g67⟩, List.Perm.refl _, hfd.same s8⟩
end
end WB


namespace WB
open PySem L2 LamX
/-! ### a def whose code object is known -/
structure FunC (K : PySem.W.Frag) (x qual : Str) (st : Stmt) (c f : Addr) (fd : FuncData) : Prop where
  ex : ∃ (oc : Value) (od : Option Addr) (kV doc pm : Value) (an : Option Addr) (ct : Value) (osl : Array (Option Value)),
    fd = PySem.W.fnOf x qual (defArgs st) (defBody st) (defScope st) .none kV doc pm an (.ref c) ct ∧ K.lookup f = some ⟨oc, od, .func fd, osl⟩ ∧ PySem.W.codeIn K (.ref c) qual = true
  kp : PySem.W.keepIn K (.ref f) = true
theorem FunC.ok {P : Program} {w : World} {K : PySem.W.Frag} {mg : Str → Option Value} {base : Heap} {x qual : Str} {st : Stmt} {c f : Addr} {fd : FuncData} {N ps : List Str} {k : Nat} {sp : Sp} (F : FunC K x qual st c f fd) (S : FnScope N ps (defScope st)) (len : ∀ vs H Q E, sp vs H Q E → vs.length = ps.length)
    (hbody : ∀ (A : Around) (outer : List Env) (s : Shared) (H : Hp) (vs : List V) (Q : VK) (E : XK), Room k (A.deeper (PyProof.Rows.envOfC qual (defScope st) s.heap.objs.size f (.ref c))) → sp vs H Q E → ∃ t, PSs (cxOf CX0 P w K mg base N qual (defScope st) f (.ref c) A outer s H E).nox (defBody st) t ∧ t { nx := fun _ H' => Q .non H', rt := Q } (start N vs) H) : FnOk P w K mg base CX0 (k + 1) f fd ps sp := by
  obtain ⟨oc, od, kV, doc, pm, an, ct, osl, rfl, lk, hcd⟩ := F.ex
  exact fn_of lk hcd S len fun A outer s H vs Q E hr h => let ⟨t, h1, h2⟩ := hbody A outer s H vs Q E hr h; ⟨t, h1.nox, h2⟩
/-! ### what stands but for the well and the tables -/
def SafeO (o : HO) : Prop := (∀ x n : Int, o ≠ .lst [.int x, .int n]) ∧ ∀ ps, o ≠ .tbl ps
structure SS (m : Addr) (H H' : Hp) : Prop where
  a : ∀ b o, H b = some o → SafeO o → H' b = some o
  k : ∀ o, H m = some o → (∀ ps, o ≠ .tbl ps) → H' m = some o
instance {m : Addr} {H H' : Hp} : CoeFun (SS m H H') fun _ => ∀ b o, H b = some o → SafeO o → H' b = some o := ⟨fun s => s.a⟩
theorem SS.rf {m : Addr} {H : Hp} : SS m H H := ⟨fun _ _ e _ => e, fun _ e _ => e⟩
theorem SS.tr {m : Addr} {H H1 H2 : Hp} (a : SS m H H1) (b : SS m H1 H2) : SS m H H2 := ⟨fun x o e h => b.a x o (a.a x o e h) h, fun o e h => b.k o (a.k o e h) h⟩
theorem SS.of {m : Addr} {H H' : Hp} (s : Same H H') : SS m H H' := ⟨fun b o e _ => s b o e, fun o e _ => s _ o e⟩
theorem SS.hid {m : Addr} {H H' : Hp} {wl : Addr} (hw : WellAt H wl) (s : Same (hid wl H) H') (hm : m ≠ wl := by assumption) : SS m H H' := ⟨fun b o e h => s _ _ (hidW hw e h.1), fun o e _ => s _ _ (hid_at e hm)⟩
theorem SS.ext {m : Addr} {H H' : Hp} (s : ExtN H H') : SS m H H' := ⟨fun b o e h => s b o e h.2, fun o e h => s _ o e h⟩
theorem safe_tup {xs : List V} : SafeO (.tup xs) := ⟨tup_lst, fun ps z => by cases z⟩
theorem safe_refs {ps : List Addr} : SafeO (.lst (ps.map V.ref)) := ⟨lst_refs, fun ps z => by cases z⟩
theorem safe_oth {o : HO} (h : ∀ xs, o ≠ .lst xs) (h2 : ∀ ps, o ≠ .tbl ps) : SafeO o := ⟨fun x n => h _, h2⟩
theorem OT.ss {m : Addr} {H H' : Hp} {o : Addr} {xs : List V} (s : SS m H H') (h : OT H o xs) : OT H' o xs := let ⟨ob, d, e⟩ := h; ⟨ob, d, s _ _ e (safe_oth (by simp) (by simp))⟩
theorem BooksAt.ss {m : Addr} {H H' : Hp} {ps : List Addr} {W : Pm.Wd} (s : SS m H H') (h : BooksAt H ps W) : BooksAt H' ps W := ⟨h.1, fun b p e => let ⟨o, g, w, h1, h2, h3, h4⟩ := h.2 b p e; ⟨o, g, w, s _ _ h1 safe_tup, h2.ss s, s _ _ h3 safe_tup, s _ _ h4 safe_tup⟩⟩
theorem FeedsAt.ss {m : Addr} {H H' : Hp} {qs : List Addr} {fs : List Pm.Fd} (s : SS m H H') (h : FeedsAt H qs fs) : FeedsAt H' qs fs := ⟨h.1, fun i q f e e' => s _ _ (h.2 i q f e e') safe_tup⟩
theorem ToldAt.ss {m : Addr} {H H' : Hp} {a : Addr} {W : Pm.Wd} (s : SS m H H') (h : ToldAt H a W) : ToldAt H' a W := let ⟨la, lb, ps, qs, fs, h1, h2⟩ := h; ⟨la, lb, ps, qs, fs, s _ _ h1 safe_tup, ⟨s _ _ h2.a safe_refs, s _ _ h2.b safe_refs, h2.bk.ss s, h2.pm, h2.fd.ss s⟩⟩
theorem RowsAt.ss {m : Addr} {H H' : Hp} {ps : List Addr} {sz : Nat → Nat} {f : Nat → Nat → Int} (s : SS m H H') (h : RowsAt H ps sz f) : RowsAt H' ps sz f := fun b p e => s _ _ (h b p e) safe_tup
theorem StAt.ss {m : Addr} {H H' : Hp} {a : Addr} {n : Nat} {sz : Nat → Nat} {f : Nat → Nat → Int} (s : SS m H H') (h : StAt H a n sz f) : StAt H' a n sz f := let ⟨ps, h1, h2, h3⟩ := h; ⟨ps, s _ _ h1 safe_tup, h2, h3.ss s⟩
theorem KnobAt.ss {m : Addr} {H H' : Hp} {a : Addr} {k : Pm.Knob} (s : SS m H H') (h : KnobAt H a k) : KnobAt H' a k := s _ _ h safe_tup
theorem WontAt.ss {m : Addr} {cW : Addr} {H H' : Hp} {p : Addr} {W : Pm.Wd} (s : SS m H H') (h : WontAt cW H p W) : WontAt cW H' p W := by
  obtain ⟨ok, dx', tb, tl, d, m, r, ps, rs, gs, mk, h1, h2⟩ := h
  refine ⟨ok, dx', tb, tl, d, m, r, ps, rs, gs, mk, s _ _ h1 (safe_oth (by simp) (by simp)), s _ _ h2.tb safe_tup, h2.bk.ss s, s _ _ h2.tl safe_tup, s _ _ h2.d (safe_oth (by simp) (by simp)), h2.pm, s _ _ h2.m (safe_oth (by simp) (by simp)), fun b c hb hc => ?_, s _ _ h2.r safe_refs, ⟨h2.rk.1, fun b q e => ?_⟩⟩
  · obtain ⟨l, ts, x1, x2, x3, x4⟩ := h2.mv b c hb hc
    exact ⟨l, ts, x1, s _ _ x2 safe_refs, x3, x4.ss s⟩
  · obtain ⟨kvs, x1, x2⟩ := h2.rk.2 b q e
    exact ⟨kvs, s _ _ x1 (safe_oth (by simp) (by simp)), x2⟩
theorem WellAt.ext {H H' : Hp} {wl : Addr} (s : ExtN H H') (h : WellAt H wl) : WellAt H' wl := let ⟨x, n, e⟩ := h; ⟨x, n, s _ _ e (fun ps z => by cases z)⟩
theorem tabs_hid {T : List (Addr × Str)} {H H' : Hp} {wl : Addr} (hw : WellAt H wl) (s : Same (hid wl H) H') (h : Tabs T H) : Tabs T H' := fun p hp => by
  obtain ⟨ps, h1, h2, h3⟩ := h p hp
  refine ⟨ps, s _ _ (hidW hw h1 (fun x n z => by cases z)), h2, fun pos cv e => ?_⟩
  obtain ⟨c, h4, h5⟩ := h3 pos cv e
  exact ⟨c, h4, s _ _ (hidW hw h5 (fun x n z => by cases z))⟩
theorem tabs_same {T : List (Addr × Str)} {H H' : Hp} (s : Same H H') (h : Tabs T H) : Tabs T H' := h.ext s
/-! ### what the exceptions match -/
structure Exm (K : PySem.W.Frag) (mg : Str → Option Value) (xs : Exs) : Prop where
  m : XC K mg "TooMany" xs.many
  s : XC K mg "NoStand" xs.stand
  b : XC K mg "NoBeat" xs.beat
  k : XC K mg "NoKnob" xs.knob
  o : XC K mg "NoBook" xs.book
  w : ∃ C, mg "WontError" = some (.ref C)
  mm : PySem.W.exmOne K (.ref xs.many) (.ref xs.many) = some true
  sm : PySem.W.exmOne K (.ref xs.stand) (.ref xs.many) = some false
  ss : PySem.W.exmOne K (.ref xs.stand) (.ref xs.stand) = some true
  bm : PySem.W.exmOne K (.ref xs.beat) (.ref xs.many) = some false
  bs : PySem.W.exmOne K (.ref xs.beat) (.ref xs.stand) = some false
  bb : PySem.W.exmOne K (.ref xs.beat) (.ref xs.beat) = some true
  km : PySem.W.exmOne K (.ref xs.knob) (.ref xs.many) = some false
  ks : PySem.W.exmOne K (.ref xs.knob) (.ref xs.stand) = some false
  kb : PySem.W.exmOne K (.ref xs.knob) (.ref xs.beat) = some false
  kk : PySem.W.exmOne K (.ref xs.knob) (.ref xs.knob) = some true
  om : PySem.W.exmOne K (.ref xs.book) (.ref xs.many) = some false
  os : PySem.W.exmOne K (.ref xs.book) (.ref xs.stand) = some false
  ob : PySem.W.exmOne K (.ref xs.book) (.ref xs.beat) = some false
  ok : PySem.W.exmOne K (.ref xs.book) (.ref xs.knob) = some false
  oo : PySem.W.exmOne K (.ref xs.book) (.ref xs.book) = some true
abbrev sLSaid : Stmt := top 69
/-- what the asking tells -/
def saidE (xs : Exs) (Q : VK) : XK := fun cls _ H' => (cls = .ref xs.many ∧ Q (.str "many") H') ∨ (cls = .ref xs.stand ∧ Q (.str "stand") H') ∨ (cls = .ref xs.beat ∧ Q (.str "beat") H') ∨ (cls = .ref xs.knob ∧ Q (.str "knob") H') ∨ (cls = .ref xs.book ∧ Q (.str "book") H')
def TTsaid (xs : Exs) : (XK → Hp → VK → Prop) → Hp → VK → Prop := fun tl H Q => tl (saidE xs Q) H Q
theorem said_gives {X : Cx} {xs : Exs} {g : Addr} {cdg : Value} {q : Str} (Em : Exm X.K X.mg xs) : GivesTo X ["_law_ask"] "_law_said" (defScope sLSaid) g cdg (defBody sLSaid) "_law_ask" q (TTsaid xs) := by
  intro f c' s H Q tl act hc h
  obtain ⟨Cw, hCw⟩ := Em.w
  refine ⟨_, pss_one (ps_try_many (X := (cxOf C8.CX0 X.prog X.w X.K X.mg X.base ["_law_ask"] "_law_said" (defScope sLSaid) g cdg X.A X.stack s H C8.E0).nox)
      (tb := fun W D σ H => ∃ Ech : XK, (∀ cls d σ' H', Ech cls d H' → W cls d σ' H') ∧ σ[0]? = some (some (.ref f)) ∧ H c' = some (CodeO c' q) ∧ tl Ech H D.rt)
      rfl rfl L2.takes_none5 (fun W pn xe tk _ => ?_)
      (HdsOk.cons (c := .ref xs.many) ⟨rfl, by decide, .inl Em.m.mg⟩ (fun a oe cls d pn _ _ => pss_one (ps_ret pe_str))
        (HdsOk.cons (c := .ref xs.stand) ⟨rfl, by decide, .inl Em.s.mg⟩ (fun a oe cls d pn _ _ => pss_one (ps_ret pe_str))
        (HdsOk.cons (c := .ref xs.beat) ⟨rfl, by decide, .inl Em.b.mg⟩ (fun a oe cls d pn _ _ => pss_one (ps_ret pe_str))
        (HdsOk.cons (c := .ref xs.knob) ⟨rfl, by decide, .inl Em.k.mg⟩ (fun a oe cls d pn _ _ => pss_one (ps_ret pe_str))
        (HdsOk.cons (c := .ref xs.book) ⟨rfl, by decide, .inl Em.o.mg⟩ (fun a oe cls d pn _ _ => pss_one (ps_ret pe_str))
        (HdsOk.cons (c := .ref Cw) ⟨rfl, by decide, .inl hCw⟩ (fun a oe cls d pn _ _ => pss_one (ps_ret pe_str)) HdsOk.nil))))))), ?_⟩
  · refine ⟨fun pins s' σ H' D I h' => ?_⟩
    obtain ⟨Ech, hW, h1, h2, h3⟩ := h'
    exact (pss_one (ps_ret (act W pn xe Ech _ _ tk hW))).run pins s' σ H' D I ⟨h1, h2, h3⟩
  · refine ⟨saidE xs Q, fun cls d σ' H' h' => ?_, rfl, hc, h⟩
    rcases h' with ⟨rfl, q⟩ | ⟨rfl, q⟩ | ⟨rfl, q⟩ | ⟨rfl, q⟩ | ⟨rfl, q⟩
    · exact ⟨true, Em.mm, (fun _ a _ => q), (fun e => by cases e)⟩
    · exact ⟨false, Em.sm, (fun e => by cases e), (fun _ => ⟨true, Em.ss, (fun _ a _ => q), (fun e => by cases e)⟩)⟩
    · exact ⟨false, Em.bm, (fun e => by cases e), (fun _ => ⟨false, Em.bs, (fun e => by cases e), (fun _ => ⟨true, Em.bb, (fun _ a _ => q), (fun e => by cases e)⟩)⟩)⟩
    · exact ⟨false, Em.km, (fun e => by cases e), (fun _ => ⟨false, Em.ks, (fun e => by cases e), (fun _ => ⟨false, Em.kb, (fun e => by cases e), (fun _ => ⟨true, Em.kk, (fun _ a _ => q), (fun e => by cases e)⟩)⟩)⟩)⟩
    · exact ⟨false, Em.om, (fun e => by cases e), (fun _ => ⟨false, Em.os, (fun e => by cases e), (fun _ => ⟨false, Em.ob, (fun e => by cases e), (fun _ => ⟨false, Em.ok, (fun e => by cases e), (fun _ => ⟨true, Em.oo, (fun _ a _ => q), (fun e => by cases e)⟩)⟩)⟩)⟩)⟩
end WB

namespace WB
open PySem L2 LamX
structure SaidOk (K : PySem.W.Frag) (mg : Str → Option Value) : Prop where
  ex : ∃ (g : Addr) (fd : FuncData), Fun K "_law_said" "_law_said" sLSaid g fd ∧ mg "_law_said" = some (.ref g) ∧ Binds K fd ["_law_ask"] []
theorem scLSaid : FnScope ["_law_ask"] ["_law_ask"] (defScope sLSaid) := ⟨rfl, rfl, rfl, by decide +kernel, rfl, by decide +kernel, by decide +kernel⟩
theorem pe_said {X : Cx} {xs : Exs} {T : List (Addr × Str)} {c Pt : Addr} {k : Nat} {params : Arguments} {body : Expr} {scope : Scope} {t : XK → TE} {p lpos pos : Pos} (S : SaidOk X.K X.mg) (Em : Exm X.K X.mg xs) (TB : TabB X.base X.mg c Pt) (hmT : (Pt, X.env.qual ++ "<lambda>") ∈ T) (hu : ∀ p ∈ T, p.1 = Pt → p.2 = X.env.qual ++ "<lambda>") (hr : Room (k + 2) X.A)
    (hbody : ∀ (A : Around) (outer : List Env) (s : Shared) (H : Hp) (E : XK) (f c' : Addr), Room k (A.deeper (lamEnv X scope s.heap.objs.size f c')) → PE (lamCx X A outer s H E scope f c') body (t E))
    (L : LamS X.env.scope scope) (hcode : X.env.code = .ref c := by rfl) (hg : Gl X "_law_said" := by rfl) (hdef : defaultsOf params X.env = ([], []) := by rfl)
    (hbind : ∀ (q : Str) (cl : List (Str × Addr)) (pm cv ctv : Value), bindArgs (PySem.W.kla_fn "<lambda>" q params body scope cl pm cv ctv) ⟨[], []⟩ = pure [] := by intros; rfl) :
    PE X (.Call (.Name "_law_said" p) [.Lambda params body scope lpos] [] pos) (tLam T (TTsaid xs) t) := by
  obtain ⟨g, fd, F, hm, hb⟩ := S.ex
  obtain ⟨oc, od, kV, doc, pm, an, cdv, ct, osl, rfl, lk, hcd⟩ := F.ex
  exact pe_lamcall hg hm F.kp lk hcd hb scLSaid rfl (Or.inl rfl) (said_gives Em) TB hcode hmT hu hr L hdef hbind hbody
structure NtOk (P : Program) (w : World) (K : PySem.W.Frag) (mg : Str → Option Value) (base : Heap) (cW cS : Addr) (xs : Exs) : Prop where
  ex : ∃ (f : Addr) (fd : FuncData), FnOk P w K mg base (L2.CX P w) 12 f fd ["wont", "stand", "beats", "knob", "book", "choice", "far"] (spNearestTurn K cW cS xs) ∧ mg "nearest_turn" = some (.ref f) ∧ PySem.W.keepIn K (.ref f) = true ∧ ∃ g1 g2 g3,
    KBn K fd ["wont", "stand", "beats", "knob", "book", "choice", "far"] 4 ["book", "choice", "far"] g1 (fun vs zs => vs ++ zs) ∧
    KBn K fd ["wont", "stand", "beats", "knob", "book", "choice", "far"] 4 ["choice", "far", "book"] g2 (fun vs zs => vs ++ (zs.drop 2 ++ zs.take 2)) ∧
    KBn K fd ["wont", "stand", "beats", "knob", "book", "choice", "far"] 4 ["book", "choice"] g3 (fun vs zs => vs ++ (zs ++ [.int 1000]))
theorem nt_ok {P : Program} {w : World} {K : PySem.W.Frag} {mg : Str → Option Value} {base : Heap} {cW cS : Addr} {xs : Exs} {f : Addr} {fd : FuncData} (F : FunD K "nearest_turn" "nearest_turn" (defArgs sNearestTurn) (defBody sNearestTurn) (defScope sNearestTurn) [] [("far", .int 1000)] f fd)
    (G : FnOk P w K mg base (L2.CX P w) 12 f fd ["wont", "stand", "beats", "knob", "book", "choice", "far"] (spNearestTurn K cW cS xs)) (hm : mg "nearest_turn" = some (.ref f)) (kp : PySem.W.keepIn K (.ref f) = true) : NtOk P w K mg base cW cS xs := by
  have l4 : ∀ {l : List Value}, l.length = 4 → ∃ a b c d, l = [a, b, c, d] := fun {l} h => by
    match l, h with
    | [a, b, c, d], _ => exact ⟨a, b, c, d, rfl⟩
  have l3 : ∀ {l : List Value}, l.length = 3 → ∃ a b c, l = [a, b, c] := fun {l} h => by
    match l, h with
    | [a, b, c], _ => exact ⟨a, b, c, rfl⟩
  have l2 : ∀ {l : List Value}, l.length = 2 → ∃ a b, l = [a, b] := fun {l} h => by
    match l, h with
    | [a, b], _ => exact ⟨a, b, rfl⟩
  have l1 : ∀ {l : List Value}, l.length = 1 → ∃ a, l = [a] := fun {l} h => by
    match l, h with
    | [a], _ => exact ⟨a, rfl⟩
  have app : ∀ {a b : List V} {c d : List Value}, Vals a c → Vals b d → Vals (a ++ b) (c ++ d) := fun r1 r2 => r1.append r2
  obtain ⟨m1, k1⟩ := F.kbinds0 4 (["book", "choice", "far"] : List Str) [] (fun vs mz zs => vs ++ zs) (by simp) (by simp) (fun r1 _ r3 => app r1 r3) (fun D doc pm an cdv ct us mv ws h1 h2 h3 => by
    obtain ⟨a, b, c, d, rfl⟩ := l4 h1
    obtain ⟨x, y, z, rfl⟩ := l3 h3
    obtain rfl := List.length_eq_zero_iff.mp h2
    rfl) (ps := (["wont", "stand", "beats", "knob", "book", "choice", "far"] : List Str))
  obtain ⟨m2, k2⟩ := F.kbinds0 4 (["choice", "far", "book"] : List Str) [] (fun vs mz zs => vs ++ (zs.drop 2 ++ zs.take 2)) (by simp) (by simp) (fun r1 _ r3 => app r1 (app (r3.drop 2) (r3.take 2))) (fun D doc pm an cdv ct us mv ws h1 h2 h3 => by
    obtain ⟨a, b, c, d, rfl⟩ := l4 h1
    obtain ⟨x, y, z, rfl⟩ := l3 h3
    obtain rfl := List.length_eq_zero_iff.mp h2
    rfl) (ps := (["wont", "stand", "beats", "knob", "book", "choice", "far"] : List Str))
  obtain ⟨m3, k3⟩ := F.kbinds0 4 (["book", "choice"] : List Str) [("far", .int 1000)] (fun vs mz zs => vs ++ (zs ++ mz)) (by simp) (by simp) (fun r1 r2 r3 => app r1 (app r3 r2)) (fun D doc pm an cdv ct us mv ws h1 h2 h3 => by
    obtain ⟨a, b, c, d, rfl⟩ := l4 h1
    obtain ⟨x, y, rfl⟩ := l2 h3
    obtain ⟨m, rfl⟩ := l1 h2
    exact ⟨_, _, _, _, _, _, rfl, rfl, rfl⟩) (ps := (["wont", "stand", "beats", "knob", "book", "choice", "far"] : List Str))
  exact ⟨f, fd, G, hm, kp, _, _, _, k1, k2, k3⟩
/-- nearest_turn(wont, stand, beats, knob, k = v, ..) in a lambda -/
theorem pe_nt1 {X : Cx} {cW cS : Addr} {xs : Exs} {E : XK} {p pos : Pos} {e : Expr} {es : List Expr} {kws : List Keyword} {t tk : TA} (N : NtOk X.prog X.w X.K X.mg X.base cW cS xs) (hr : Room 12 X.A) (hx : Passes (L2.CX X.prog X.w) X E) (ha : PA X (e :: es) t) (hkw : PK X kws tk) (hks : (backToKw pos (keywordEach kws X.env)).filterMap (·.1) = (["book", "choice", "far"] : List Str) := by rfl)
    (hg : Gl X "nearest_turn" := by rfl) (hall : (backToKw pos (keywordEach kws X.env)).all (·.1.isSome) = true := by rfl) (he : starEach (e :: es) X.env = (false, eval e X.env) :: starEach es X.env := by rfl) (hpl : ((backTo pos (starEach (e :: es) X.env)).any (·.1) || (backToKw pos (keywordEach kws X.env)).any (·.1.isNone)) = false := by rfl) :
    PE X (.Call (.Name "nearest_turn" p) (e :: es) kws pos) (L2.tCallN 4 3 (spNearestTurn X.K cW cS xs) (fun vs zs => vs ++ zs) E t tk) := by
  obtain ⟨f, fd, G, hm, kp, g1, g2, g3, k1, k2, k3⟩ := N.ex
  exact pe_callN G hr hg hm kp k1 hx ha hkw hall hks (by decide) he hpl
theorem pe_nt2 {X : Cx} {cW cS : Addr} {xs : Exs} {E : XK} {p pos : Pos} {e : Expr} {es : List Expr} {kws : List Keyword} {t tk : TA} (N : NtOk X.prog X.w X.K X.mg X.base cW cS xs) (hr : Room 12 X.A) (hx : Passes (L2.CX X.prog X.w) X E) (ha : PA X (e :: es) t) (hkw : PK X kws tk) (hks : (backToKw pos (keywordEach kws X.env)).filterMap (·.1) = (["choice", "far", "book"] : List Str) := by rfl)
    (hg : Gl X "nearest_turn" := by rfl) (hall : (backToKw pos (keywordEach kws X.env)).all (·.1.isSome) = true := by rfl) (he : starEach (e :: es) X.env = (false, eval e X.env) :: starEach es X.env := by rfl) (hpl : ((backTo pos (starEach (e :: es) X.env)).any (·.1) || (backToKw pos (keywordEach kws X.env)).any (·.1.isNone)) = false := by rfl) :
    PE X (.Call (.Name "nearest_turn" p) (e :: es) kws pos) (L2.tCallN 4 3 (spNearestTurn X.K cW cS xs) (fun vs zs => vs ++ (zs.drop 2 ++ zs.take 2)) E t tk) := by
  obtain ⟨f, fd, G, hm, kp, g1, g2, g3, k1, k2, k3⟩ := N.ex
  exact pe_callN G hr hg hm kp k2 hx ha hkw hall hks (by decide) he hpl
theorem pe_nt3 {X : Cx} {cW cS : Addr} {xs : Exs} {E : XK} {p pos : Pos} {e : Expr} {es : List Expr} {kws : List Keyword} {t tk : TA} (N : NtOk X.prog X.w X.K X.mg X.base cW cS xs) (hr : Room 12 X.A) (hx : Passes (L2.CX X.prog X.w) X E) (ha : PA X (e :: es) t) (hkw : PK X kws tk) (hks : (backToKw pos (keywordEach kws X.env)).filterMap (·.1) = (["book", "choice"] : List Str) := by rfl)
    (hg : Gl X "nearest_turn" := by rfl) (hall : (backToKw pos (keywordEach kws X.env)).all (·.1.isSome) = true := by rfl) (he : starEach (e :: es) X.env = (false, eval e X.env) :: starEach es X.env := by rfl) (hpl : ((backTo pos (starEach (e :: es) X.env)).any (·.1) || (backToKw pos (keywordEach kws X.env)).any (·.1.isNone)) = false := by rfl) :
    PE X (.Call (.Name "nearest_turn" p) (e :: es) kws pos) (L2.tCallN 4 2 (spNearestTurn X.K cW cS xs) (fun vs zs => vs ++ (zs ++ [.int 1000])) E t tk) := by
  obtain ⟨f, fd, G, hm, kp, g1, g2, g3, k1, k2, k3⟩ := N.ex
  exact pe_callN G hr hg hm kp k3 hx ha hkw hall hks (by decide) he hpl
end WB

namespace WB
open PySem L2 LamX
def qn (n : Str) : Str := n ++ ".<locals>." ++ "<lambda>"
def spLRefusedRight (Tb : List (Addr × Str)) (K : PySem.W.Frag) (cW cS : Addr) : Sp := fun vs H Q _ => ∃ (m wl pw ta a kk : Addr) (W : Pm.Wd) (st0 : Pm.Stand) (k : Pm.Knob), vs = [.ref wl, .ref pw, .ref ta, .ref a, .ref kk] ∧ m ≠ wl ∧ WellAt H wl ∧ W.Ok ∧ k.ok W ∧ WontAt cW H pw W ∧ ToldAt H ta W ∧ StAt H a W.nb W.sz st0 ∧ KnobAt H kk k ∧ Tabs Tb H ∧ ∀ H', SS m H H' → WellAt H' wl → Tabs Tb H' → Q (.bl true) H'
theorem SS.upd {m : Addr} {H H1 : Hp} {F : Addr} {o : HO} (s : SS m H H1) (h : H F = none) : SS m H (upd H1 F o) := ⟨fun b u e h' => (upd_ne (ne_of_none e h)).trans (s.a b u e h'), fun u e h' => (upd_ne (ne_of_none e h)).trans (s.k u e h')⟩
theorem SS.made {m : Addr} {H : Hp} {F : Addr} {o : HO} (h : H F = none) : SS m H (L2.upd H F o) := SS.upd SS.rf h
theorem tabs_made {T : List (Addr × Str)} {H : Hp} {F : Addr} {o : HO} (h : Tabs T H) (hF : H F = none) : Tabs T (upd H F o) := tabs_same (sameUpd hF) h
theorem tabs_lst {T : List (Addr × Str)} {H : Hp} {F : Addr} {xs : List V} {o : HO} (h : Tabs T H) (hF : H F = some (.lst xs)) : Tabs T (upd H F o) := fun p hp => by
  obtain ⟨ps, h1, h2, h3⟩ := h p hp
  refine ⟨ps, (upd_ne (ne_of h1 hF (by simp))).trans h1, h2, fun pos cv e => ?_⟩
  obtain ⟨c, h4, h5⟩ := h3 pos cv e
  exact ⟨c, h4, (upd_ne (ne_of h5 hF (by simp [CodeO]))).trans h5⟩
theorem OddKnob.ss {m : Addr} {H H' : Hp} {z : V} (s : SS m H H') (h : OddKnob H z) : OddKnob H' z := by
  cases h with
  | non => exact .non
  | str z => exact .str z
  | gain h => exact .gain (s _ _ h safe_tup)
  | feed h => exact .feed (s _ _ h safe_tup)
section
variable {P : Program} {w : World} {K : PySem.W.Frag} {mg : Str → Option Value} {base : Heap} {cW cS dW : Addr} {xs : Exs}
theorem nt_stand {H : Hp} {Q : VK} {pw : Addr} {W : Pm.Wd} {y z b c f : V} (hw : WontAt cW H pw W) (fy : Flat y) (fb : Flat b) (fc : Flat c) (ff : Flat f) (q : ∀ H', Same H H' → Q (.str "stand") H') : spNearestTurn K cW cS xs [.ref pw, .non, y, z, b, c, f] H Q (saidE xs Q) :=
  ⟨pw, W, _, y, z, b, c, f, rfl, hw, fy, fb, fc, ff, .inl ⟨rfl, fun H' s => .inr (.inl ⟨rfl, q H' s⟩)⟩⟩
theorem nt_beat {H : Hp} {Q : VK} {pw a : Addr} {W : Pm.Wd} {st0 : Pm.Stand} {y z b c f : V} (hw : WontAt cW H pw W) (hs : StAt H a W.nb W.sz st0) (fy : Flat y) (hy : inR y 1 60 = false) (fb : Flat b) (fc : Flat c) (ff : Flat f) (q : ∀ H', Same H H' → Q (.str "beat") H') : spNearestTurn K cW cS xs [.ref pw, .ref a, y, z, b, c, f] H Q (saidE xs Q) :=
  ⟨pw, W, _, y, z, b, c, f, rfl, hw, fy, fb, fc, ff, .inr ⟨a, st0, rfl, hs, .inl ⟨hy, fun H' s => .inr (.inr (.inl ⟨rfl, q H' s⟩))⟩⟩⟩
theorem nt_knob {H : Hp} {Q : VK} {pw a : Addr} {W : Pm.Wd} {st0 : Pm.Stand} {y z b c f : V} (hw : WontAt cW H pw W) (hs : StAt H a W.nb W.sz st0) (fy : Flat y) (hy : inR y 1 60 = true) (hz : OddKnob H z) (fb : Flat b) (fc : Flat c) (ff : Flat f) (q : ∀ H', Same H H' → Q (.str "knob") H') : spNearestTurn K cW cS xs [.ref pw, .ref a, y, z, b, c, f] H Q (saidE xs Q) :=
  ⟨pw, W, _, y, z, b, c, f, rfl, hw, fy, fb, fc, ff, .inr ⟨a, st0, rfl, hs, .inr ⟨hy, .inl ⟨hz, fun H' s => .inr (.inr (.inr (.inl ⟨rfl, q H' s⟩)))⟩⟩⟩⟩
theorem nt_book {H : Hp} {Q : VK} {pw a kk : Addr} {W : Pm.Wd} {st0 : Pm.Stand} {k : Pm.Knob} {y b c f : V} (hw : WontAt cW H pw W) (hs : StAt H a W.nb W.sz st0) (fy : Flat y) (hy : inR y 1 60 = true) (hk : KnobAt H kk k) (ok : k.ok W) (fb : Flat b) (fc : Flat c) (ff : Flat f) (hc : chOk W b c = false) (q : ∀ H', Same H H' → Q (.str "book") H') : spNearestTurn K cW cS xs [.ref pw, .ref a, y, .ref kk, b, c, f] H Q (saidE xs Q) :=
  ⟨pw, W, _, y, _, b, c, f, rfl, hw, fy, fb, fc, ff, .inr ⟨a, st0, rfl, hs, .inr ⟨hy, .inr ⟨kk, k, rfl, hk, ok, .inl ⟨hc, fun H' s => .inr (.inr (.inr (.inr ⟨rfl, q H' s⟩)))⟩⟩⟩⟩⟩
theorem nt_far {H : Hp} {Q : VK} {pw a kk : Addr} {W : Pm.Wd} {st0 : Pm.Stand} {k : Pm.Knob} {y b c f : V} (hw : WontAt cW H pw W) (hs : StAt H a W.nb W.sz st0) (fy : Flat y) (hy : inR y 1 60 = true) (hk : KnobAt H kk k) (ok : k.ok W) (fb : Flat b) (fc : Flat c) (ff : Flat f) (hc : chOk W b c = true) (hf : inR f 0 1000000000 = false) (q : ∀ H', Same H H' → Q (.str "beat") H') : spNearestTurn K cW cS xs [.ref pw, .ref a, y, .ref kk, b, c, f] H Q (saidE xs Q) :=
  ⟨pw, W, _, y, _, b, c, f, rfl, hw, fy, fb, fc, ff, .inr ⟨a, st0, rfl, hs, .inr ⟨hy, .inr ⟨kk, k, rfl, hk, ok, .inr ⟨hc, .inl ⟨hf, fun H' s => .inr (.inr (.inl ⟨rfl, q H' s⟩))⟩⟩⟩⟩⟩⟩
theorem nt_due {H : Hp} {Q : VK} {pw a kk : Addr} {W : Pm.Wd} {st0 : Pm.Stand} {k : Pm.Knob} {T spot wish : Nat} {far : Int} (hw : WontAt cW H pw W) (hs : StAt H a W.nb W.sz st0) (hT : 0 < T) (hT2 : T ≤ 60) (hk : KnobAt H kk k) (ok : k.ok W) (hb : spot < W.nb) (hc : wish < W.sz spot) (hf : 0 ≤ far) (hf2 : far ≤ 1000000000) (q : ∀ H', Same H H' → Q (dueV (dueOf W st0 k T far spot wish)) H') : spNearestTurn K cW cS xs [.ref pw, .ref a, .int (T : Nat), .ref kk, .int (spot : Nat), .int (wish : Nat), .int far] H Q (saidE xs Q) := by
  refine ⟨pw, W, _, _, _, _, _, _, rfl, hw, flat_int _, flat_int _, flat_int _, flat_int _, .inr ⟨a, st0, rfl, hs, .inr ⟨?_, .inr ⟨kk, k, rfl, hk, ok, .inr ⟨?_, .inr ⟨T, spot, wish, far, rfl, rfl, rfl, rfl, ?_, ?_⟩⟩⟩⟩⟩⟩
  · exact decide_eq_true (by omega)
  · show (decide _ && decide _) = true
    rw [decide_eq_true (show (0 : Int) ≤ (spot : Nat) ∧ ((spot : Nat) : Int) ≤ (W.nb : Int) - 1 by omega)]
    exact decide_eq_true (show (0 : Int) ≤ (wish : Nat) ∧ ((wish : Nat) : Int) ≤ (W.sz spot : Int) - 1 by omega)
  · exact decide_eq_true ⟨hf, hf2⟩
  · cases e : dueOf W st0 k T far spot wish with
    | none => intro H' s; have := q H' s; rw [e] at this; exact .inl ⟨rfl, this⟩
    | some r => intro H' s; have := q H' s; rw [e] at this; exact this
abbrev sLRefusedRight : Stmt := top 70
theorem scLRefusedRight : FnScope ["_law_well_here", "_law_wont", "_law_told_here", "_law_stand_here", "_law_knob_here", "_law_many", "_law_odd", "_law_none", "_law_beyond", "_law_found"] ["_law_well_here", "_law_wont", "_law_told_here", "_law_stand_here", "_law_knob_here"] (defScope sLRefusedRight) := ⟨rfl, rfl, rfl, by decide +kernel, rfl, by decide +kernel, by decide +kernel⟩
theorem ok_LRefusedRight {Tb : List (Addr × Str)} {f c Pt : Addr} {fd : FuncData} (F : FunC K "_law_refused_right" "_law_refused_right" sLRefusedRight c f fd) (T : NoG mg) (Sd : SaidOk K mg) (Em : Exm K mg xs) (Nt : NtOk P w K mg base cW cS xs) (TB : TabB base mg c Pt) (hmT : (Pt, qn "_law_refused_right") ∈ Tb) (hu : ∀ p ∈ Tb, p.1 = Pt → p.2 = qn "_law_refused_right") (c__law_one : Cal P w K mg base CX0 2 "_law_one" ["_law_well_here", "_law_some"] (spLOne K cW cS)) : FnOk P w K mg base CX0 15 f fd ["_law_well_here", "_law_wont", "_law_told_here", "_law_stand_here", "_law_knob_here"] (spLRefusedRight Tb K cW cS) := by
  refine F.ok scLRefusedRight (fun vs H Q E h => ?_) (fun A outer s H vs Q E hr h => ?_)
  · repeat (first | (obtain ⟨rfl, _⟩ := h; rfl) | (obtain ⟨_, h⟩ := h))
  · obtain ⟨m, wl, pw, ta, a, kk, W, st0, k, rfl, hmw, hw, ok, kok, hWt, hta, hst, hkk, htb, kont⟩ := h
    refine ⟨_, (pss_cons (ps_set (i := 5) scLRefusedRight.nd rfl (Or.inr rfl) (pe_cal c__law_one (hr.mono (by decide)) pass0 (pa_cons (pv 0) (pa_cons (pe_lst (pa_cons pe_int (pa_cons pe_int (pa_cons pe_non (pa_cons pe_bl (pa_cons pe_str pa_nil)))))) pa_nil))))
      (pss_cons (ps_set (i := 6) scLRefusedRight.nd rfl (Or.inr rfl) (pe_cal c__law_one (hr.mono (by decide)) pass0 (pa_cons (pv 0) (pa_cons (pe_lst (pa_cons pe_non (pa_cons (pe_tup (pa_cons pe_str (pa_cons pe_int (pa_cons pe_int pa_nil)))) (pa_cons (pe_tup (pa_cons pe_str (pa_cons pe_int (pa_cons pe_int (pa_cons pe_int (pa_cons pe_int pa_nil)))))) (pa_cons pe_str pa_nil))))) pa_nil))))
      (pss_cons (ps_set (i := 7) scLRefusedRight.nd rfl (Or.inr rfl) (pe_cal c__law_one (hr.mono (by decide)) pass0 (pa_cons (pv 0) (pa_cons (pe_lst (pa_cons (pe_tup (pa_cons (pe_un un_neg pe_int) (pa_cons pe_int pa_nil))) (pa_cons (pe_tup (pa_cons (pe_callB call_len (by rfl) T.len PySem.boot_len (pa_cons (pe_ix ix_tup (pv 2) pe_int (fun _ _ => rfl)) pa_nil)) (pa_cons pe_int pa_nil))) (pa_cons (pe_tup (pa_cons pe_int (pa_cons pe_int pa_nil))) (pa_cons (pe_tup (pa_cons pe_non (pa_cons pe_int pa_nil))) (pa_cons (pe_tup (pa_cons pe_int (pa_cons pe_str pa_nil))) (pa_cons (pe_tup (pa_cons pe_bl (pa_cons pe_int pa_nil))) pa_nil))))))) pa_nil))))
      (pss_cons (ps_set (i := 8) scLRefusedRight.nd rfl (Or.inr rfl) (pe_cal c__law_one (hr.mono (by decide)) pass0 (pa_cons (pv 0) (pa_cons (pe_lst (pa_cons (pe_un un_neg pe_int) (pa_cons (pe_op op_add (pe_op op_pow pe_int pe_int) pe_int) (pa_cons pe_non (pa_cons pe_bl (pa_cons pe_str pa_nil)))))) pa_nil))))
      (pss_cons (ps_set (i := 9) scLRefusedRight.nd rfl (Or.inl rfl) (pe_lst (pa_cons (pe_said (k := 12) Sd Em TB hmT hu (hr.mono (by decide)) (t := fun E => L2.tCallN 4 3 (spNearestTurn K cW cS xs) (fun vs zs => vs ++ zs) E (tCons (tVar 1) (tCons (tC .non) (tCons (tVar 5) (tCons (tVar 6) tNil)))) (tCons (tOp (rIxT K) (tVar 7) (tC (.int 0))) (tCons (tOp (rIxT K) (tVar 7) (tC (.int 1))) (tCons (tVar 8) tNil)))) (fun A outer s1 H1 E f c1 hr1 => pe_nt1 Nt hr1 (passes_call (E := E) (takes_of rfl rfl rfl rfl) fun _ _ _ _ h => h) (pa_cons (pv 1) (pa_cons pe_non (pa_cons (pv 5) (pa_cons (pv 6) pa_nil)))) (pk_cons (pe_ix ix_tup (pv 7) pe_int (fun _ _ => rfl)) (pk_cons (pe_ix ix_tup (pv 7) pe_int (fun _ _ => rfl)) (pk_cons (pv 8) pk_nil)))) (lamS_by (by kernel_rfl))) pa_nil)))
      (pss_cons (ps_expr (pe_bm PySem.F.plainAttrs_list PySem.F.slot_list_append PySem.F.type_list_append mt_append (pv 9) (pa_cons (pe_said (k := 12) Sd Em TB hmT hu (hr.mono (by decide)) (t := fun E => L2.tCallN 4 3 (spNearestTurn K cW cS xs) (fun vs zs => vs ++ zs) E (tCons (tVar 1) (tCons (tVar 3) (tCons (tVar 5) (tCons (tVar 6) tNil)))) (tCons (tOp (rIxT K) (tVar 7) (tC (.int 0))) (tCons (tOp (rIxT K) (tVar 7) (tC (.int 1))) (tCons (tVar 8) tNil)))) (fun A outer s1 H1 E f c1 hr1 => pe_nt1 Nt hr1 (passes_call (E := E) (takes_of rfl rfl rfl rfl) fun _ _ _ _ h => h) (pa_cons (pv 1) (pa_cons (pv 3) (pa_cons (pv 5) (pa_cons (pv 6) pa_nil)))) (pk_cons (pe_ix ix_tup (pv 7) pe_int (fun _ _ => rfl)) (pk_cons (pe_ix ix_tup (pv 7) pe_int (fun _ _ => rfl)) (pk_cons (pv 8) pk_nil)))) (lamS_by (by kernel_rfl))) pa_nil)))
      (pss_cons (ps_expr (pe_bm PySem.F.plainAttrs_list PySem.F.slot_list_append PySem.F.type_list_append mt_append (pv 9) (pa_cons (pe_said (k := 12) Sd Em TB hmT hu (hr.mono (by decide)) (t := fun E => L2.tCallN 4 3 (spNearestTurn K cW cS xs) (fun vs zs => vs ++ zs) E (tCons (tVar 1) (tCons (tVar 3) (tCons (tC (.int 3)) (tCons (tVar 6) tNil)))) (tCons (tOp (rIxT K) (tVar 7) (tC (.int 0))) (tCons (tOp (rIxT K) (tVar 7) (tC (.int 1))) (tCons (tVar 8) tNil)))) (fun A outer s1 H1 E f c1 hr1 => pe_nt1 Nt hr1 (passes_call (E := E) (takes_of rfl rfl rfl rfl) fun _ _ _ _ h => h) (pa_cons (pv 1) (pa_cons (pv 3) (pa_cons pe_int (pa_cons (pv 6) pa_nil)))) (pk_cons (pe_ix ix_tup (pv 7) pe_int (fun _ _ => rfl)) (pk_cons (pe_ix ix_tup (pv 7) pe_int (fun _ _ => rfl)) (pk_cons (pv 8) pk_nil)))) (lamS_by (by kernel_rfl))) pa_nil)))
      (pss_cons (ps_expr (pe_bm PySem.F.plainAttrs_list PySem.F.slot_list_append PySem.F.type_list_append mt_append (pv 9) (pa_cons (pe_said (k := 12) Sd Em TB hmT hu (hr.mono (by decide)) (t := fun E => L2.tCallN 4 3 (spNearestTurn K cW cS xs) (fun vs zs => vs ++ zs) E (tCons (tVar 1) (tCons (tVar 3) (tCons (tC (.int 3)) (tCons (tVar 4) tNil)))) (tCons (tOp (rIxT K) (tVar 7) (tC (.int 0))) (tCons (tOp (rIxT K) (tVar 7) (tC (.int 1))) (tCons (tVar 8) tNil)))) (fun A outer s1 H1 E f c1 hr1 => pe_nt1 Nt hr1 (passes_call (E := E) (takes_of rfl rfl rfl rfl) fun _ _ _ _ h => h) (pa_cons (pv 1) (pa_cons (pv 3) (pa_cons pe_int (pa_cons (pv 4) pa_nil)))) (pk_cons (pe_ix ix_tup (pv 7) pe_int (fun _ _ => rfl)) (pk_cons (pe_ix ix_tup (pv 7) pe_int (fun _ _ => rfl)) (pk_cons (pv 8) pk_nil)))) (lamS_by (by kernel_rfl))) pa_nil)))
      (pss_cons (ps_expr (pe_bm PySem.F.plainAttrs_list PySem.F.slot_list_append PySem.F.type_list_append mt_append (pv 9) (pa_cons (pe_said (k := 12) Sd Em TB hmT hu (hr.mono (by decide)) (t := fun E => L2.tCallN 4 3 (spNearestTurn K cW cS xs) (fun vs zs => vs ++ zs) E (tCons (tVar 1) (tCons (tVar 3) (tCons (tC (.int 3)) (tCons (tVar 4) tNil)))) (tCons (tC (.int 0)) (tCons (tC (.int 0)) (tCons (tVar 8) tNil)))) (fun A outer s1 H1 E f c1 hr1 => pe_nt1 Nt hr1 (passes_call (E := E) (takes_of rfl rfl rfl rfl) fun _ _ _ _ h => h) (pa_cons (pv 1) (pa_cons (pv 3) (pa_cons pe_int (pa_cons (pv 4) pa_nil)))) (pk_cons pe_int (pk_cons pe_int (pk_cons (pv 8) pk_nil)))) (lamS_by (by kernel_rfl))) pa_nil)))
      (pss_one (ps_ret (pe_cmpR (op_eqD hr.units) (pv 9) (pe_lst (pa_cons pe_str (pa_cons pe_str (pa_cons pe_str (pa_cons pe_str (pa_cons pe_str pa_nil)))))) (nomark _))))))))))))), ?_⟩
    have n4 := ok.n4
    have n1 := ok.n1
    have p9 : (10 : Int) ^ (9 : Int).toNat = 1000000000 := by decide
    refine ⟨_, rfl, big1000 (by simp), fun l hl => ?_⟩
    have sl := sameUpd (o := .lst [.int 0, .int 61, .non, .bl true, .str "1"]) hl
    refine ⟨wl, l, _, rfl, hw.same sl, upd_same, well_none hw hl, by simp, by simp, fun y H1 s1 hw1 hy => ?_⟩
    have hmany : Flat y ∧ inR y 1 60 = false := by
      simp only [List.mem_cons, List.not_mem_nil, or_false] at hy
      rcases hy with rfl | rfl | rfl | rfl | rfl <;> exact ⟨⟨_, rfl⟩, by decide⟩
    have g1 : SS m H H1 := SS.tr (SS.of sl) (SS.hid (hw.same sl) s1)
    have t1 := tabs_hid (hw.same sl) s1 (tabs_same sl htb)
    clear hy s1 sl hl l
    -- odd
    refine ⟨_, rfl, big1000 (by simp), fun p1 hp1 => ⟨big1000 (by simp), fun p2 hp2 => ⟨big1000 (by simp), fun l hl => ?_⟩⟩⟩
    generalize eA : upd H1 p1 _ = HA at hp2 hl ⊢
    generalize eB : upd HA p2 _ = HB at hl ⊢
    have sA : Same H1 HA := eA ▸ sameUpd hp1
    have sB : Same HA HB := eB ▸ sameUpd hp2
    have sl := sameUpd (o := .lst [.non, .ref p1, .ref p2, .str "gain"]) hl
    have s0 := Same.tr (Same.tr sA sB) sl
    refine ⟨wl, l, _, rfl, hw1.same s0, upd_same, well_none (hw1.same (Same.tr sA sB)) hl, by simp, by simp, fun z H2 s2 hw2 hz => ?_⟩
    have hodd : OddKnob H2 z := by
      have k1 : HB p1 = _ := sB _ _ (show HA p1 = some _ from eA ▸ upd_same)
      have k2 : HB p2 = _ := (show HB p2 = some _ from eB ▸ upd_same)
      have c1 := (SS.hid (m := m) (hw1.same s0) s2).a _ _ (sl _ _ k1) safe_tup
      have c2 := (SS.hid (m := m) (hw1.same s0) s2).a _ _ (sl _ _ k2) safe_tup
      simp only [List.mem_cons, List.not_mem_nil, or_false] at hz
      rcases hz with rfl | rfl | rfl | rfl
      · exact .non
      · exact .gain c1
      · exact .feed c2
      · exact .str _
    have g2 : SS m H H2 := SS.tr g1 (SS.tr (SS.of s0) (SS.hid (hw1.same s0) s2))
    have t2 := tabs_hid (hw1.same s0) s2 (tabs_same s0 t1)
    clear hz s2 sl hl l s0 sA sB eA eB hp1 hp2 HA HB p1 p2
    -- none
    obtain ⟨la, lb, ps, qs, fs, hta2, td⟩ := hta.ss g2
    have lps : ps.length = W.nb := td.bk.1
    refine ⟨_, rfl, _, rfl, big1000 (by simp), fun p1 h1 => ?_⟩
    have m1 := sameUpd (o := .tup [.int (-1), .int 0]) h1
    have k1 : (upd H2 p1 (.tup [.int (-1), .int 0])) p1 = _ := upd_same
    generalize upd H2 p1 (.tup [.int (-1), .int 0]) = HA at m1 k1 ⊢
    refine ⟨_, rfl, _, _, _, _, rfl, rfl, SqT.of (m1 _ _ hta2), rfl, _, _, rfl, .inl ⟨_, SqL.of (m1 _ _ td.a), rfl⟩, big1000 (by simp), fun p2 h2 => ?_⟩
    rw [List.length_map, lps]
    have m2 := sameUpd (o := .tup [.int (W.nb : Nat), .int 0]) h2
    have k2 : (upd HA p2 (.tup [.int (W.nb : Nat), .int 0])) p2 = _ := upd_same
    generalize upd HA p2 (.tup [.int (W.nb : Nat), .int 0]) = HB at m2 k2 ⊢
    refine ⟨big1000 (by simp), fun p3 h3 => ?_⟩
    have m3 := sameUpd (o := .tup [.int 0, .int 9]) h3
    have k3 : (upd HB p3 (.tup [.int 0, .int 9])) p3 = _ := upd_same
    generalize upd HB p3 (.tup [.int 0, .int 9]) = HC at m3 k3 ⊢
    refine ⟨big1000 (by simp), fun p4 h4 => ?_⟩
    have m4 := sameUpd (o := .tup [.non, .int 0]) h4
    have k4 : (upd HC p4 (.tup [.non, .int 0])) p4 = _ := upd_same
    generalize upd HC p4 (.tup [.non, .int 0]) = HD at m4 k4 ⊢
    refine ⟨big1000 (by simp), fun p5 h5 => ?_⟩
    have m5 := sameUpd (o := .tup [.int 0, .str "0"]) h5
    have k5 : (upd HD p5 (.tup [.int 0, .str "0"])) p5 = _ := upd_same
    generalize upd HD p5 (.tup [.int 0, .str "0"]) = HE at m5 k5 ⊢
    refine ⟨big1000 (by simp), fun p6 h6 => ?_⟩
    have m6 := sameUpd (o := .tup [.bl true, .int 0]) h6
    have k6 : (upd HE p6 (.tup [.bl true, .int 0])) p6 = _ := upd_same
    generalize upd HE p6 (.tup [.bl true, .int 0]) = HG at m6 k6 ⊢
    refine ⟨big1000 (by simp), fun l hl => ?_⟩
    have sl := sameUpd (o := .lst [.ref p1, .ref p2, .ref p3, .ref p4, .ref p5, .ref p6]) hl
    have m0 := Same.tr (Same.tr (Same.tr (Same.tr (Same.tr m1 m2) m3) m4) m5) m6
    have s0 := Same.tr m0 sl
    refine ⟨wl, l, _, rfl, hw2.same s0, upd_same, well_none (hw2.same m0) hl, by simp, by simp, fun nn H3 s3 hw3 hn => ?_⟩
    have g3' : SS m _ _ := SS.hid (hw2.same s0) s3
    have hnone : ∃ p u v, nn = .ref p ∧ H3 p = some (.tup [u, v]) ∧ Flat u ∧ Flat v ∧ chOk W u v = false := by
      simp only [List.mem_cons, List.not_mem_nil, or_false] at hn
      rcases hn with rfl | rfl | rfl | rfl | rfl | rfl
      · exact ⟨_, _, _, rfl, g3' _ _ (sl _ _ (m6 _ _ (m5 _ _ (m4 _ _ (m3 _ _ (m2 _ _ k1)))))) safe_tup, ⟨_, rfl⟩, ⟨_, rfl⟩, rfl⟩
      · refine ⟨_, _, _, rfl, g3' _ _ (sl _ _ (m6 _ _ (m5 _ _ (m4 _ _ (m3 _ _ k2))))) safe_tup, ⟨_, rfl⟩, ⟨_, rfl⟩, ?_⟩
        show (decide _ && _) = false
        rw [decide_eq_false (by omega)]; rfl
      · refine ⟨_, _, _, rfl, g3' _ _ (sl _ _ (m6 _ _ (m5 _ _ (m4 _ _ k3)))) safe_tup, ⟨_, rfl⟩, ⟨_, rfl⟩, ?_⟩
        have h5' := ok.s5 0 (by omega)
        show (_ && decide ((0 : Int) ≤ 9 ∧ (9 : Int) ≤ (W.sz 0 : Int) - 1)) = false
        rw [decide_eq_false (by omega), Bool.and_false]
      · exact ⟨_, _, _, rfl, g3' _ _ (sl _ _ (m6 _ _ (m5 _ _ k4))) safe_tup, ⟨_, rfl⟩, ⟨_, rfl⟩, rfl⟩
      · refine ⟨_, _, _, rfl, g3' _ _ (sl _ _ (m6 _ _ k5)) safe_tup, ⟨_, rfl⟩, ⟨_, rfl⟩, ?_⟩
        show (_ && false) = false
        exact Bool.and_false _
      · exact ⟨_, _, _, rfl, g3' _ _ (sl _ _ k6) safe_tup, ⟨_, rfl⟩, ⟨_, rfl⟩, rfl⟩
    have g3 : SS m H2 H3 := SS.tr (SS.of s0) g3'
    have t3 := tabs_hid (hw2.same s0) s3 (tabs_same s0 t2)
    clear hn s3 g3' sl hl l s0 m0 m1 m2 m3 m4 m5 m6 k1 k2 k3 k4 k5 k6 h1 h2 h3 h4 h5 h6 HA HB HC HD HE HG p1 p2 p3 p4 p5 p6
    obtain ⟨np, nu, nv, rfl, hnp, fu, fv, hch⟩ := hnone
    -- beyond
    refine ⟨_, rfl, _, rfl, _, _, rfl, rfl, ⟨by decide, by decide, by decide⟩, _, _, rfl, rfl, big1000 (by simp), fun l hl => ?_⟩
    have sl := sameUpd (o := .lst [.int (-1), .int (10 ^ (9 : Int).toNat + 1), .non, .bl true, .str "5"]) hl
    refine ⟨wl, l, _, rfl, hw3.same sl, upd_same, well_none hw3 hl, by simp, by simp, fun bb H4 s4 hw4 hb => ?_⟩
    have hbey : Flat bb ∧ inR bb 0 1000000000 = false := by
      dsimp only at hb
      rw [p9] at hb
      simp only [List.mem_cons, List.not_mem_nil, or_false] at hb
      rcases hb with rfl | rfl | rfl | rfl | rfl <;> exact ⟨⟨_, rfl⟩, by decide⟩
    have g34 : SS m H3 H4 := SS.tr (SS.of sl) (SS.hid (hw3.same sl) s4)
    have g4 : SS m H H4 := SS.tr g2 (SS.tr g3 g34)
    have t4 := tabs_hid (hw3.same sl) s4 (tabs_same sl t3)
    have hodd4 := (hodd.ss g3).ss g34
    have hnp4 := g34 _ _ hnp safe_tup
    have hWt4 := hWt.ss g4
    have hst4 := hst.ss g4
    have hkk4 := hkk.ss g4
    clear hb s4 sl hl l
    obtain ⟨fm, hm1⟩ := hmany
    obtain ⟨fbb, hb1⟩ := hbey
    -- the five askings
    refine ⟨t4, fun H5 e5 t5 => ?_⟩
    refine ⟨_, rfl, _, rfl, _, rfl, _, rfl, _, _, _, _, rfl, rfl, SqT.of (SS.ext (m := (0 : Nat)) e5 _ _ hnp4 safe_tup), rfl, _, rfl, _, _, _, _, rfl, rfl, SqT.of (SS.ext (m := (0 : Nat)) e5 _ _ hnp4 safe_tup), rfl, _, rfl, rfl, rfl, ?_⟩
    refine nt_stand (hWt4.ss (SS.ext (m := (0 : Nat)) e5)) fm fu fv fbb fun H6 s6 => ⟨big1000 (by simp), fun F hF => ?_⟩
    have g6 : SS m H4 H6 := SS.tr (SS.ext e5) (SS.of s6)
    have hWt6 := hWt4.ss g6
    have hst6 := hst4.ss g6
    have hkk6 := hkk4.ss g6
    have hodd6 := hodd4.ss g6
    have hnp6 := g6 _ _ hnp4 safe_tup
    have hw6 := (WellAt.ext e5 hw4).same s6
    have t6 := tabs_same s6 t5
    have g06 := SS.tr g4 g6
    have hwF : F ≠ wl := well_none hw6 hF
    have G7 : SS m H6 (upd H6 F (.lst [.str "stand"])) := SS.made hF
    have hF7 : (upd H6 F (.lst [.str "stand"])) F = _ := upd_same
    have t7 := tabs_made (o := .lst [.str "stand"]) t6 hF
    have hw7 : WellAt (upd H6 F (.lst [.str "stand"])) wl := hw6.upd hwF
    generalize upd H6 F (.lst [.str "stand"]) = H7 at G7 hF7 t7 hw7 ⊢
    have hch0 : chOk W (.int 0) (.int 0) = true := by
      have h3' := ok.s1 0 (by omega)
      show (decide ((0 : Int) ≤ 0 ∧ (0 : Int) ≤ (W.nb : Int) - 1) && decide ((0 : Int) ≤ 0 ∧ (0 : Int) ≤ (W.sz 0 : Int) - 1)) = true
      rw [decide_eq_true (by omega), decide_eq_true (by omega)]; rfl
    refine ⟨_, rfl, .inl ⟨rfl, _, SqL.of hF7⟩, t7, fun H8 e8 t8 => ?_⟩
    have x := SS.tr G7 (SS.ext e8)
    refine ⟨_, rfl, _, rfl, _, rfl, _, rfl, _, rfl, _, _, _, _, rfl, rfl, SqT.of (x _ _ hnp6 safe_tup), rfl, _, rfl, _, _, _, _, rfl, rfl, SqT.of (x _ _ hnp6 safe_tup), rfl, _, rfl, rfl, rfl, ?_⟩
    refine nt_beat (hWt6.ss x) (hst6.ss x) fm hm1 fu fv fbb fun H9 s9 => ?_
    have hF9 := s9 _ _ (e8 _ _ hF7 (fun ps z => by cases z))
    have t9 := tabs_same s9 t8
    have hw9 := (WellAt.ext e8 hw7).same s9
    refine ⟨F, _, _, rfl, rfl, hF9, by simp [sizeLine_eq], ?_⟩
    have G10 : SS m H6 (upd H9 F (.lst ([.str "stand"] ++ [.str "beat"]))) := SS.upd (SS.tr x (SS.of s9)) hF
    have hF10 : (upd H9 F (.lst ([.str "stand"] ++ [.str "beat"]))) F = _ := upd_same
    have t10 := tabs_lst (o := .lst ([.str "stand"] ++ [.str "beat"])) t9 hF9
    have hw10 : WellAt (upd H9 F (.lst ([.str "stand"] ++ [.str "beat"]))) wl := hw9.upd hwF
    generalize upd H9 F (.lst ([.str "stand"] ++ [.str "beat"])) = H10 at G10 hF10 t10 hw10 ⊢
    clear x
    refine ⟨_, rfl, .inl ⟨rfl, _, SqL.of hF10⟩, t10, fun H11 e11 t11 => ?_⟩
    have x := SS.tr G10 (SS.ext e11)
    refine ⟨_, rfl, _, rfl, _, rfl, _, rfl, _, _, _, _, rfl, rfl, SqT.of (x _ _ hnp6 safe_tup), rfl, _, rfl, _, _, _, _, rfl, rfl, SqT.of (x _ _ hnp6 safe_tup), rfl, _, rfl, rfl, rfl, ?_⟩
    refine nt_knob (hWt6.ss x) (hst6.ss x) (flat_int _) (by decide) (hodd6.ss x) fu fv fbb fun H12 s12 => ?_
    have hF12 := s12 _ _ (e11 _ _ hF10 (fun ps z => by cases z))
    have t12 := tabs_same s12 t11
    have hw12 := (WellAt.ext e11 hw10).same s12
    refine ⟨F, _, _, rfl, rfl, hF12, by simp [sizeLine_eq], ?_⟩
    have G13 : SS m H6 (upd H12 F (.lst (([.str "stand"] ++ [.str "beat"]) ++ [.str "knob"]))) := SS.upd (SS.tr x (SS.of s12)) hF
    have hF13 : (upd H12 F (.lst (([.str "stand"] ++ [.str "beat"]) ++ [.str "knob"]))) F = _ := upd_same
    have t13 := tabs_lst (o := .lst (([.str "stand"] ++ [.str "beat"]) ++ [.str "knob"])) t12 hF12
    have hw13 : WellAt (upd H12 F (.lst (([.str "stand"] ++ [.str "beat"]) ++ [.str "knob"]))) wl := hw12.upd hwF
    generalize upd H12 F (.lst (([.str "stand"] ++ [.str "beat"]) ++ [.str "knob"])) = H13 at G13 hF13 t13 hw13 ⊢
    clear x
    refine ⟨_, rfl, .inl ⟨rfl, _, SqL.of hF13⟩, t13, fun H14 e14 t14 => ?_⟩
    have x := SS.tr G13 (SS.ext e14)
    refine ⟨_, rfl, _, rfl, _, rfl, _, rfl, _, _, _, _, rfl, rfl, SqT.of (x _ _ hnp6 safe_tup), rfl, _, rfl, _, _, _, _, rfl, rfl, SqT.of (x _ _ hnp6 safe_tup), rfl, _, rfl, rfl, rfl, ?_⟩
    refine nt_book (hWt6.ss x) (hst6.ss x) (flat_int _) (by decide) (hkk6.ss x) kok fu fv fbb hch fun H15 s15 => ?_
    have hF15 := s15 _ _ (e14 _ _ hF13 (fun ps z => by cases z))
    have t15 := tabs_same s15 t14
    have hw15 := (WellAt.ext e14 hw13).same s15
    refine ⟨F, _, _, rfl, rfl, hF15, by simp [sizeLine_eq], ?_⟩
    have G16 : SS m H6 (upd H15 F (.lst ((([.str "stand"] ++ [.str "beat"]) ++ [.str "knob"]) ++ [.str "book"]))) := SS.upd (SS.tr x (SS.of s15)) hF
    have hF16 : (upd H15 F (.lst ((([.str "stand"] ++ [.str "beat"]) ++ [.str "knob"]) ++ [.str "book"]))) F = _ := upd_same
    have t16 := tabs_lst (o := .lst ((([.str "stand"] ++ [.str "beat"]) ++ [.str "knob"]) ++ [.str "book"])) t15 hF15
    have hw16 : WellAt (upd H15 F (.lst ((([.str "stand"] ++ [.str "beat"]) ++ [.str "knob"]) ++ [.str "book"]))) wl := hw15.upd hwF
    generalize upd H15 F (.lst ((([.str "stand"] ++ [.str "beat"]) ++ [.str "knob"]) ++ [.str "book"])) = H16 at G16 hF16 t16 hw16 ⊢
    clear x
    refine ⟨_, rfl, .inl ⟨rfl, _, SqL.of hF16⟩, t16, fun H17 e17 t17 => ?_⟩
    have x := SS.tr G16 (SS.ext e17)
    refine ⟨_, rfl, _, rfl, _, rfl, _, rfl, rfl, rfl, ?_⟩
    refine nt_far (hWt6.ss x) (hst6.ss x) (flat_int _) (by decide) (hkk6.ss x) kok (flat_int _) (flat_int _) fbb hch0 hb1 fun H18 s18 => ?_
    have hF18 := s18 _ _ (e17 _ _ hF16 (fun ps z => by cases z))
    have t18 := tabs_same s18 t17
    have hw18 := (WellAt.ext e17 hw16).same s18
    refine ⟨F, _, _, rfl, rfl, hF18, by simp [sizeLine_eq], ?_⟩
    have G19 : SS m H6 (upd H18 F (.lst (((([.str "stand"] ++ [.str "beat"]) ++ [.str "knob"]) ++ [.str "book"]) ++ [.str "beat"]))) := SS.upd (SS.tr x (SS.of s18)) hF
    have hF19 : (upd H18 F (.lst (((([.str "stand"] ++ [.str "beat"]) ++ [.str "knob"]) ++ [.str "book"]) ++ [.str "beat"]))) F = _ := upd_same
    have t19 := tabs_lst (o := .lst (((([.str "stand"] ++ [.str "beat"]) ++ [.str "knob"]) ++ [.str "book"]) ++ [.str "beat"])) t18 hF18
    have hw19 : WellAt (upd H18 F (.lst (((([.str "stand"] ++ [.str "beat"]) ++ [.str "knob"]) ++ [.str "book"]) ++ [.str "beat"]))) wl := hw18.upd hwF
    generalize upd H18 F (.lst (((([.str "stand"] ++ [.str "beat"]) ++ [.str "knob"]) ++ [.str "book"]) ++ [.str "beat"])) = H19 at G19 hF19 t19 hw19 ⊢
    clear x
    refine ⟨_, rfl, big1000 (by simp), fun M hM => ?_⟩
    have sM := sameUpd (o := .lst [.str "stand", .str "beat", .str "knob", .str "book", .str "beat"]) hM
    have ev : PyData.eqv (.list [.str "stand", .str "beat", .str "knob", .str "book", .str "beat"]) (.list [.str "stand", .str "beat", .str "knob", .str "book", .str "beat"]) = true := by decide +kernel
    refine ⟨.list [.str "stand", .str "beat", .str "knob", .str "book", .str "beat"], .list [.str "stand", .str "beat", .str "knob", .str "book", .str "beat"], .lst (SqL.of (sM _ _ hF19)) (.cons (.str _) (.cons (.str _) (.cons (.str _) (.cons (.str _) (.cons (.str _) .nil))))), .lst (SqL.of upd_same) (.cons (.str _) (.cons (.str _) (.cons (.str _) (.cons (.str _) (.cons (.str _) .nil))))), by decide +kernel, by decide +kernel, ?_⟩
    rw [ev]
    exact kont _ (SS.tr g06 (SS.tr G19 (SS.of sM))) (hw19.same sM) (tabs_same sM t19)
end
end WB

namespace WB
open PySem L2 LamX
def spLAgainRight (Tb : List (Addr × Str)) (K : PySem.W.Frag) (cW cS : Addr) : Sp := fun vs H Q _ => ∃ (m wl pw ta a kk : Addr) (W : Pm.Wd) (st0 : Pm.Stand) (k : Pm.Knob), vs = [.ref wl, .ref pw, .ref ta, .ref a, .ref kk] ∧ m ≠ wl ∧ WellAt H wl ∧ W.Ok ∧ k.ok W ∧ WontAt cW H pw W ∧ ToldAt H ta W ∧ StAt H a W.nb W.sz st0 ∧ KnobAt H kk k ∧ Tabs Tb H ∧ ∀ H', SS m H H' → WellAt H' wl → Tabs Tb H' → Q (.bl true) H'
theorem Told.ss {m : Addr} {H H' : Hp} {la lb : Addr} {W : Pm.Wd} {ps qs : List Addr} {fs : List Pm.Fd} (s : SS m H H') (h2 : Told H la lb W ps qs fs) : Told H' la lb W ps qs fs := ⟨s _ _ h2.a safe_refs, s _ _ h2.b safe_refs, h2.bk.ss s, h2.pm, h2.fd.ss s⟩
def RwAt (H : Hp) (W : Pm.Wd) (p : Addr) : Prop := ∃ (a kk q : Addr) (T spot wish : Nat) (far : Int) (st0 : Pm.Stand) (k : Pm.Knob), H p = some (.tup [.ref a, .int (T : Nat), .ref kk, .ref q, .int far]) ∧ H q = some (.tup [.int (spot : Nat), .int (wish : Nat)]) ∧ StAt H a W.nb W.sz st0 ∧ KnobAt H kk k ∧ k.ok W ∧ 0 < T ∧ T ≤ 60 ∧ spot < W.nb ∧ wish < W.sz spot ∧ 0 ≤ far ∧ far ≤ 60
theorem RwAt.ss {m : Addr} {H H' : Hp} {W : Pm.Wd} {p : Addr} (s : SS m H H') (h : RwAt H W p) : RwAt H' W p := by
  obtain ⟨a, kk, q, T, spot, wish, far, st0, k, h1, h2, h3, h4, h5⟩ := h
  exact ⟨a, kk, q, T, spot, wish, far, st0, k, s _ _ h1 safe_tup, s _ _ h2 safe_tup, h3.ss s, h4.ss s, h5⟩
theorem rw_made {H : Hp} {W : Pm.Wd} {a kk q p : Addr} {T spot wish : Nat} {far : Int} {st0 : Pm.Stand} {k : Pm.Knob} (h1 : StAt H a W.nb W.sz st0) (h2 : KnobAt H kk k) (h3 : k.ok W) (h4 : 0 < T) (h5 : T ≤ 60) (h6 : spot < W.nb) (h7 : wish < W.sz spot) (h8 : 0 ≤ far) (h9 : far ≤ 60) (hq : H q = none) (hp : (L2.upd H q (.tup [.int (spot : Nat), .int (wish : Nat)])) p = none) :
    Same H (L2.upd (L2.upd H q (.tup [.int (spot : Nat), .int (wish : Nat)])) p (.tup [.ref a, .int (T : Nat), .ref kk, .ref q, .int far])) ∧ RwAt (L2.upd (L2.upd H q (.tup [.int (spot : Nat), .int (wish : Nat)])) p (.tup [.ref a, .int (T : Nat), .ref kk, .ref q, .int far])) W p := by
  have s1 := sameUpd (o := .tup [.int (spot : Nat), .int (wish : Nat)]) hq
  have s2 := sameUpd (o := .tup [.ref a, .int (T : Nat), .ref kk, .ref q, .int far]) hp
  have s := Same.tr s1 s2
  exact ⟨s, a, kk, q, T, spot, wish, far, st0, k, upd_same, s2 _ _ upd_same, h1.same s, s _ _ h2, h3, h4, h5, h6, h7, h8, h9⟩
structure RwsAt (H : Hp) (W : Pm.Wd) (L : Addr) (rs : List Addr) : Prop where
  l : H L = some (.lst (rs.map V.ref))
  r : ∀ p ∈ rs, RwAt H W p
theorem RwsAt.ss {m : Addr} {H H' : Hp} {W : Pm.Wd} {L : Addr} {rs : List Addr} (s : SS m H H') (h : RwsAt H W L rs) : RwsAt H' W L rs := ⟨s _ _ h.l safe_refs, fun p hp => (h.r p hp).ss s⟩
theorem rws_add1 {H : Hp} {W : Pm.Wd} {L L1 p : Addr} {rs : List Addr} (R : RwsAt H W L rs) (r : RwAt H W p) (hL : H L1 = none) : Same H (L2.upd H L1 (.lst (rs.map V.ref ++ [.ref p]))) ∧ RwsAt (L2.upd H L1 (.lst (rs.map V.ref ++ [.ref p]))) W L1 (rs ++ [p]) := by
  have s := sameUpd (o := .lst (rs.map V.ref ++ [.ref p])) hL
  refine ⟨s, by rw [upd_same, List.map_append]; rfl, fun x hx => ?_⟩
  rcases List.mem_append.mp hx with h | h
  · exact (R.r x h).ss (SS.of (m := (0 : Nat)) s)
  · rw [List.mem_singleton] at h; subst h; exact r.ss (SS.of (m := (0 : Nat)) s)
theorem rws_add2 {H : Hp} {W : Pm.Wd} {L L1 p p' : Addr} {rs : List Addr} (R : RwsAt H W L rs) (r : RwAt H W p) (r' : RwAt H W p') (hL : H L1 = none) : Same H (L2.upd H L1 (.lst (rs.map V.ref ++ [.ref p, .ref p']))) ∧ RwsAt (L2.upd H L1 (.lst (rs.map V.ref ++ [.ref p, .ref p']))) W L1 (rs ++ [p, p']) := by
  have s := sameUpd (o := .lst (rs.map V.ref ++ [.ref p, .ref p'])) hL
  refine ⟨s, by rw [upd_same, List.map_append]; rfl, fun x hx => ?_⟩
  rcases List.mem_append.mp hx with h | h
  · exact (R.r x h).ss (SS.of (m := (0 : Nat)) s)
  · simp only [List.mem_cons, List.not_mem_nil, or_false] at h
    rcases h with rfl | rfl
    · exact r.ss (SS.of (m := (0 : Nat)) s)
    · exact r'.ss (SS.of (m := (0 : Nat)) s)
theorem RwAt.lst {H : Hp} {W : Pm.Wd} {p L : Addr} {xs : List V} {o : HO} (h : RwAt H W p) (hL : H L = some (.lst xs)) : RwAt (L2.upd H L o) W p := by
  have k : ∀ b ys, H b = some (.tup ys) → (L2.upd H L o) b = some (.tup ys) := fun b ys e => (upd_ne (ne_of e hL (by simp))).trans e
  obtain ⟨a, kk, q, T, spot, wish, far, st0, k', h1, h2, ⟨ps, h3, h4, h5⟩, h6, h7⟩ := h
  exact ⟨a, kk, q, T, spot, wish, far, st0, k', k _ _ h1, k _ _ h2, ⟨ps, k _ _ h3, h4, fun b q e => k _ _ (h5 b q e)⟩, k _ _ h6, h7⟩
theorem rws_app {H : Hp} {W : Pm.Wd} {L p : Addr} {rs : List Addr} (R : RwsAt H W L rs) (r : RwAt H W p) : RwsAt (L2.upd H L (.lst (rs.map V.ref ++ [.ref p]))) W L (rs ++ [p]) := by
  refine ⟨by rw [upd_same, List.map_append]; rfl, fun x hx => ?_⟩
  rcases List.mem_append.mp hx with h | h
  · exact (R.r x h).lst R.l
  · rw [List.mem_singleton] at h; subst h; exact r.lst R.l
theorem cut_map (rs : List Addr) (lo hi : Option Int) : ∃ zs : List Addr, cutV (rs.map V.ref) lo hi = zs.map V.ref ∧ (∀ z ∈ zs, z ∈ rs) ∧ zs.length ≤ rs.length := by
  unfold cutV
  refine ⟨_, by rw [← List.map_drop, ← List.map_take], fun z hz => List.mem_of_mem_drop (List.mem_of_mem_take hz), ?_⟩
  rw [List.length_take, List.length_drop]
  omega
section
variable {P : Program} {w : World} {K : PySem.W.Frag} {mg : Str → Option Value} {base : Heap} {cW cS dW : Addr} {xs : Exs}
abbrev sLAgainRight : Stmt := top 71
theorem scLAgainRight : FnScope ["_law_well_here", "_law_wont", "_law_told_here", "_law_stand_here", "_law_knob_here", "_law_spot", "_law_few", "_law_wish", "_law_reach", "_law_third", "_law_other", "_law_there", "_law_rows", "_law_begun", "_law_beats", "_law_one_here", "_law_asked_for", "_law_so_far", "_law_due_here", "_law_shelf", "_law_pick"] ["_law_well_here", "_law_wont", "_law_told_here", "_law_stand_here", "_law_knob_here"] (defScope sLAgainRight) := ⟨rfl, rfl, rfl, by decide +kernel, rfl, by decide +kernel, by decide +kernel⟩
theorem ok_LAgainRight {Tb : List (Addr × Str)} {f c Pt : Addr} {fd : FuncData} (F : FunC K "_law_again_right" "_law_again_right" sLAgainRight c f fd) (T : NoG mg) (Sd : SaidOk K mg) (Em : Exm K mg xs) (Nt : NtOk P w K mg base cW cS xs) (TB : TabB base mg c Pt) (hmT : (Pt, qn "_law_again_right") ∈ Tb) (hu : ∀ p ∈ Tb, p.1 = Pt → p.2 = qn "_law_again_right") (c__law_draw : Cal P w K mg base CX0 1 "_law_draw" ["_law_well_here", "_law_many"] (spLDraw K cW cS)) (c__law_one : Cal P w K mg base CX0 2 "_law_one" ["_law_well_here", "_law_some"] (spLOne K cW cS)) (c__law_knob : Cal P w K mg base CX0 3 "_law_knob" ["_law_well_here", "_law_told_here"] (spLKnob K cW cS)) (c__law_stand : Cal P w K mg base CX0 3 "_law_stand" ["_law_well_here", "_law_told_here"] (spLStand K cW cS)) (c__law_due : Cal P w K mg base CX0 5 "_law_due" ["_law_told_here", "_law_stand_here", "_law_beats", "_law_knob_here", "_law_asked_for", "_law_reach"] (spLDue K cW cS)) : FnOk P w K mg base CX0 15 f fd ["_law_well_here", "_law_wont", "_law_told_here", "_law_stand_here", "_law_knob_here"] (spLAgainRight Tb K cW cS) := by
  refine F.ok scLAgainRight (fun vs H Q E h => ?_) (fun A outer s H vs Q E hr h => ?_)
  · repeat (first | (obtain ⟨rfl, _⟩ := h; rfl) | (obtain ⟨_, h⟩ := h))
  · obtain ⟨m, wl, pw, ta, a, kk, W, st0, k, rfl, hmw, hw, ok, kok, hWt, hta, hst, hkk, htb, kont⟩ := h
    refine ⟨_, (pss_cons (ps_par (i := 5) (j := 6) rfl scLAgainRight.nd rfl rfl (by decide) rfl rfl (pa_cons (pe_cal c__law_draw (hr.mono (by decide)) pass0 (pa_cons (pv 0) (pa_cons (pe_callB call_len (by rfl) T.len PySem.boot_len (pa_cons (pe_ix ix_tup (pv 2) pe_int (fun _ _ => rfl)) pa_nil)) pa_nil))) (pa_cons (pe_op op_add pe_int (pe_cal c__law_draw (hr.mono (by decide)) pass0 (pa_cons (pv 0) (pa_cons pe_int pa_nil)))) pa_nil)) (by rfl))
      (pss_cons (ps_par (i := 7) (j := 8) rfl scLAgainRight.nd rfl rfl (by decide) rfl rfl (pa_cons (pe_cal c__law_draw (hr.mono (by decide)) pass0 (pa_cons (pv 0) (pa_cons (pe_callB call_len (by rfl) T.len PySem.boot_len (pa_cons (pe_ix ix_tup (pe_ix ix_list (pe_ix ix_tup (pv 2) pe_int (fun _ _ => rfl)) (pv 5) (fun _ _ => rfl)) pe_int (fun _ _ => rfl)) pa_nil)) pa_nil))) (pa_cons (pe_cal c__law_one (hr.mono (by decide)) pass0 (pa_cons (pv 0) (pa_cons (pe_lst (pa_cons pe_int (pa_cons pe_int (pa_cons pe_int pa_nil)))) pa_nil))) pa_nil)) (by rfl))
      (pss_cons (ps_par (i := 9) (j := 10) rfl scLAgainRight.nd rfl rfl (by decide) rfl rfl (pa_cons (pe_cal c__law_knob (hr.mono (by decide)) pass0 (pa_cons (pv 0) (pa_cons (pv 2) pa_nil))) (pa_cons (pe_cal c__law_stand (hr.mono (by decide)) pass0 (pa_cons (pv 0) (pa_cons (pv 2) pa_nil))) pa_nil)) (by rfl))
      (pss_cons (ps_set (i := 11) scLAgainRight.nd rfl (Or.inl rfl) (pe_cal c__law_draw (hr.mono (by decide)) pass0 (pa_cons (pv 0) (pa_cons (pe_callB call_len (by rfl) T.len PySem.boot_len (pa_cons (pe_ix ix_tup (pv 2) pe_int (fun _ _ => rfl)) pa_nil)) pa_nil))))
      (pss_cons (ps_set (i := 12) scLAgainRight.nd rfl (Or.inl rfl) (pe_lst (pa_cons (pe_tup (pa_cons (pv 3) (pa_cons (pv 6) (pa_cons (pv 4) (pa_cons (pe_tup (pa_cons (pv 5) (pa_cons (pv 7) pa_nil))) (pa_cons (pv 8) pa_nil)))))) (pa_cons (pe_tup (pa_cons (pv 3) (pa_cons (pv 6) (pa_cons (pv 4) (pa_cons (pe_tup (pa_cons (pv 5) (pa_cons (pv 7) pa_nil))) (pa_cons pe_int pa_nil)))))) pa_nil))))
      (pss_cons (ps_set (i := 12) scLAgainRight.nd rfl (Or.inl rfl) (pe_op op_cat (pv 12) (pe_lst (pa_cons (pe_tup (pa_cons (pv 3) (pa_cons (pv 6) (pa_cons (pv 4) (pa_cons (pe_tup (pa_cons (pv 5) (pa_cons (pe_cal c__law_draw (hr.mono (by decide)) pass0 (pa_cons (pv 0) (pa_cons (pe_callB call_len (by rfl) T.len PySem.boot_len (pa_cons (pe_ix ix_tup (pe_ix ix_list (pe_ix ix_tup (pv 2) pe_int (fun _ _ => rfl)) (pv 5) (fun _ _ => rfl)) pe_int (fun _ _ => rfl)) pa_nil)) pa_nil))) pa_nil))) (pa_cons (pv 8) pa_nil)))))) pa_nil))))
      (pss_cons (ps_set (i := 12) scLAgainRight.nd rfl (Or.inl rfl) (pe_op op_cat (pv 12) (pe_lst (pa_cons (pe_tup (pa_cons (pv 3) (pa_cons (pv 6) (pa_cons (pv 4) (pa_cons (pe_tup (pa_cons (pv 11) (pa_cons (pe_cal c__law_draw (hr.mono (by decide)) pass0 (pa_cons (pv 0) (pa_cons (pe_callB call_len (by rfl) T.len PySem.boot_len (pa_cons (pe_ix ix_tup (pe_ix ix_list (pe_ix ix_tup (pv 2) pe_int (fun _ _ => rfl)) (pv 11) (fun _ _ => rfl)) pe_int (fun _ _ => rfl)) pa_nil)) pa_nil))) pa_nil))) (pa_cons (pv 8) pa_nil)))))) pa_nil))))
      (pss_cons (ps_set (i := 12) scLAgainRight.nd rfl (Or.inl rfl) (pe_op op_cat (pv 12) (pe_lst (pa_cons (pe_tup (pa_cons (pv 3) (pa_cons (pe_op op_add (pv 6) pe_int) (pa_cons (pv 4) (pa_cons (pe_tup (pa_cons (pv 5) (pa_cons (pv 7) pa_nil))) (pa_cons (pv 8) pa_nil)))))) (pa_cons (pe_tup (pa_cons (pv 3) (pa_cons (pv 6) (pa_cons (pv 9) (pa_cons (pe_tup (pa_cons (pv 5) (pa_cons (pv 7) pa_nil))) (pa_cons (pv 8) pa_nil)))))) pa_nil)))))
      (pss_cons (ps_expr (pe_bm PySem.F.plainAttrs_list PySem.F.slot_list_append PySem.F.type_list_append mt_append (pv 12) (pa_cons (pe_tup (pa_cons (pv 10) (pa_cons (pv 6) (pa_cons (pv 4) (pa_cons (pe_tup (pa_cons (pv 5) (pa_cons (pv 7) pa_nil))) (pa_cons (pv 8) pa_nil)))))) pa_nil)))
      (pss_cons (ps_for PassesOwn.never rfl (pi_list (pe_op op_cat (pv 12) (pe_slice sl_list (pv 12) po_none (po_some pe_int)))) (pg_tup (n := 5) rfl (pgs_cons (pg_name (i := 13) scLAgainRight.nd rfl (Or.inr rfl)) (pgs_cons (pg_name (i := 14) scLAgainRight.nd rfl (Or.inr rfl)) (pgs_cons (pg_name (i := 15) scLAgainRight.nd rfl (Or.inr rfl)) (pgs_cons (pg_name (i := 16) scLAgainRight.nd rfl (Or.inl rfl)) (pgs_cons (pg_name (i := 17) scLAgainRight.nd rfl (Or.inr rfl)) pgs_nil))))))
        (pss_cons (ps_set (i := 18) scLAgainRight.nd rfl (Or.inl rfl) (pe_cal c__law_due (hr.mono (by decide)) pass0 (pa_cons (pv 2) (pa_cons (pv 13) (pa_cons (pv 14) (pa_cons (pv 15) (pa_cons (pv 16) (pa_cons (pv 17) pa_nil))))))))
          (pss_cons (ps_asg (pv 16) (pg_tup (n := 2) rfl (pgs_cons (pg_name (i := 19) scLAgainRight.nd rfl (Or.inr rfl)) (pgs_cons (pg_name (i := 20) scLAgainRight.nd rfl (Or.inr rfl)) pgs_nil))))
          (pss_one (ps_if (pt_cmpR op_ne (pe_said (k := 12) Sd Em TB hmT hu (hr.mono (by decide)) (t := fun E => L2.tCallN 4 3 (spNearestTurn K cW cS xs) (fun vs zs => vs ++ zs) E (tCons (tVar 1) (tCons (tVar 13) (tCons (tVar 14) (tCons (tVar 15) tNil)))) (tCons (tVar 19) (tCons (tVar 20) (tCons (tVar 17) tNil)))) (fun A outer s1 H1 E f c1 hr1 => pe_nt1 Nt hr1 (passes_call (E := E) (takes_of rfl rfl rfl rfl) fun _ _ _ _ h => h) (pa_cons (pv 1) (pa_cons (pv 13) (pa_cons (pv 14) (pa_cons (pv 15) pa_nil)))) (pk_cons (pv 19) (pk_cons (pv 20) (pk_cons (pv 17) pk_nil)))) (lamS_by (by kernel_rfl))) (pv 18) (nomark _)) (pss_one (ps_ret pe_bl)) pss_nil)))))
      (pss_one (ps_ret pe_bl)))))))))))), ?_⟩
    have n4 := ok.n4
    have n1 := ok.n1
    obtain ⟨la, lb, ps, qs, fs, htup, td⟩ := id hta
    have lps : ps.length = W.nb := td.bk.1
    refine ⟨_, rfl, _, rfl, _, _, _, _, rfl, rfl, SqT.of htup, rfl, _, _, rfl, .inl ⟨_, SqL.of td.a, rfl⟩, ?_⟩
    rw [List.length_map, lps]
    refine ⟨wl, _, rfl, hw, by omega, by omega, fun spot H1 s1 hw1 hspot => ?_⟩
    refine ⟨_, rfl, wl, 4, rfl, hw1, by omega, by omega, fun f0 H2 s2 hw2 hf0 => ⟨_, _, rfl, rfl, ?_⟩⟩
    obtain ⟨T, hT⟩ : ∃ T, T = 1 + f0 := ⟨_, rfl⟩
    have e1 : (1 + (f0 : Int)) = (T : Int) := by omega
    refine ⟨.int (spot : Nat), .int (T : Nat), congrArg (fun z => [V.int (spot : Nat), V.int z]) e1, ?_⟩
    have hT1 : 0 < T ∧ T ≤ 4 := by omega
    have g2 : SS m H H2 := SS.tr (SS.hid hw s1) (SS.hid hw1 s2)
    have t2 := tabs_hid hw1 s2 (tabs_hid hw s1 htb)
    have hsp : spot < W.nb := by omega
    have td2 := td.ss g2
    have hbp : ∃ p, ps[spot]? = some p := ⟨ps[spot]'(by omega), List.getElem?_eq_getElem _⟩
    obtain ⟨p0, hp0⟩ := hbp
    obtain ⟨o0, gg0, ww0, b1, b2, b3, b4⟩ := td2.bk.2 spot p0 hp0
    have lno : (ordV (W.ord spot)).length = W.sz spot := by rw [ordV_len, ok.ln spot hsp]
    have hz1 := ok.s1 spot hsp
    have hz5 := ok.s5 spot hsp
    refine ⟨_, rfl, _, rfl, _, _, _, _, rfl, rfl, SqT.of (g2 _ _ htup safe_tup), rfl, _, rfl, _, _, _, _, rfl, rfl, SqL.of td2.a, atI_nat (refs_at hp0), _, _, _, _, rfl, rfl, SqT.of b1, rfl, _, _, rfl, .inr ⟨_, b2.sq, rfl⟩, ?_⟩
    rw [lno]
    refine ⟨wl, _, rfl, hw2, by omega, by omega, fun wish H3 s3 hw3 hwish => ?_⟩
    refine ⟨_, rfl, big1000 (by simp), fun l hl => ?_⟩
    have sl := sameUpd (o := .lst [.int 3, .int 20, .int 60]) hl
    refine ⟨wl, l, _, rfl, hw3.same sl, upd_same, well_none hw3 hl, by simp, by simp, fun y H4 s4 hw4 hy => ⟨_, _, rfl, ?_⟩⟩
    have hreach : ∃ far : Int, y = .int far ∧ 0 ≤ far ∧ far ≤ 60 := by
      simp only [List.mem_cons, List.not_mem_nil, or_false] at hy
      rcases hy with h | h | h <;> exact ⟨_, h, by decide, by decide⟩
    obtain ⟨far, rfl, hfar1, hfar2⟩ := hreach
    have g4 : SS m H H4 := SS.tr g2 (SS.tr (SS.hid hw2 s3) (SS.tr (SS.of sl) (SS.hid (hw3.same sl) s4)))
    have t4 := tabs_hid (hw3.same sl) s4 (tabs_same sl (tabs_hid hw2 s3 t2))
    clear s4 hl sl s3 s2 s1 hy
    refine ⟨_, rfl, _, rfl, wl, ta, W, rfl, hw4, ok, (hta.ss g4).hideW hw4, fun kk3 H5 k3 s5 hw5 hk5 ok5 => ⟨_, rfl, _, rfl, wl, ta, W, rfl, hw5, ok, ((hta.ss g4).ss (SS.hid hw4 s5)).hideW hw5, fun a3 H6 st3 s6 hw6 hst6 => ⟨_, _, rfl, ?_⟩⟩⟩
    have g6 : SS m H H6 := SS.tr g4 (SS.tr (SS.hid hw4 s5) (SS.hid hw5 s6))
    have t6 := tabs_hid hw5 s6 (tabs_hid hw4 s5 t4)
    have hk6 := hk5.ss (SS.hid hw5 s6)
    have td6 := td.ss g6
    refine ⟨_, rfl, _, rfl, _, _, _, _, rfl, rfl, SqT.of (g6 _ _ htup safe_tup), rfl, _, _, rfl, .inl ⟨_, SqL.of td6.a, rfl⟩, ?_⟩
    rw [List.length_map, lps]
    refine ⟨wl, _, rfl, hw6, by omega, by omega, fun there H7 s7 hw7 hthere => ?_⟩
    have hth : there < W.nb := by omega
    have g67 := SS.hid hw6 s7
    have g7 := SS.tr g6 g67
    have t7 := tabs_hid hw6 s7 t6
    have hk7 := hk6.ss g67
    have ha7 := hst6.ss g67
    have hst7 := hst.ss g7
    have hkk7 := hkk.ss g7
    clear s7 s6 s5 hk6 hk5 t6 t4 t2
    have hwi : wish < W.sz spot := by omega
    -- two rows
    refine ⟨_, rfl, _, rfl, _, rfl, _, rfl, _, rfl, big1000 (by simp), fun q1 hq1 => ⟨_, rfl, big1000 (by simp), fun p1 hp1 => ?_⟩⟩
    obtain ⟨m1, r1⟩ := rw_made (far := far) (T := T) hst7 hkk7 kok (by omega) (by omega) hsp hwi hfar1 hfar2 hq1 hp1
    generalize L2.upd (L2.upd H7 q1 _) p1 _ = HA at m1 r1 ⊢
    refine ⟨_, rfl, _, rfl, _, rfl, _, rfl, _, rfl, big1000 (by simp), fun q2 hq2 => ⟨big1000 (by simp), fun p2 hp2 => ?_⟩⟩
    obtain ⟨m2, r2⟩ := rw_made (far := 1) (T := T) (hst7.same m1) (m1 _ _ hkk7) kok (by omega) (by omega) hsp hwi (by decide) (by decide) hq2 hp2
    generalize L2.upd (L2.upd HA q2 _) p2 _ = HB at m2 r2 ⊢
    refine ⟨big1000 (by simp), fun L0 hL0 => ?_⟩
    have mL := sameUpd (o := .lst [.ref p1, .ref p2]) hL0
    have R0 : RwsAt (L2.upd HB L0 (.lst [.ref p1, .ref p2])) W L0 [p1, p2] := ⟨upd_same, fun x hx => by
      simp only [List.mem_cons, List.not_mem_nil, or_false] at hx
      rcases hx with rfl | rfl
      · exact (r1.ss (SS.of (m := (0 : Nat)) m2)).ss (SS.of (m := (0 : Nat)) mL)
      · exact r2.ss (SS.of (m := (0 : Nat)) mL)⟩
    have m8 : Same H7 (L2.upd HB L0 (.lst [.ref p1, .ref p2])) := Same.tr (Same.tr m1 m2) mL
    generalize L2.upd HB L0 (.lst [.ref p1, .ref p2]) = H8 at m8 R0 ⊢
    obtain ⟨rs0, hrs0, R0⟩ : ∃ rs, (0 < rs.length ∧ rs.length ≤ 2) ∧ RwsAt H8 W L0 rs := ⟨_, ⟨by simp, by simp⟩, R0⟩
    have hw8 := hw7.same m8
    have t8 := tabs_same m8 t7
    have G8 : SS m H7 H8 := SS.of m8
    clear mL hL0 r1 r2 m1 m2 hq1 hp1 hq2 hp2
    -- the third
    have td7 := td.ss g7
    obtain ⟨o7, gg7, ww7, b7, b8, _, _⟩ := td7.bk.2 spot p0 hp0
    have hbq : ∃ p, ps[there]? = some p := ⟨ps[there]'(by omega), List.getElem?_eq_getElem _⟩
    obtain ⟨p9, hp9⟩ := hbq
    obtain ⟨o9, gg9, ww9, d7, d8, _, _⟩ := td7.bk.2 there p9 hp9
    have lnt : (ordV (W.ord there)).length = W.sz there := by rw [ordV_len, ok.ln there hth]
    have ht1 := ok.s1 there hth
    have ht5 := ok.s5 there hth
    have htup7 := g7 _ _ htup safe_tup
    refine ⟨_, rfl, _, rfl, _, rfl, _, rfl, _, rfl, _, rfl, _, rfl, _, _, _, _, rfl, rfl, SqT.of (G8 _ _ htup7 safe_tup), rfl, _, rfl, _, _, _, _, rfl, rfl, SqL.of (td7.ss G8).a, atI_nat (refs_at hp0), _, _, _, _, rfl, rfl, SqT.of (G8 _ _ b7 safe_tup), rfl, _, _, rfl, .inr ⟨_, (b8.ss G8).sq, rfl⟩, ?_⟩
    rw [lno]
    refine ⟨wl, _, rfl, hw8, by omega, by omega, fun wish3 H9 s9 hw9 hwish3 => ⟨big1000 (by simp), fun q3 hq3 => ⟨_, rfl, big1000 (by simp), fun p3 hp3 => ?_⟩⟩⟩
    have G9 := SS.tr G8 (SS.hid hw8 s9)
    have t9 := tabs_hid hw8 s9 t8
    obtain ⟨m3, r3⟩ := rw_made (far := far) (T := T) (hst7.ss G9) (hkk7.ss G9) kok (by omega) (by omega) hsp (show wish3 < W.sz spot by omega) hfar1 hfar2 hq3 hp3
    have R9 := R0.ss (SS.hid hw8 s9)
    generalize L2.upd (L2.upd H9 q3 _) p3 _ = HC at m3 r3 ⊢
    refine ⟨big1000 (by simp), fun M3 hM3 => ?_⟩
    have mM := sameUpd (o := .lst [.ref p3]) hM3
    have R9' := (R9.ss (SS.of (m := (0 : Nat)) m3)).ss (SS.of (m := (0 : Nat)) mM)
    refine ⟨L0, M3, _, _, rfl, rfl, R9'.l, upd_same, by simp [sizeLine_eq]; omega, fun L1 hL1 => ?_⟩
    obtain ⟨mL1, R1⟩ := rws_add1 R9' (r3.ss (SS.of (m := (0 : Nat)) mM)) hL1
    have m10 := Same.tr (Same.tr m3 mM) mL1
    generalize L2.upd (L2.upd HC M3 _) L1 _ = H10 at m10 R1 ⊢
    obtain ⟨rs1, hrs1, R1⟩ : ∃ rs, (0 < rs.length ∧ rs.length ≤ 3) ∧ RwsAt H10 W L1 rs := ⟨_, ⟨by simp, by simp; omega⟩, R1⟩
    have hw10 := hw9.same m10
    have t10 := tabs_same m10 t9
    have G10 := SS.tr G9 (SS.of m10)
    clear mL1 mM m3 r3 R9 R9' R0 hq3 hp3 hM3 hL1 t9 s9 m8
    -- the fourth
    refine ⟨_, rfl, _, rfl, _, rfl, _, rfl, _, rfl, _, rfl, _, rfl, _, _, _, _, rfl, rfl, SqT.of (G10 _ _ htup7 safe_tup), rfl, _, rfl, _, _, _, _, rfl, rfl, SqL.of (td7.ss G10).a, atI_nat (refs_at hp9), _, _, _, _, rfl, rfl, SqT.of (G10 _ _ d7 safe_tup), rfl, _, _, rfl, .inr ⟨_, (d8.ss G10).sq, rfl⟩, ?_⟩
    rw [lnt]
    refine ⟨wl, _, rfl, hw10, by omega, by omega, fun wish4 H11 s11 hw11 hwish4 => ⟨big1000 (by simp), fun q4 hq4 => ⟨_, rfl, big1000 (by simp), fun p4 hp4 => ?_⟩⟩⟩
    have G11 := SS.tr G10 (SS.hid hw10 s11)
    have t11 := tabs_hid hw10 s11 t10
    obtain ⟨m4, r4⟩ := rw_made (far := far) (T := T) (hst7.ss G11) (hkk7.ss G11) kok (by omega) (by omega) hth (show wish4 < W.sz there by omega) hfar1 hfar2 hq4 hp4
    have R11 := R1.ss (SS.hid hw10 s11)
    generalize L2.upd (L2.upd H11 q4 _) p4 _ = HD at m4 r4 ⊢
    refine ⟨big1000 (by simp), fun M4 hM4 => ?_⟩
    have mM := sameUpd (o := .lst [.ref p4]) hM4
    have R11' := (R11.ss (SS.of (m := (0 : Nat)) m4)).ss (SS.of (m := (0 : Nat)) mM)
    refine ⟨L1, M4, _, _, rfl, rfl, R11'.l, upd_same, by simp [sizeLine_eq]; omega, fun L2' hL2 => ?_⟩
    obtain ⟨mL2, R2⟩ := rws_add1 R11' (r4.ss (SS.of (m := (0 : Nat)) mM)) hL2
    have m12 := Same.tr (Same.tr m4 mM) mL2
    generalize L2.upd (L2.upd HD M4 _) L2' _ = H12 at m12 R2 ⊢
    obtain ⟨rs2, hrs2, R2⟩ : ∃ rs, (0 < rs.length ∧ rs.length ≤ 4) ∧ RwsAt H12 W L2' rs := ⟨_, ⟨by simp, by simp; omega⟩, R2⟩
    have hw12 := hw11.same m12
    have t12 := tabs_same m12 t11
    have G12 := SS.tr G11 (SS.of m12)
    clear mL2 mM m4 r4 R11 R11' R1 hq4 hp4 hM4 hL2 t11 s11 m10
    -- the fifth and the sixth
    have e2 : (T : Int) + 1 = ((T + 1 : Nat) : Int) := rfl
    refine ⟨_, rfl, _, rfl, _, rfl, _, _, rfl, rfl, _, rfl, _, rfl, _, rfl, big1000 (by simp), fun q5 hq5 => ⟨_, rfl, big1000 (by simp), fun p5 hp5 => ?_⟩⟩
    obtain ⟨m5, r5⟩ := rw_made (far := far) (T := T + 1) (hst7.ss G12) (hkk7.ss G12) kok (by omega) (by omega) hsp hwi hfar1 hfar2 hq5 hp5
    change tCons _ _ _ (L2.upd (L2.upd H12 q5 (.tup [.int (spot : Nat), .int (wish : Nat)])) p5 (.tup [.ref a, .int ((T + 1 : Nat) : Int), .ref kk, .ref q5, .int far])) _
    generalize L2.upd (L2.upd H12 q5 _) p5 _ = HE at m5 r5 ⊢
    have G12e := SS.tr G12 (SS.of m5)
    refine ⟨_, rfl, _, rfl, _, rfl, _, rfl, _, rfl, big1000 (by simp), fun q6 hq6 => ⟨_, rfl, big1000 (by simp), fun p6 hp6 => ?_⟩⟩
    obtain ⟨m6, r6⟩ := rw_made (far := far) (T := T) (hst7.ss G12e) (hk7.ss G12e) ok5 (by omega) (by omega) hsp hwi hfar1 hfar2 hq6 hp6
    generalize L2.upd (L2.upd HE q6 _) p6 _ = HF at m6 r6 ⊢
    refine ⟨big1000 (by simp), fun M5 hM5 => ?_⟩
    have mM := sameUpd (o := .lst [.ref p5, .ref p6]) hM5
    have R12' := R2.ss (SS.of (m := (0 : Nat)) (Same.tr (Same.tr m5 m6) mM))
    refine ⟨L2', M5, _, _, rfl, rfl, R12'.l, upd_same, by simp [sizeLine_eq]; omega, fun L4 hL4 => ?_⟩
    obtain ⟨mL4, R4⟩ := rws_add2 R12' ((r5.ss (SS.of (m := (0 : Nat)) m6)).ss (SS.of (m := (0 : Nat)) mM)) (r6.ss (SS.of (m := (0 : Nat)) mM)) hL4
    generalize hHG : L2.upd HF M5 _ = HG at mL4 R4 hL4 mM ⊢
    have mG := Same.tr (Same.tr m5 m6) mM
    have G13 : SS m H7 HG := SS.tr G12 (SS.of mG)
    have hw13 := hw12.same mG
    have t13 := tabs_same mG t12
    have hL4w : L4 ≠ wl := well_none hw13 hL4
    generalize L2.upd HG L4 _ = H14 at mL4 R4 ⊢
    obtain ⟨rs4, hrs4, R4⟩ : ∃ rs, (0 < rs.length ∧ rs.length ≤ 6) ∧ RwsAt H14 W L4 rs := ⟨_, ⟨by simp, by simp; omega⟩, R4⟩
    have hw14 := hw13.same mL4
    have t14 := tabs_same mL4 t13
    have G14 := SS.tr G13 (SS.of mL4)
    -- the seventh
    refine ⟨_, rfl, .inl ⟨rfl, _, SqL.of R4.l⟩, _, rfl, _, rfl, _, rfl, _, rfl, _, rfl, big1000 (by simp), fun q7 hq7 => ⟨_, rfl, big1000 (by simp), fun p7 hp7 => ?_⟩⟩
    obtain ⟨m7, r7⟩ := rw_made (far := far) (T := T) (ha7.ss G14) (hkk7.ss G14) kok (by omega) (by omega) hsp hwi hfar1 hfar2 hq7 hp7
    generalize L2.upd (L2.upd H14 q7 _) p7 _ = H15 at m7 r7 ⊢
    have R15 := R4.ss (SS.of (m := (0 : Nat)) m7)
    refine ⟨L4, _, _, rfl, rfl, R15.l, by simp [sizeLine_eq]; omega, ?_⟩
    have R16 := rws_app R15 r7
    have G16 : SS m HG (L2.upd H15 L4 (.lst (rs4.map V.ref ++ [.ref p7]))) := SS.upd (SS.of (Same.tr mL4 m7)) hL4
    have hw16 : WellAt (L2.upd H15 L4 (.lst (rs4.map V.ref ++ [.ref p7]))) wl := (hw14.same m7).upd hL4w
    have t16 : Tabs Tb (L2.upd H15 L4 (.lst (rs4.map V.ref ++ [.ref p7]))) := tabs_lst (tabs_same m7 t14) R15.l
    generalize L2.upd H15 L4 _ = H16 at R16 G16 hw16 t16 ⊢
    obtain ⟨rs, hrs, R⟩ : ∃ rs, (0 < rs.length ∧ rs.length ≤ 7) ∧ RwsAt H16 W L4 rs := ⟨_, ⟨by simp, by simp; omega⟩, R16⟩
    have G := SS.tr G13 G16
    obtain ⟨zs, hzs, hzm, hzl⟩ := cut_map rs none (some 1)
    refine ⟨_, rfl, _, rfl, _, rfl, L4, _, rfl, SqL.of R.l, fun S hS => ?_⟩
    have mS := sameUpd (o := .lst (cutV (rs.map V.ref) none (some 1))) hS
    have hSS : (L2.upd H16 S (.lst (cutV (rs.map V.ref) none (some 1)))) S = _ := upd_same
    generalize L2.upd H16 S _ = HS at mS hSS ⊢
    refine ⟨L4, S, _, _, rfl, rfl, mS _ _ R.l, hSS, by rw [hzs]; simp [sizeLine_eq]; omega, fun M hM => ?_⟩
    rw [hzs, ← List.map_append]
    have mM' := sameUpd (o := .lst ((rs ++ zs).map V.ref)) hM
    have hM17 : (L2.upd HS M (.lst ((rs ++ zs).map V.ref))) M = _ := upd_same
    generalize L2.upd HS M _ = H17 at mM' hM17 ⊢
    have m17 := Same.tr mS mM'
    have g17 : SS m H16 H17 := SS.of m17
    have hw17 := hw16.same m17
    have t17 := tabs_same m17 t16
    refine ⟨M, rfl, ⟨_, SqL.of hM17⟩, for_it (walk_list (xs := (rs ++ zs).map V.ref)) (fun i σ H' => SS m H17 H' ∧ WellAt H' wl ∧ Tabs Tb H' ∧ ∃ x13 x14 x15 x16 x17 x18 x19 x20, σ = [some (.ref wl), some (.ref pw), some (.ref ta), some (.ref a), some (.ref kk), some (.int (spot : Nat)), some (.int (T : Nat)), some (.int (wish : Nat)), some (.int far), some (.ref kk3), some (.ref a3), some (.int (there : Nat)), some (.ref L4), x13, x14, x15, x16, x17, x18, x19, x20]) ?_ ?_ ?_ ?_⟩
    · exact ⟨SS.rf, hw17, t17, _, _, _, _, _, _, _, _, rfl⟩
    · rintro i σ H' _ ⟨s', _⟩; exact SqL.of (s' _ _ hM17 safe_refs)
    · rintro i x σ _ H18 hin ⟨g18, hw18, t18, x13, x14, x15, x16, x17, x18, x19, x20, rfl⟩ ⟨rfl, hx⟩
      obtain ⟨p, hp, rfl⟩ := refs_get hx
      have hpm : p ∈ rs := by
        rcases List.mem_append.mp (List.mem_of_getElem? hp) with h | h
        · exact h
        · exact hzm p h
      obtain ⟨a', kk', q', T', spot', wish', far', st', k', r1, r2, r3, r4, r5, r6, r7, r8, r9, r10, r11⟩ := (R.r p hpm).ss (SS.tr g17 g18)
      have gAll : SS m H H18 := SS.tr g7 (SS.tr G (SS.tr g17 g18))
      refine ⟨p, _, rfl, SqT.of r1, rfl, _, _, rfl, _, _, rfl, _, _, rfl, _, _, rfl, _, _, rfl, rfl, ?_⟩
      refine ⟨_, rfl, _, rfl, _, rfl, _, rfl, _, rfl, _, rfl, ta, a', kk', q', W, st', k', T', spot', wish', far', rfl, ok, r5, r6, by omega, hta.ss gAll, r3, r4, r2, r8, r10, fun H19 s19 => ?_⟩
      refine ⟨_, rfl, q', _, rfl, SqT.of (s19 _ _ r2), rfl, _, _, rfl, _, _, rfl, rfl, ?_⟩
      refine ⟨tabs_same s19 t18, fun H20 e20 t20 => ?_⟩
      refine ⟨_, rfl, _, rfl, _, rfl, _, rfl, _, rfl, _, rfl, _, rfl, rfl, rfl, ?_⟩
      have xx : SS m H18 H20 := SS.tr (SS.of s19) (SS.ext e20)
      refine nt_due (hWt.ss (SS.tr gAll xx)) (r3.ss xx) r6 r7 (xx _ _ r4 safe_tup) r5 r8 r9 r10 (by omega) fun H21 s21 => ?_
      have hsc : scal (dueV (dueOf W st' k' T' far' spot' wish')) (dueV (dueOf W st' k' T' far' spot' wish')) = true := by
        cases dueOf W st' k' T' far' spot' wish' with
        | none => rfl
        | some r => cases r <;> rfl
      refine ⟨_, rfl, hsc, _, rfl, ?_⟩
      refine (if_neg (c := (!decide (dueV (dueOf W st' k' T' far' spot' wish') = dueV (dueOf W st' k' T' far' spot' wish'))) = true) (by simp)).mpr ?_
      exact ⟨SS.tr g18 (SS.tr xx (SS.of s21)), (WellAt.ext e20 (hw18.same s19)).same s21, tabs_same s21 t20, _, _, _, _, _, _, _, _, rfl⟩
    · rintro σ H18 ⟨g18, hw18, t18, _⟩
      exact kont H18 (SS.tr g7 (SS.tr G (SS.tr g17 g18))) hw18 t18
end
end WB

namespace WB
open PySem L2 LamX
theorem pcs_lo {Y : Pm.Sys} (ok : Y.Ok) {T : Nat} {hi : Int} : ∀ {fuel : Nat} {lo : Int} {ps : List (Int × Int)}, Y.pcs T hi fuel lo = some ps → ∀ p ∈ ps, lo ≤ p.1
  | fuel, lo, ps, h, p, hp => by
    unfold Pm.Sys.pcs at h
    by_cases hlt : hi < lo
    · rw [if_pos hlt] at h
      cases h
      simp at hp
    · rw [if_neg hlt] at h
      cases fuel with
      | zero => simp at h
      | succ k =>
        simp only at h
        cases hq : Y.pcs T hi k (Y.last lo T hi + 1) with
        | none => rw [hq] at h; simp at h
        | some qs =>
          rw [hq] at h
          simp only [Option.map_some, Option.some.injEq] at h
          subst h
          rcases List.mem_cons.mp hp with rfl | hp
          · exact Int.le_refl _
          · have h1 := pcs_lo ok hq p hp
            have h2 := ok.n_le_last (n := lo) (hi := hi) (T := T) (by omega)
            omega
theorem due_in {Y : Pm.Sys} (ok : Y.Ok) {T : Nat} {own lo hi d : Int} {spot wish : Nat} (h : Y.due T own lo hi spot wish = some (some d)) : lo ≤ d ∧ d ≤ hi := by
  unfold Pm.Sys.due at h
  cases hp : Y.pcs T hi 300 lo with
  | none => rw [hp] at h; simp at h
  | some ps =>
    rw [hp] at h
    simp only [Option.map_some, Option.some.injEq] at h
    rcases Pm.Sys.near_in ps none d h with e | ⟨p, hm, e, _⟩
    · cases e
    · have h1 := pcs_lo ok hp p hm
      obtain ⟨h2, h3, h4⟩ := ok.pcs_in hp p hm
      have h5 := ok.last_le (n := p.1) (hi := hi) (T := T) h3
      omega
theorem due_amt {W : Pm.Wd} (ok : W.Ok) {st0 : Pm.Stand} {k : Pm.Knob} (kok : k.ok W) {T : Nat} {far d : Int} {spot wish : Nat} (h : dueOf W st0 k T far spot wish = some (some d)) : Pm.isStr k = true ∨ Pm.Amt d := by
  by_cases e : Pm.isStr k = true
  · exact .inl e
  · right
    have h2 := due_in (Pm.sys_ok ok (s := st0) kok) h
    unfold bnd at h2
    rw [if_neg e] at h2
    dsimp only at h2
    constructor <;> omega
theorem cut_mapI (ns : List Int) (lo hi : Option Int) : ∃ zs : List Int, cutV (ns.map V.int) lo hi = zs.map V.int ∧ zs.length ≤ ns.length := by
  unfold cutV
  refine ⟨_, by rw [← List.map_drop, ← List.map_take], ?_⟩
  rw [List.length_take, List.length_drop]
  omega
def spLaw (Tb : List (Addr × Str)) (K : PySem.W.Frag) (cW cS : Addr) : Sp := fun vs H Q _ => ∃ (sc : Addr) (ns : List Int), vs = [.ref sc] ∧ SqL K H sc (ns.map V.int) ∧ Tabs Tb H ∧ ns.length ≤ 100000 ∧ ∀ H', Q (.bl true) H'
section
variable {P : Program} {w : World} {K : PySem.W.Frag} {mg : Str → Option Value} {base : Heap} {cW cS dW : Addr} {xs : Exs}
theorem law_row {σ : St} {H : Hp} {D : Ends} {W : Pm.Wd} {st0 : Pm.Stand} {k : Pm.Knob} {T spot wish : Nat} {far : Int} {ta a kk : Addr} (ok : W.Ok) (kok : k.ok W) (hT : 0 < T) (hT2 : T ≤ 100) (hsp : spot < W.nb) (hta : ToldAt H ta W) (hst : StAt H a W.nb W.sz st0) (hkk : KnobAt H kk k)
    (h3 : σ[3]? = some (some (.ref ta))) (h5 : σ[5]? = some (some (.ref a))) (h6 : σ[6]? = some (some (.ref kk))) (h7 : σ[7]? = some (some (.int (T : Nat)))) (h8 : σ[8]? = some (some (.int (spot : Nat)))) (h9 : σ[9]? = some (some (.int (wish : Nat)))) (hd : σ[11]? = some (some (dueV (dueOf W st0 k T far spot wish)))) (q : ∀ H', Same H H' → D.nx σ H') :
    tIfS (tAnd (tB (tNotN (tVar 11))) (tTest (tOp rNe (tVar 11) (tC (.str "many"))))) (tIfS (tTest (tOp rNe (tOp (rIxT K) (tOp (rIxL K) (tCall (spLRowBy K cW cS) [] E0 (tCons (tVar 3) (tCons (tVar 5) (tCons (tVar 6) (tCons (tVar 11) (tCons (tVar 7) tNil)))))) (tUn (rU fun i => .int (-i)) (tC (.int 1)))) (tVar 8)) (tVar 9))) (tRet (tC (.bl false))) tNext) tNext D σ H := by
  cases e : dueOf W st0 k T far spot wish with
  | none =>
    rw [e] at hd
    exact ⟨_, hd, _, rfl, (if_pos (c := (!decide (V.str "many" = V.non)) = true) (by simp)).mpr ⟨_, hd, rfl, _, rfl, (if_neg (c := (!decide (V.str "many" = V.str "many")) = true) (by simp)).mpr (q H Same.rf)⟩⟩
  | some r =>
    cases r with
    | none =>
      rw [e] at hd
      exact ⟨_, hd, _, rfl, (if_neg (c := (!decide (V.non = V.non)) = true) (by simp)).mpr ((if_neg (c := false = true) (by simp)).mpr (q H Same.rf))⟩
    | some d =>
      have hda := due_amt ok kok e
      have htk := (Pm.sys_ok ok (s := st0) kok).due_takes hT hsp e
      rw [e] at hd
      refine ⟨_, hd, _, rfl, (if_pos (c := (!decide (V.int d = V.non)) = true) (by simp)).mpr ⟨_, hd, rfl, _, rfl, (if_pos (c := (!decide (V.int d = V.str "many")) = true) (by simp)).mpr ?_⟩⟩
      refine ⟨_, h3, _, h5, _, h6, _, hd, _, h7, ta, a, kk, W, st0, k, d, T, rfl, ok, kok, hda, hT2, hta, hst, hkk, fun rw' H1 s1 hrow => ?_⟩
      obtain ⟨js, hjs, hjl, hjt⟩ := hrow
      have hjq : js[T - 1]? = some (js[T - 1]'(by omega)) := List.getElem?_eq_getElem _
      generalize js[T - 1]'(by omega) = jq at hjq
      have hjl2 : (js.map V.ref)[(js.map V.ref).length - 1]? = some (.ref jq) := by rw [List.length_map, hjl]; exact refs_at hjq
      refine ⟨_, rfl, rw', _, _, _, rfl, rfl, SqL.of hjs, atI_end hjl2 (by rw [List.length_map]; omega), _, h8, _, _, _, _, rfl, rfl, SqT.of (hjt _ _ hjq), atI_nat (nums_at hsp), _, h9, rfl, _, rfl, ?_⟩
      refine (if_neg (c := (!decide (V.int (((Pm.sys W st0 k).J ((Pm.sys W st0 k).st d (T - 1)) spot : Nat) : Int) = V.int (wish : Nat))) = true) (by rw [htk]; simp)).mpr (q H1 s1)
abbrev sLaw : Stmt := top 72
theorem scLaw : FnScope ["_law_script", "_law_cell", "_law_well_here", "_law_told_here", "_law_wont", "_law_stand_here", "_law_knob_here", "_law_beats", "_law_spot", "_law_wish", "_law_reach", "_law_due_here"] ["_law_script"] (defScope sLaw) := ⟨rfl, rfl, rfl, by decide +kernel, rfl, by decide +kernel, by decide +kernel⟩
theorem ok_Law {Tb : List (Addr × Str)} {f c Pt : Addr} {fd : FuncData} (F : FunC K "law" "law" sLaw c f fd) (T : NoG mg) (Sd : SaidOk K mg) (Em : Exm K mg xs) (Nt : NtOk P w K mg base cW cS xs) (TB : TabB base mg c Pt) (hmT : (Pt, qn "law") ∈ Tb) (hu : ∀ p ∈ Tb, p.1 = Pt → p.2 = qn "law") (c__law_well : Cal P w K mg base CX0 1 "_law_well" ["_law_cell"] (spLWell K cW cS)) (c__law_told : Cal P w K mg base CX0 3 "_law_told" ["_law_well_here", "_law_most"] (spLTold K cW cS)) (c_Wont : CalC P w K mg base CX0 6 "Wont" cW ["self", "books", "feeds"] (spWinit K cW cS)) (c__law_stand : Cal P w K mg base CX0 3 "_law_stand" ["_law_well_here", "_law_told_here"] (spLStand K cW cS)) (c__law_knob : Cal P w K mg base CX0 3 "_law_knob" ["_law_well_here", "_law_told_here"] (spLKnob K cW cS)) (c__law_draw : Cal P w K mg base CX0 1 "_law_draw" ["_law_well_here", "_law_many"] (spLDraw K cW cS)) (c__law_one : Cal P w K mg base CX0 2 "_law_one" ["_law_well_here", "_law_some"] (spLOne K cW cS)) (c__law_due : Cal P w K mg base CX0 5 "_law_due" ["_law_told_here", "_law_stand_here", "_law_beats", "_law_knob_here", "_law_asked_for", "_law_reach"] (spLDue K cW cS)) (c__law_refused_right : Cal P w K mg base CX0 15 "_law_refused_right" ["_law_well_here", "_law_wont", "_law_told_here", "_law_stand_here", "_law_knob_here"] (spLRefusedRight Tb K cW cS)) (c__law_again_right : Cal P w K mg base CX0 15 "_law_again_right" ["_law_well_here", "_law_wont", "_law_told_here", "_law_stand_here", "_law_knob_here"] (spLAgainRight Tb K cW cS)) (c__law_row_by : Cal P w K mg base CX0 3 "_law_row_by" ["_law_told_here", "_law_stand_here", "_law_knob_here", "_law_number", "_law_beats"] (spLRowBy K cW cS)) : FnOk P w K mg base CX0 16 f fd ["_law_script"] (spLaw Tb K cW cS) := by
  refine F.ok scLaw (fun vs H Q E h => ?_) (fun A outer s H vs Q E hr h => ?_)
  · repeat (first | (obtain ⟨rfl, _⟩ := h; rfl) | (obtain ⟨_, h⟩ := h))
  · obtain ⟨sc, ns, rfl, hsc, htb, hlen, kont⟩ := h
    refine ⟨_, (pss_cons (ps_for PassesOwn.never rfl (pi_list (pe_op op_cat (pe_slice sl_list (pv 0) po_none (po_some pe_int)) (pe_lst (pa_cons pe_int (pa_cons pe_int pa_nil))))) (pg_name (i := 1) scLaw.nd rfl (Or.inl rfl))
        (pss_cons (ps_set (i := 2) scLaw.nd rfl (Or.inl rfl) (pe_cal c__law_well (hr.mono (by decide)) pass0 (pa_cons (pv 1) pa_nil)))
          (pss_cons (ps_set (i := 3) scLaw.nd rfl (Or.inl rfl) (pe_cal c__law_told (hr.mono (by decide)) pass0 (pa_cons (pv 2) (pa_cons pe_int pa_nil))))
          (pss_cons (ps_set (i := 4) scLaw.nd rfl (Or.inr rfl) (pe_mk c_Wont (hr.mono (by decide)) pass0 (pa_cons (pe_ix ix_tup (pv 3) pe_int (fun _ _ => rfl)) (pa_cons (pe_ix ix_tup (pv 3) pe_int (fun _ _ => rfl)) pa_nil))))
          (pss_cons (ps_set (i := 5) scLaw.nd rfl (Or.inr rfl) (pe_cal c__law_stand (hr.mono (by decide)) pass0 (pa_cons (pv 2) (pa_cons (pv 3) pa_nil))))
          (pss_cons (ps_set (i := 6) scLaw.nd rfl (Or.inr rfl) (pe_cal c__law_knob (hr.mono (by decide)) pass0 (pa_cons (pv 2) (pa_cons (pv 3) pa_nil))))
          (pss_cons (ps_set (i := 7) scLaw.nd rfl (Or.inr rfl) (pe_op op_add pe_int (pe_cal c__law_draw (hr.mono (by decide)) pass0 (pa_cons (pv 2) (pa_cons pe_int pa_nil)))))
          (pss_cons (ps_set (i := 8) scLaw.nd rfl (Or.inr rfl) (pe_cal c__law_draw (hr.mono (by decide)) pass0 (pa_cons (pv 2) (pa_cons (pe_callB call_len (by rfl) T.len PySem.boot_len (pa_cons (pe_ix ix_tup (pv 3) pe_int (fun _ _ => rfl)) pa_nil)) pa_nil))))
          (pss_cons (ps_set (i := 9) scLaw.nd rfl (Or.inr rfl) (pe_cal c__law_draw (hr.mono (by decide)) pass0 (pa_cons (pv 2) (pa_cons (pe_callB call_len (by rfl) T.len PySem.boot_len (pa_cons (pe_ix ix_tup (pe_ix ix_list (pe_ix ix_tup (pv 3) pe_int (fun _ _ => rfl)) (pv 8) (fun _ _ => rfl)) pe_int (fun _ _ => rfl)) pa_nil)) pa_nil))))
          (pss_cons (ps_set (i := 10) scLaw.nd rfl (Or.inr rfl) (pe_cal c__law_one (hr.mono (by decide)) pass0 (pa_cons (pv 2) (pa_cons (pe_lst (pa_cons pe_int (pa_cons pe_int (pa_cons pe_int (pa_cons pe_int (pa_cons (pe_op op_pow pe_int pe_int) (pa_cons (pe_op op_pow pe_int pe_int) pa_nil))))))) pa_nil))))
          (pss_cons (ps_set (i := 11) scLaw.nd rfl (Or.inl rfl) (pe_cal c__law_due (hr.mono (by decide)) pass0 (pa_cons (pv 3) (pa_cons (pv 5) (pa_cons (pv 7) (pa_cons (pv 6) (pa_cons (pe_tup (pa_cons (pv 8) (pa_cons (pv 9) pa_nil))) (pa_cons (pv 10) pa_nil))))))))
          (pss_cons (ps_if (pt_cmpR op_ne (pe_said (k := 12) Sd Em TB hmT hu (hr.mono (by decide)) (t := fun E => L2.tCallN 4 3 (spNearestTurn K cW cS xs) (fun vs zs => vs ++ (zs.drop 2 ++ zs.take 2)) E (tCons (tVar 4) (tCons (tVar 5) (tCons (tVar 7) (tCons (tVar 6) tNil)))) (tCons (tVar 9) (tCons (tVar 10) (tCons (tVar 8) tNil)))) (fun A outer s1 H1 E f c1 hr1 => pe_nt2 Nt hr1 (passes_call (E := E) (takes_of rfl rfl rfl rfl) fun _ _ _ _ h => h) (pa_cons (pv 4) (pa_cons (pv 5) (pa_cons (pv 7) (pa_cons (pv 6) pa_nil)))) (pk_cons (pv 9) (pk_cons (pv 10) (pk_cons (pv 8) pk_nil)))) (lamS_by (by kernel_rfl))) (pv 11) (nomark _)) (pss_one (ps_ret pe_bl)) pss_nil)
          (pss_cons (ps_if (PW.pt (pw_and (pt_cmp (pc_notN (pv 11))) (pw_and1 (pt_cmpR op_ne (pv 11) pe_str (nomark _))))) (pss_one (ps_if (pt_cmpR op_ne (pe_ix ix_tup (pe_ix ix_list (pe_cal c__law_row_by (hr.mono (by decide)) pass0 (pa_cons (pv 3) (pa_cons (pv 5) (pa_cons (pv 6) (pa_cons (pv 11) (pa_cons (pv 7) pa_nil)))))) (pe_un un_neg pe_int) (fun _ _ => rfl)) (pv 8) (fun _ _ => rfl)) (pv 9) (nomark _)) (pss_one (ps_ret pe_bl)) pss_nil)) pss_nil)
          (pss_cons (ps_set (i := 11) scLaw.nd rfl (Or.inl rfl) (pe_cal c__law_due (hr.mono (by decide)) pass0 (pa_cons (pv 3) (pa_cons (pv 5) (pa_cons (pv 7) (pa_cons (pv 6) (pa_cons (pe_tup (pa_cons (pv 8) (pa_cons (pv 9) pa_nil))) (pa_cons pe_int pa_nil))))))))
          (pss_cons (ps_if (pt_cmpR op_ne (pe_said (k := 12) Sd Em TB hmT hu (hr.mono (by decide)) (t := fun E => L2.tCallN 4 2 (spNearestTurn K cW cS xs) (fun vs zs => vs ++ (zs ++ [.int 1000])) E (tCons (tVar 4) (tCons (tVar 5) (tCons (tVar 7) (tCons (tVar 6) tNil)))) (tCons (tVar 8) (tCons (tVar 9) tNil))) (fun A outer s1 H1 E f c1 hr1 => pe_nt3 Nt hr1 (passes_call (E := E) (takes_of rfl rfl rfl rfl) fun _ _ _ _ h => h) (pa_cons (pv 4) (pa_cons (pv 5) (pa_cons (pv 7) (pa_cons (pv 6) pa_nil)))) (pk_cons (pv 8) (pk_cons (pv 9) pk_nil))) (lamS_by (by kernel_rfl))) (pv 11) (nomark _)) (pss_one (ps_ret pe_bl)) pss_nil)
          (pss_cons (ps_if (pt_not (pt_val (pe_cal c__law_refused_right (hr.mono (by decide)) pass0 (pa_cons (pv 2) (pa_cons (pv 4) (pa_cons (pv 3) (pa_cons (pv 5) (pa_cons (pv 6) pa_nil)))))))) (pss_one (ps_ret pe_bl)) pss_nil)
          (pss_one (ps_if (pt_not (pt_val (pe_cal c__law_again_right (hr.mono (by decide)) pass0 (pa_cons (pv 2) (pa_cons (pv 4) (pa_cons (pv 3) (pa_cons (pv 5) (pa_cons (pv 6) pa_nil)))))))) (pss_one (ps_ret pe_bl)) pss_nil))))))))))))))))))
      (pss_one (ps_ret pe_bl))), ?_⟩
    obtain ⟨zs, hzs, hzl⟩ := cut_mapI ns none (some 1)
    refine ⟨_, rfl, _, rfl, sc, _, rfl, hsc, fun S hS => ?_⟩
    have mS := sameUpd (o := .lst (cutV (ns.map V.int) none (some 1))) hS
    have hSS : (L2.upd H S (.lst (cutV (ns.map V.int) none (some 1)))) S = _ := upd_same
    generalize L2.upd H S _ = HS at mS hSS ⊢
    refine ⟨big1000 (by simp), fun Z hZ => ?_⟩
    have mZ := sameUpd (o := .lst [.int 0, .int 1]) hZ
    have hZZ : (L2.upd HS Z (.lst [.int 0, .int 1])) Z = _ := upd_same
    generalize L2.upd HS Z _ = HZ at mZ hZZ ⊢
    refine ⟨S, Z, _, _, rfl, rfl, mZ _ _ hSS, hZZ, by rw [hzs]; simp [sizeLine_eq]; omega, fun M hM => ?_⟩
    rw [hzs]
    obtain ⟨ys, hys⟩ : ∃ ys : List Int, zs.map V.int ++ [.int 0, .int 1] = ys.map V.int := ⟨zs ++ [0, 1], by rw [List.map_append]; rfl⟩
    rw [hys]
    have mM := sameUpd (o := .lst (ys.map V.int)) hM
    have hMM : (L2.upd HZ M (.lst (ys.map V.int))) M = _ := upd_same
    generalize L2.upd HZ M _ = H0 at mM hMM ⊢
    have m0 := Same.tr (Same.tr mS mZ) mM
    have t0 := tabs_same m0 htb
    refine ⟨M, rfl, ⟨_, SqL.of hMM⟩, for_it (walk_list (xs := ys.map V.int)) (fun i σ H' => H' M = some (.lst (ys.map V.int)) ∧ Tabs Tb H' ∧ ∃ x1 x2 x3 x4 x5 x6 x7 x8 x9 x10 x11, σ = [some (.ref sc), x1, x2, x3, x4, x5, x6, x7, x8, x9, x10, x11]) ?_ ?_ ?_ ?_⟩
    · exact ⟨hMM, t0, _, _, _, _, _, _, _, _, _, _, _, rfl⟩
    · rintro i σ H' _ ⟨s', _⟩; exact SqL.of s'
    · rintro i x σ _ H1 hin ⟨hM1, t1, x1, x2, x3, x4, x5, x6, x7, x8, x9, x10, x11, rfl⟩ ⟨rfl, hx⟩
      obtain ⟨x0, rfl⟩ : ∃ x0 : Int, x = .int x0 := by
        rw [List.getElem?_map] at hx
        cases e : ys[i]? with
        | none => rw [e] at hx; simp at hx
        | some z => rw [e] at hx; simp at hx; exact ⟨z, hx.symm⟩
      refine ⟨_, rfl, x0, rfl, fun wl H2 s2 hwn hw2 => ?_⟩
      have hMw : M ≠ wl := ne_of_none hM1 hwn
      have t2 := tabs_same s2 t1
      have hM2 := s2 _ _ hM1
      refine ⟨_, rfl, wl, rfl, hw2, fun ta H3 W la lb ps qs fs s3 hw3 ok htup td => ?_⟩
      have t3 := tabs_hid hw2 s3 t2
      have hM3 := s3 _ _ (hid_at hM2 hMw)
      have n4 := ok.n4
      have n1 := ok.n1
      have lps : ps.length = W.nb := td.bk.1
      refine ⟨_, rfl, _, _, _, _, rfl, rfl, SqT.of htup, rfl, _, rfl, _, _, _, _, rfl, rfl, SqT.of htup, rfl, fun pw dx hpw hdx hne => ?_⟩
      have s4a := Same.tr (sameUpd (o := .own pw) hdx) (sameUpd (o := .ins cW dx []) ((upd_ne hne.symm).trans hpw))
      refine ⟨pw, la, lb, W, ps, qs, fs, dx, rfl, ok, td.ss (SS.of (m := (0 : Nat)) s4a), upd_same, fun H4 s4 hWt4 => ⟨rfl, ?_⟩⟩
      have s34 : Same H3 H4 := fun b o e => s4 _ _ (hid_at (s4a _ _ e) (ne_of_none e hpw))
      have hw4 := hw3.same s34
      have t4 := tabs_same s34 t3
      have hM4 := s34 _ _ hM3
      have htup4 := s34 _ _ htup
      have td4 : Told H4 la lb W ps qs fs := td.ss (SS.of (m := (0 : Nat)) s34)
      have hta4 : ToldAt H4 ta W := ⟨la, lb, ps, qs, fs, htup4, td4⟩
      clear s4 s4a s34 s3 hpw hdx hM3 hM2 hM1 s2
      refine ⟨_, rfl, _, rfl, wl, ta, W, rfl, hw4, ok, hta4.hideW hw4, fun a H5 st0 s5 hw5 hst5 => ?_⟩
      have g5 : SS M H4 H5 := SS.hid hw4 s5
      have t5 := tabs_hid hw4 s5 t4
      refine ⟨_, rfl, _, rfl, wl, ta, W, rfl, hw5, ok, (hta4.ss g5).hideW hw5, fun kk H6 k s6 hw6 hkk6 kok => ?_⟩
      have g56 : SS M H5 H6 := SS.hid hw5 s6
      have g6 : SS M H4 H6 := SS.tr g5 g56
      have t6 := tabs_hid hw5 s6 t5
      have hst6 := hst5.ss g56
      refine ⟨_, rfl, wl, 16, rfl, hw6, by omega, by omega, fun r0 H7 s7 hw7 hr0 => ⟨_, _, rfl, rfl, ?_⟩⟩
      obtain ⟨T, hT⟩ : ∃ T, T = 1 + r0 := ⟨_, rfl⟩
      have e1 : (1 + (r0 : Int)) = (T : Int) := by omega
      have hT1 : 0 < T ∧ T ≤ 16 := by omega
      change gName 7 (V.int (1 + (r0 : Int))) _ _ _
      rw [e1]
      have g67 : SS M H6 H7 := SS.hid hw6 s7
      have g7 : SS M H4 H7 := SS.tr g6 g67
      have t7 := tabs_hid hw6 s7 t6
      have hst7 := hst6.ss g67
      have hkk7 := hkk6.ss g67
      have td7 := td4.ss g7
      refine ⟨_, rfl, _, rfl, _, _, _, _, rfl, rfl, SqT.of (g7 _ _ htup4 safe_tup), rfl, _, _, rfl, .inl ⟨_, SqL.of td7.a, rfl⟩, ?_⟩
      rw [List.length_map, lps]
      refine ⟨wl, _, rfl, hw7, by omega, by omega, fun spot H8 s8 hw8 hspot => ?_⟩
      have hsp : spot < W.nb := by omega
      have g78 : SS M H7 H8 := SS.hid hw7 s8
      have g8 := SS.tr g7 g78
      have t8 := tabs_hid hw7 s8 t7
      have hst8 := hst7.ss g78
      have hkk8 := hkk7.ss g78
      have td8 := td4.ss g8
      have hbp : ∃ p, ps[spot]? = some p := ⟨ps[spot]'(by omega), List.getElem?_eq_getElem _⟩
      obtain ⟨p0, hp0⟩ := hbp
      obtain ⟨o0, gg0, ww0, b1, b2, b3, b4⟩ := td8.bk.2 spot p0 hp0
      have lno : (ordV (W.ord spot)).length = W.sz spot := by rw [ordV_len, ok.ln spot hsp]
      have hz1 := ok.s1 spot hsp
      have hz5 := ok.s5 spot hsp
      refine ⟨_, rfl, _, rfl, _, _, _, _, rfl, rfl, SqT.of (g8 _ _ htup4 safe_tup), rfl, _, rfl, _, _, _, _, rfl, rfl, SqL.of td8.a, atI_nat (refs_at hp0), _, _, _, _, rfl, rfl, SqT.of b1, rfl, _, _, rfl, .inr ⟨_, b2.sq, rfl⟩, ?_⟩
      rw [lno]
      refine ⟨wl, _, rfl, hw8, by omega, by omega, fun wish H9 s9 hw9 hwish => ?_⟩
      have hwi : wish < W.sz spot := by omega
      have g89 : SS M H8 H9 := SS.hid hw8 s9
      have t9 := tabs_hid hw8 s9 t8
      have p6 : (10 : Int) ^ (6 : Int).toNat = 1000000 := by decide
      have p9 : (10 : Int) ^ (9 : Int).toNat = 1000000000 := by decide
      refine ⟨_, rfl, _, _, rfl, rfl, ⟨by decide, by decide, by decide⟩, _, _, rfl, rfl, ⟨by decide, by decide, by decide⟩, big1000 (by simp), fun l hl => ?_⟩
      have sl := sameUpd (o := .lst [.int 0, .int 5, .int 60, .int 1000, .int (10 ^ (6 : Int).toNat), .int (10 ^ (9 : Int).toNat)]) hl
      refine ⟨wl, l, _, rfl, hw9.same sl, upd_same, well_none hw9 hl, by simp, by simp, fun y H10 s10 hw10 hy => ?_⟩
      have hreach : ∃ far : Int, y = .int far ∧ 0 ≤ far ∧ far ≤ 1000000000 := by
        dsimp only at hy
        rw [p6, p9] at hy
        simp only [List.mem_cons, List.not_mem_nil, or_false] at hy
        rcases hy with h | h | h | h | h | h <;> exact ⟨_, h, by decide, by decide⟩
      obtain ⟨far, rfl, hfar1, hfar2⟩ := hreach
      have g810 : SS M H8 H10 := SS.tr g89 (SS.tr (SS.of sl) (SS.hid (hw9.same sl) s10))
      have t10 := tabs_hid (hw9.same sl) s10 (tabs_same sl t9)
      have g10 := SS.tr g8 g810
      have hst10 := hst8.ss g810
      have hkk10 := hkk8.ss g810
      clear hy s10 sl hl l s9 s8 s7 s6 s5
      refine ⟨_, rfl, _, rfl, _, rfl, _, rfl, _, rfl, _, rfl, big1000 (by simp), fun q hq => ⟨_, rfl, ?_⟩⟩
      have sq := sameUpd (o := .tup [.int (spot : Nat), .int (wish : Nat)]) hq
      have g10q : SS M H4 _ := SS.tr g10 (SS.of sq)
      refine ⟨ta, a, kk, q, W, st0, k, T, spot, wish, far, rfl, ok, kok, by omega, by omega, hta4.ss g10q, hst10.same sq, sq _ _ hkk10, upd_same, hsp, hfar1, fun H12 s12 => ?_⟩
      have g1012 : SS M H10 H12 := SS.tr (SS.of sq) (SS.of s12)
      have t12 := tabs_same s12 (tabs_same sq t10)
      have hw12 := (hw10.same sq).same s12
      refine ⟨t12, fun H13 e13 t13 => ?_⟩
      have g1013 : SS M H10 H13 := SS.tr g1012 (SS.ext e13)
      refine ⟨_, rfl, _, rfl, _, rfl, _, rfl, _, rfl, _, rfl, _, rfl, rfl, rfl, ?_⟩
      refine nt_due (hWt4.ss (SS.tr g10 g1013)) (hst10.ss g1013) (by omega) (by omega) (hkk10.ss g1013) kok hsp hwi hfar1 hfar2 fun H14 s14 => ?_
      have hsc : ∀ dd, scal (dueV dd) (dueV dd) = true := fun dd => by
        cases dd with
        | none => rfl
        | some r => cases r <;> rfl
      refine ⟨_, rfl, hsc _, _, rfl, ?_⟩
      refine (if_neg (c := (!decide (dueV (dueOf W st0 k T far spot wish) = dueV (dueOf W st0 k T far spot wish))) = true) (by simp)).mpr ?_
      have g1014 : SS M H10 H14 := SS.tr g1013 (SS.of s14)
      have t14 := tabs_same s14 t13
      have hw14 := (WellAt.ext e13 hw12).same s14
      refine law_row ok kok (by omega) (by omega) hsp (hta4.ss (SS.tr g10 g1014)) (hst10.ss g1014) (hkk10.ss g1014) rfl rfl rfl rfl rfl rfl rfl fun H15 s15 => ?_
      have g1015 : SS M H10 H15 := SS.tr g1014 (SS.of s15)
      have t15 := tabs_same s15 t14
      have hw15 := hw14.same s15
      refine ⟨_, rfl, _, rfl, _, rfl, _, rfl, _, rfl, _, rfl, big1000 (by simp), fun q2 hq2 => ?_⟩
      have sq2 := sameUpd (o := .tup [.int (spot : Nat), .int (wish : Nat)]) hq2
      have g1015q : SS M H10 _ := SS.tr g1015 (SS.of sq2)
      refine ⟨ta, a, kk, q2, W, st0, k, T, spot, wish, 1000, rfl, ok, kok, by omega, by omega, hta4.ss (SS.tr g10 g1015q), hst10.ss g1015q, hkk10.ss g1015q, upd_same, hsp, by omega, fun H16 s16 => ?_⟩
      have g1016 : SS M H10 H16 := SS.tr g1015q (SS.of s16)
      have t16 := tabs_same s16 (tabs_same sq2 t15)
      have hw16 := (hw15.same sq2).same s16
      refine ⟨t16, fun H17 e17 t17 => ?_⟩
      have g1017 : SS M H10 H17 := SS.tr g1016 (SS.ext e17)
      refine ⟨_, rfl, _, rfl, _, rfl, _, rfl, _, rfl, _, rfl, rfl, rfl, ?_⟩
      refine nt_due (hWt4.ss (SS.tr g10 g1017)) (hst10.ss g1017) (by omega) (by omega) (hkk10.ss g1017) kok hsp hwi (by omega) (by omega) fun H18 s18 => ?_
      refine ⟨_, rfl, hsc _, _, rfl, ?_⟩
      refine (if_neg (c := (!decide (dueV (dueOf W st0 k T 1000 spot wish) = dueV (dueOf W st0 k T 1000 spot wish))) = true) (by simp)).mpr ?_
      have g1018 : SS M H10 H18 := SS.tr g1017 (SS.of s18)
      have t18 := tabs_same s18 t17
      have hw18 := (WellAt.ext e17 hw16).same s18
      have g18 := SS.tr g10 g1018
      refine ⟨_, rfl, _, rfl, _, rfl, _, rfl, _, rfl, M, wl, pw, ta, a, kk, W, st0, k, rfl, hMw, hw18, ok, kok, hWt4.ss g18, hta4.ss g18, hst10.ss g1018, hkk10.ss g1018, t18, fun H19 g19 hw19 t19 => ⟨_, rfl, (if_neg (c := (!true) = true) (by simp)).mpr ?_⟩⟩
      have g1819 := SS.tr g1018 g19
      have g018 := SS.tr g18 g19
      refine ⟨_, rfl, _, rfl, _, rfl, _, rfl, _, rfl, M, wl, pw, ta, a, kk, W, st0, k, rfl, hMw, hw19, ok, kok, hWt4.ss g018, hta4.ss g018, hst10.ss g1819, hkk10.ss g1819, t19, fun H20 g20 hw20 t20 => ⟨_, rfl, (if_neg (c := (!true) = true) (by simp)).mpr ?_⟩⟩
      exact ⟨(SS.tr g018 g20).k _ hM4 (fun ps z => by cases z), t20, _, _, _, _, _, _, _, _, _, _, _, rfl⟩
    · rintro σ H1 ⟨_, _, _⟩
      exact kont H1
end
end WB

namespace WB
open PySem L2 LamX
def GF (K : PySem.W.Frag) (x : Str) (st : Stmt) : Prop := ∃ (f : Addr) (fd : FuncData), PySem.W.nsIn K mainGlobals x = some (some (.ref f)) ∧ Fun K x x st f fd
def MF (K : PySem.W.Frag) (C : Addr) (x q : Str) (st : Stmt) : Prop := ∃ (f : Addr) (fd : FuncData), PySem.W.findIn K (.ref C) x = some (some (.ref f)) ∧ PySem.W.isFn K (.ref f) = true ∧ Fun K x q st f fd
section
variable {P : Program} {w : World} {K : PySem.W.Frag} {mg : Str → Option Value} {base : Heap} {CX : CXT} {k : Nat} {x q : Str} {ps : List Str} {sp : Sp} {st : Stmt} {C : Addr}
theorem cal_of (g : GF K x st) (hm : ∀ f, PySem.W.nsIn K mainGlobals x = some (some (.ref f)) → mg x = some (.ref f)) (ok : ∀ f fd, Fun K x x st f fd → FnOk P w K mg base CX k f fd ps sp)
    (hb : ∀ (kV doc pm : Value) (an : Option Addr) (cdv ct : Value) (us : List Value), us.length = ps.length → bindArgs (PySem.W.fnOf x x (defArgs st) (defBody st) (defScope st) .none kV doc pm an cdv ct) ⟨us, []⟩ = pure (ps.zip us)) : Cal P w K mg base CX k x ps sp := by
  obtain ⟨f, fd, a, F⟩ := g
  exact ⟨f, fd, ok f fd F, hm f a, F.kp, F.binds hb⟩
theorem calM_of (cl : Cls K C) (g : MF K C x q st) (ok : ∀ f fd, Fun K x q st f fd → FnOk P w K mg base CX k f fd ps sp)
    (hb : ∀ (kV doc pm : Value) (an : Option Addr) (cdv ct : Value) (us : List Value), us.length = ps.length → bindArgs (PySem.W.fnOf x q (defArgs st) (defBody st) (defScope st) .none kV doc pm an cdv ct) ⟨us, []⟩ = pure (ps.zip us)) : CalM P w K mg base CX k C x ps sp := by
  obtain ⟨f, fd, a, i, F⟩ := g
  exact ⟨⟨f, fd, ok f fd F, ⟨a, i, F.kp⟩, F.binds hb⟩, cl⟩
end
section
variable {P : Program} {w : World} {K : PySem.W.Frag} {mg : Str → Option Value} {base : Heap} {cW cS dW : Addr} {xs : Exs}

theorem FunC.binds {c f : Addr} {fd : FuncData} {x q : Str} {st : Stmt} {ps : List Str} (F : FunC K x q st c f fd)
    (h : ∀ (kV doc pm : Value) (an : Option Addr) (ct : Value) (us : List Value), us.length = ps.length → bindArgs (PySem.W.fnOf x q (defArgs st) (defBody st) (defScope st) .none kV doc pm an (.ref c) ct) ⟨us, []⟩ = pure (ps.zip us)) : Binds K fd ps [] := by
  obtain ⟨oc, od, kV, doc, pm, an, ct, osl, rfl, lk, hcd⟩ := F.ex
  exact .all (h kV doc pm an ct)
/-- the tables of the three defs that hold lambdas -/
def tabs3 (PR PA PL : Addr) : List (Addr × Str) := [(PR, qn "_law_refused_right"), (PA, qn "_law_again_right"), (PL, qn "law")]
theorem gather {h : Heap} {es : Array DictEntry} {n : Nat} {cR cA cL fR fA fL PR PA PL : Addr} {fdR fdA fdL : FuncData} (X : K.In h) (G : h.Ns mainGlobals mg) (T : NoG mg) (hW : WF K cW) (hS : SF K cS) (C : Csts mg) (Em : Exm K mg xs) (Wo : Wds K w mg dW es n) (g__law_said : GF K "_law_said" sLSaid) (n1 : PR ≠ PA) (n2 : PR ≠ PL) (n3 : PA ≠ PL)
    (g_summed : GF K "summed" sSummed)
    (g_put_in : GF K "put_in" sPutIn)
    (g_Wsizes : MF K cW "sizes" "Wont.sizes" sWsizes)
    (g_Worder : MF K cW "order" "Wont.order" sWorder)
    (g_Wis_ahead : MF K cW "is_ahead" "Wont.is_ahead" sWis_ahead)
    (g_strongest : GF K "strongest" sStrongest)
    (g_joint_of : GF K "joint_of" sJointOf)
    (g_nothing : GF K "nothing" sNothing)
    (g_moved : GF K "moved" sMoved)
    (g_Wadds_to : MF K cW "adds_to" "Wont.adds_to" sWadds_to)
    (g_Wall_moves : MF K cW "all_moves" "Wont.all_moves" sWall_moves)
    (g_Wtold : MF K cW "told" "Wont.told" sWtold)
    (g_is_whole : GF K "is_whole" sIsWhole)
    (g_is_from : GF K "is_from" sIsFrom)
    (g_is_amount : GF K "is_amount" sIsAmount)
    (g_are_amounts : GF K "are_amounts" sAreAmounts)
    (g_is_list : GF K "is_list" sIsList)
    (g_is_book : GF K "is_book" sIsBook)
    (g_is_feed : GF K "is_feed" sIsFeed)
    (g_feeds_by_choices : GF K "feeds_by_choices" sFeedsByChoices)
    (i_Wont : ∃ (f : Addr) (fd : FuncData) (dvs : List V) (kws : List (Str × V)), FunD K "__init__" "Wont.__init__" (defArgs sWinit) (defBody sWinit) (defScope sWinit) dvs kws f fd ∧ Mk K cW f ∧ Binds K fd ["self", "books", "feeds"] []) (m_Wont : mg "Wont" = some (.ref cW))
    (g_nearest_in : GF K "nearest_in" sNearestIn)
    (g_is_choice : GF K "is_choice" sIsChoice)
    (g_value_of : GF K "value_of" sValueOf)
    (g_slopes_of : GF K "slopes_of" sSlopesOf)
    (g_is_knob : GF K "is_knob" sIsKnob)
    (g_turned_to : GF K "turned_to" sTurnedTo)
    (g_Snarrow : MF K cS "narrow" "Sight.narrow" sSnarrow)
    (i_Sight : ∃ (f : Addr) (fd : FuncData), Fun K "__init__" "Sight.__init__" sSinit f fd ∧ Mk K cS f) (m_Sight : mg "Sight" = some (.ref cS))
    (g_Sbeat : MF K cS "beat" "Sight.beat" sSbeat)
    (g_Spiece : MF K cS "piece" "Sight.piece" sSpiece)
    (g_is_stand : GF K "is_stand" sIsStand)
    (g_want_stand : GF K "want_stand" sWantStand)
    (g_want_beats : GF K "want_beats" sWantBeats)
    (g_want_knob : GF K "want_knob" sWantKnob)
    (g_pieces_of : GF K "pieces_of" sPiecesOf)
    (i_nt : ∃ (f : Addr) (fd : FuncData), PySem.W.nsIn K mainGlobals "nearest_turn" = some (some (.ref f)) ∧ FunD K "nearest_turn" "nearest_turn" (defArgs sNearestTurn) (defBody sNearestTurn) (defScope sNearestTurn) [] [("far", .int 1000)] f fd)
    (g__law_put : GF K "_law_put" sLPut)
    (g__law_joint : GF K "_law_joint" sLJoint)
    (g__law_nearest : GF K "_law_nearest" sLNearest)
    (g__law_own : GF K "_law_own" sLOwn)
    (g__law_turned : GF K "_law_turned" sLTurned)
    (g__law_moves : GF K "_law_moves" sLMoves)
    (g__law_behind : GF K "_law_behind" sLBehind)
    (g__law_gone : GF K "_law_gone" sLGone)
    (g__law_row_by : GF K "_law_row_by" sLRowBy)
    (g__law_slopes : GF K "_law_slopes" sLSlopes)
    (g__law_piece : GF K "_law_piece" sLPiece)
    (g__law_all : GF K "_law_all" sLAll)
    (g__law_due : GF K "_law_due" sLDue)
    (g__law_well : GF K "_law_well" sLWell)
    (g__law_draw : GF K "_law_draw" sLDraw)
    (g__law_one : GF K "_law_one" sLOne)
    (g__law_order : GF K "_law_order" sLOrder)
    (g__law_numbers : GF K "_law_numbers" sLNumbers)
    (g__law_stand : GF K "_law_stand" sLStand)
    (g__law_knob : GF K "_law_knob" sLKnob)
    (g__law_told : GF K "_law_told" sLTold)
    (FR : FunC K "_law_refused_right" "_law_refused_right" sLRefusedRight cR fR fdR) (aR : PySem.W.nsIn K mainGlobals "_law_refused_right" = some (some (.ref fR))) (TR : TabB base mg cR PR)
    (FA : FunC K "_law_again_right" "_law_again_right" sLAgainRight cA fA fdA) (aA : PySem.W.nsIn K mainGlobals "_law_again_right" = some (some (.ref fA))) (TA : TabB base mg cA PA)
    (FL : FunC K "law" "law" sLaw cL fL fdL) (aL : PySem.W.nsIn K mainGlobals "law" = some (some (.ref fL))) (TL : TabB base mg cL PL) : FnOk P w K mg base CX0 16 fL fdL ["_law_script"] (spLaw (tabs3 PR PA PL) K cW cS) := by
  have x_NoStand := Em.s
  have x_NoBeat := Em.b
  have x_NoKnob := Em.k
  have x_NoBook := Em.o
  have x_TooMany := Em.m
  have Sd : SaidOk K mg := by
    obtain ⟨f, fd, a, F⟩ := g__law_said
    exact ⟨f, fd, F, PySem.W.mg_of X G a, F.binds fun _ _ _ _ _ _ us hl => match us, hl with | [_], _ => rfl⟩
  have huR : ∀ p ∈ tabs3 PR PA PL, p.1 = PR → p.2 = qn "_law_refused_right" := fun p hp e => by
    simp only [tabs3, List.mem_cons, List.not_mem_nil, or_false] at hp
    rcases hp with rfl | rfl | rfl
    · rfl
    · exact absurd e.symm n1
    · exact absurd e.symm n2
  have huA : ∀ p ∈ tabs3 PR PA PL, p.1 = PA → p.2 = qn "_law_again_right" := fun p hp e => by
    simp only [tabs3, List.mem_cons, List.not_mem_nil, or_false] at hp
    rcases hp with rfl | rfl | rfl
    · exact absurd e n1
    · rfl
    · exact absurd e.symm n3
  have huL : ∀ p ∈ tabs3 PR PA PL, p.1 = PL → p.2 = qn "law" := fun p hp e => by
    simp only [tabs3, List.mem_cons, List.not_mem_nil, or_false] at hp
    rcases hp with rfl | rfl | rfl
    · exact absurd e n2
    · exact absurd e n3
    · rfl
  have c_summed : Cal P w K mg base CX0 1 "summed" ["one", "other"] (spSummed K cW cS) := cal_of g_summed (fun f a => PySem.W.mg_of X G a) (fun f fd F => ok_Summed F T) (fun _ _ _ _ _ _ us hl => match us, hl with | [_, _], _ => rfl)
  have c_put_in : Cal P w K mg base CX0 1 "put_in" ["some", "at", "thing"] (spPutIn K cW cS) := cal_of g_put_in (fun f a => PySem.W.mg_of X G a) (fun f fd F => ok_PutIn F T) (fun _ _ _ _ _ _ us hl => match us, hl with | [_, _, _], _ => rfl)
  have c_Wsizes : CalM P w K mg base CX0 1 cW "sizes" ["self"] (spWsizes K cW cS) := calM_of hW.cls g_Wsizes (fun f fd F => ok_Wsizes F T hW) (fun _ _ _ _ _ _ us hl => match us, hl with | [_], _ => rfl)
  have c_Worder : CalM P w K mg base CX0 1 cW "order" ["self", "book"] (spWorder K cW cS) := calM_of hW.cls g_Worder (fun f fd F => ok_Worder F T hW) (fun _ _ _ _ _ _ us hl => match us, hl with | [_, _], _ => rfl)
  have c_Wis_ahead : CalM P w K mg base CX0 1 cW "is_ahead" ["self", "book", "one", "other"] (spWis_ahead K cW cS) := calM_of hW.cls g_Wis_ahead (fun f fd F => ok_Wis_ahead F T hW) (fun _ _ _ _ _ _ us hl => match us, hl with | [_, _, _, _], _ => rfl)
  have c_strongest : Cal P w K mg base CX0 2 "strongest" ["wont", "book", "strengths"] (spStrongest K cW cS) := cal_of g_strongest (fun f a => PySem.W.mg_of X G a) (fun f fd F => ok_Strongest F T hW c_Worder) (fun _ _ _ _ _ _ us hl => match us, hl with | [_, _, _], _ => rfl)
  have c_joint_of : Cal P w K mg base CX0 3 "joint_of" ["wont", "stand"] (spJointOf K cW cS) := cal_of g_joint_of (fun f a => PySem.W.mg_of X G a) (fun f fd F => ok_JointOf F T c_strongest) (fun _ _ _ _ _ _ us hl => match us, hl with | [_, _], _ => rfl)
  have c_nothing : Cal P w K mg base CX0 2 "nothing" ["wont"] (spNothing K cW cS) := cal_of g_nothing (fun f a => PySem.W.mg_of X G a) (fun f fd F => ok_Nothing F T c_Wsizes) (fun _ _ _ _ _ _ us hl => match us, hl with | [_], _ => rfl)
  have c_moved : Cal P w K mg base CX0 3 "moved" ["wont", "joint"] (spMoved K cW cS) := cal_of g_moved (fun f a => PySem.W.mg_of X G a) (fun f fd F => ok_Moved F T hW c_nothing c_summed) (fun _ _ _ _ _ _ us hl => match us, hl with | [_, _], _ => rfl)
  have c_Wadds_to : CalM P w K mg base CX0 1 cW "adds_to" ["self", "book", "choice", "to"] (spWadds_to K cW cS) := calM_of hW.cls g_Wadds_to (fun f fd F => ok_Wadds_to F T hW) (fun _ _ _ _ _ _ us hl => match us, hl with | [_, _, _, _], _ => rfl)
  have c_Wall_moves : CalM P w K mg base CX0 2 cW "all_moves" ["self"] (spWall_moves K cW cS) := calM_of hW.cls g_Wall_moves (fun f fd F => ok_Wall_moves F T hW c_Wadds_to) (fun _ _ _ _ _ _ us hl => match us, hl with | [_], _ => rfl)
  have c_Wtold : CalM P w K mg base CX0 1 cW "told" ["self"] (spWtold K cW cS) := calM_of hW.cls g_Wtold (fun f fd F => ok_Wtold F T hW) (fun _ _ _ _ _ _ us hl => match us, hl with | [_], _ => rfl)
  have c_is_whole : Cal P w K mg base CX0 1 "is_whole" ["thing"] (spIsWhole K cW cS) := cal_of g_is_whole (fun f a => PySem.W.mg_of X G a) (fun f fd F => ok_IsWhole F T) (fun _ _ _ _ _ _ us hl => match us, hl with | [_], _ => rfl)
  have c_is_from : Cal P w K mg base CX0 2 "is_from" ["thing", "low", "high"] (spIsFrom K cW cS) := cal_of g_is_from (fun f a => PySem.W.mg_of X G a) (fun f fd F => ok_IsFrom F T c_is_whole) (fun _ _ _ _ _ _ us hl => match us, hl with | [_, _, _], _ => rfl)
  have c_is_amount : Cal P w K mg base CX0 3 "is_amount" ["thing"] (spIsAmount K cW cS) := cal_of g_is_amount (fun f a => PySem.W.mg_of X G a) (fun f fd F => ok_IsAmount F T C c_is_from) (fun _ _ _ _ _ _ us hl => match us, hl with | [_], _ => rfl)
  have c_are_amounts : Cal P w K mg base CX0 4 "are_amounts" ["thing", "many"] (spAreAmounts K cW cS) := cal_of g_are_amounts (fun f a => PySem.W.mg_of X G a) (fun f fd F => ok_AreAmounts F T c_is_amount) (fun _ _ _ _ _ _ us hl => match us, hl with | [_, _], _ => rfl)
  have c_is_list : Cal P w K mg base CX0 1 "is_list" ["thing"] (spIsList K cW cS) := cal_of g_is_list (fun f a => PySem.W.mg_of X G a) (fun f fd F => ok_IsList F T) (fun _ _ _ _ _ _ us hl => match us, hl with | [_], _ => rfl)
  have c_is_book : Cal P w K mg base CX0 5 "is_book" ["thing"] (spIsBook K cW cS) := cal_of g_is_book (fun f a => PySem.W.mg_of X G a) (fun f fd F => ok_IsBook F T C c_are_amounts c_is_from) (fun _ _ _ _ _ _ us hl => match us, hl with | [_], _ => rfl)
  have c_is_feed : Cal P w K mg base CX0 4 "is_feed" ["thing", "sizes"] (spIsFeed K cW cS) := cal_of g_is_feed (fun f a => PySem.W.mg_of X G a) (fun f fd F => ok_IsFeed F T c_is_amount c_is_from) (fun _ _ _ _ _ _ us hl => match us, hl with | [_, _], _ => rfl)
  have c_feeds_by_choices : Cal P w K mg base CX0 1 "feeds_by_choices" ["feeds"] (spFeedsByChoices K cW cS) := cal_of g_feeds_by_choices (fun f a => PySem.W.mg_of X G a) (fun f fd F => ok_FeedsByChoices F T) (fun _ _ _ _ _ _ us hl => match us, hl with | [_], _ => rfl)
  have c_Wont : CalC P w K mg base CX0 6 "Wont" cW ["self", "books", "feeds"] (spWinit K cW cS) := by
    obtain ⟨f, fd, dvs, kws, F, M, b⟩ := i_Wont
    exact ⟨⟨f, fd, ok_Winit F T hW C c_feeds_by_choices c_Wall_moves c_is_list c_is_book c_is_feed, M, b⟩, m_Wont⟩
  have c_nearest_in : Cal P w K mg base CX0 1 "nearest_in" ["first", "last", "value"] (spNearestIn K cW cS) := cal_of g_nearest_in (fun f a => PySem.W.mg_of X G a) (fun f fd F => ok_NearestIn F T) (fun _ _ _ _ _ _ us hl => match us, hl with | [_, _, _], _ => rfl)
  have c_is_choice : Cal P w K mg base CX0 3 "is_choice" ["wont", "book", "choice"] (spIsChoice K cW cS) := cal_of g_is_choice (fun f a => PySem.W.mg_of X G a) (fun f fd F => ok_IsChoice F T c_is_from c_Wsizes) (fun _ _ _ _ _ _ us hl => match us, hl with | [_, _, _], _ => rfl)
  have c_value_of : Cal P w K mg base CX0 1 "value_of" ["wont", "stand", "knob"] (spValueOf K cW cS) := cal_of g_value_of (fun f a => PySem.W.mg_of X G a) (fun f fd F => ok_ValueOf F T hW) (fun _ _ _ _ _ _ us hl => match us, hl with | [_, _, _], _ => rfl)
  have c_slopes_of : Cal P w K mg base CX0 2 "slopes_of" ["wont", "knob"] (spSlopesOf K cW cS) := cal_of g_slopes_of (fun f a => PySem.W.mg_of X G a) (fun f fd F => ok_SlopesOf F T c_Wsizes) (fun _ _ _ _ _ _ us hl => match us, hl with | [_, _], _ => rfl)
  have c_is_knob : Cal P w K mg base CX0 4 "is_knob" ["wont", "thing"] (spIsKnob K cW cS) := cal_of g_is_knob (fun f a => PySem.W.mg_of X G a) (fun f fd F => ok_IsKnob F T Wo c_is_choice) (fun _ _ _ _ _ _ us hl => match us, hl with | [_, _], _ => rfl)
  have c_turned_to : Cal P w K mg base CX0 8 "turned_to" ["wont", "stand", "knob", "value"] (spTurnedTo K cW cS) := cal_of g_turned_to (fun f a => PySem.W.mg_of X G a) (fun f fd F => ok_TurnedTo F T hW c_Wtold c_put_in c_Wont) (fun _ _ _ _ _ _ us hl => match us, hl with | [_, _, _, _], _ => rfl)
  have c_Snarrow : CalM P w K mg base CX0 1 cS "narrow" ["self", "lead", "slope"] (spSnarrow K cW cS) := calM_of hS.cls g_Snarrow (fun f fd F => ok_Snarrow F T hS) (fun _ _ _ _ _ _ us hl => match us, hl with | [_, _, _], _ => rfl)
  have c_Sight : CalC P w K mg base CX0 9 "Sight" cS ["self", "wont", "stand", "knob", "value"] (spSinit K cW cS) := by
    obtain ⟨f, fd, F, M⟩ := i_Sight
    exact ⟨⟨f, fd, ok_Sinit F T hS c_turned_to c_slopes_of, M, F.binds (fun _ _ _ _ _ _ us hl => match us, hl with | [_, _, _, _, _], _ => rfl)⟩, m_Sight⟩
  have c_Sbeat : CalM P w K mg base CX0 4 cS "beat" ["self"] (spSbeat K cW cS) := calM_of hS.cls g_Sbeat (fun f fd F => ok_Sbeat F T hW hS c_joint_of c_summed c_moved c_Snarrow c_Wis_ahead) (fun _ _ _ _ _ _ us hl => match us, hl with | [_], _ => rfl)
  have c_Spiece : CalM P w K mg base CX0 5 cS "piece" ["self", "beats", "high"] (spSpiece K cW cS) := calM_of hS.cls g_Spiece (fun f fd F => ok_Spiece F T hS c_Sbeat) (fun _ _ _ _ _ _ us hl => match us, hl with | [_, _, _], _ => rfl)
  have c_is_stand : Cal P w K mg base CX0 2 "is_stand" ["wont", "thing"] (spIsStand K cW cS) := cal_of g_is_stand (fun f a => PySem.W.mg_of X G a) (fun f fd F => ok_IsStand F T c_Wsizes c_is_whole) (fun _ _ _ _ _ _ us hl => match us, hl with | [_, _], _ => rfl)
  have c_want_stand : Cal P w K mg base (L2.CX P w) 3 "want_stand" ["wont", "thing"] (spWantStand K cW cS xs) := cal_of g_want_stand (fun f a => PySem.W.mg_of X G a) (fun f fd F => ok_WantStand F T x_NoStand c_is_stand) (fun _ _ _ _ _ _ us hl => match us, hl with | [_, _], _ => rfl)
  have c_want_beats : Cal P w K mg base (L2.CX P w) 3 "want_beats" ["thing", "low", "high"] (spWantBeats K cW cS xs) := cal_of g_want_beats (fun f a => PySem.W.mg_of X G a) (fun f fd F => ok_WantBeats F T x_NoBeat c_is_from) (fun _ _ _ _ _ _ us hl => match us, hl with | [_, _, _], _ => rfl)
  have c_want_knob : Cal P w K mg base (L2.CX P w) 5 "want_knob" ["wont", "thing"] (spWantKnob K cW cS xs) := cal_of g_want_knob (fun f a => PySem.W.mg_of X G a) (fun f fd F => ok_WantKnob F T x_NoKnob c_is_knob) (fun _ _ _ _ _ _ us hl => match us, hl with | [_, _], _ => rfl)
  have c_pieces_of : Cal P w K mg base (L2.CX P w) 11 "pieces_of" ["wont", "stand", "beats", "knob", "low", "high"] (spPiecesOf K cW cS xs) := cal_of g_pieces_of (fun f a => PySem.W.mg_of X G a) (fun f fd F => ok_PiecesOf F T x_TooMany C c_Spiece c_Sight) (fun _ _ _ _ _ _ us hl => match us, hl with | [_, _, _, _, _, _], _ => rfl)
  have Nt : NtOk P w K mg base cW cS xs := by
    obtain ⟨f, fd, a, F⟩ := i_nt
    exact nt_ok F (ok_NearestTurn F T x_NoBook x_NoBeat C c_want_stand c_want_beats c_want_knob c_value_of c_pieces_of c_is_choice c_is_from c_nearest_in) (PySem.W.mg_of X G a) F.kp
  have c__law_put : Cal P w K mg base CX0 1 "_law_put" ["_law_some", "_law_spot", "_law_thing"] (spLPut K cW cS) := cal_of g__law_put (fun f a => PySem.W.mg_of X G a) (fun f fd F => ok_LPut F T) (fun _ _ _ _ _ _ us hl => match us, hl with | [_, _, _], _ => rfl)
  have c__law_joint : Cal P w K mg base CX0 1 "_law_joint" ["_law_told_here", "_law_stand_here"] (spLJoint K cW cS) := cal_of g__law_joint (fun f a => PySem.W.mg_of X G a) (fun f fd F => ok_LJoint F T) (fun _ _ _ _ _ _ us hl => match us, hl with | [_, _], _ => rfl)
  have c__law_nearest : Cal P w K mg base CX0 1 "_law_nearest" ["_law_some", "_law_own_here", "_law_spot", "_law_wish"] (spLNearest K cW cS) := cal_of g__law_nearest (fun f a => PySem.W.mg_of X G a) (fun f fd F => ok_LNearest F T) (fun _ _ _ _ _ _ us hl => match us, hl with | [_, _, _, _], _ => rfl)
  have c__law_own : Cal P w K mg base CX0 1 "_law_own" ["_law_told_here", "_law_stand_here", "_law_knob_here"] (spLOwn K cW cS) := cal_of g__law_own (fun f a => PySem.W.mg_of X G a) (fun f fd F => ok_LOwn F T) (fun _ _ _ _ _ _ us hl => match us, hl with | [_, _, _], _ => rfl)
  have c__law_turned : Cal P w K mg base CX0 2 "_law_turned" ["_law_told_here", "_law_stand_here", "_law_knob_here", "_law_number"] (spLTurned K cW cS) := cal_of g__law_turned (fun f a => PySem.W.mg_of X G a) (fun f fd F => ok_LTurned F T c__law_put) (fun _ _ _ _ _ _ us hl => match us, hl with | [_, _, _, _], _ => rfl)
  have c__law_moves : Cal P w K mg base CX0 1 "_law_moves" ["_law_told_here"] (spLMoves K cW cS) := cal_of g__law_moves (fun f a => PySem.W.mg_of X G a) (fun f fd F => ok_LMoves F T) (fun _ _ _ _ _ _ us hl => match us, hl with | [_], _ => rfl)
  have c__law_behind : Cal P w K mg base CX0 1 "_law_behind" ["_law_moves_here", "_law_stand_here", "_law_joint_here"] (spLBehind K cW cS) := cal_of g__law_behind (fun f a => PySem.W.mg_of X G a) (fun f fd F => ok_LBehind F T) (fun _ _ _ _ _ _ us hl => match us, hl with | [_, _, _], _ => rfl)
  have c__law_gone : Cal P w K mg base CX0 2 "_law_gone" ["_law_told_here", "_law_moves_here", "_law_stand_here", "_law_beats"] (spLGone K cW cS) := cal_of g__law_gone (fun f a => PySem.W.mg_of X G a) (fun f fd F => ok_LGone F T c__law_behind c__law_joint) (fun _ _ _ _ _ _ us hl => match us, hl with | [_, _, _, _], _ => rfl)
  have c__law_row_by : Cal P w K mg base CX0 3 "_law_row_by" ["_law_told_here", "_law_stand_here", "_law_knob_here", "_law_number", "_law_beats"] (spLRowBy K cW cS) := cal_of g__law_row_by (fun f a => PySem.W.mg_of X G a) (fun f fd F => ok_LRowBy F T c__law_turned c__law_gone c__law_moves) (fun _ _ _ _ _ _ us hl => match us, hl with | [_, _, _, _, _], _ => rfl)
  have c__law_slopes : Cal P w K mg base CX0 1 "_law_slopes" ["_law_told_here", "_law_knob_here", "_law_joint_here", "_law_slopes_here"] (spLSlopes K cW cS) := cal_of g__law_slopes (fun f a => PySem.W.mg_of X G a) (fun f fd F => ok_LSlopes F T) (fun _ _ _ _ _ _ us hl => match us, hl with | [_, _, _, _], _ => rfl)
  have c__law_piece : Cal P w K mg base CX0 3 "_law_piece" ["_law_told_here", "_law_stand_here", "_law_knob_here", "_law_number", "_law_bounds", "_law_beats"] (spLPiece K cW cS) := cal_of g__law_piece (fun f a => PySem.W.mg_of X G a) (fun f fd F => ok_LPiece F T c__law_turned c__law_moves c__law_joint c__law_slopes c__law_behind) (fun _ _ _ _ _ _ us hl => match us, hl with | [_, _, _, _, _, _], _ => rfl)
  have c__law_all : Cal P w K mg base CX0 4 "_law_all" ["_law_told_here", "_law_stand_here", "_law_knob_here", "_law_bounds", "_law_beats"] (spLAll K cW cS) := cal_of g__law_all (fun f a => PySem.W.mg_of X G a) (fun f fd F => ok_LAll F T c__law_piece) (fun _ _ _ _ _ _ us hl => match us, hl with | [_, _, _, _, _], _ => rfl)
  have c__law_due : Cal P w K mg base CX0 5 "_law_due" ["_law_told_here", "_law_stand_here", "_law_beats", "_law_knob_here", "_law_asked_for", "_law_reach"] (spLDue K cW cS) := cal_of g__law_due (fun f a => PySem.W.mg_of X G a) (fun f fd F => ok_LDue F T c__law_own c__law_all c__law_nearest) (fun _ _ _ _ _ _ us hl => match us, hl with | [_, _, _, _, _, _], _ => rfl)
  have c__law_well : Cal P w K mg base CX0 1 "_law_well" ["_law_cell"] (spLWell K cW cS) := cal_of g__law_well (fun f a => PySem.W.mg_of X G a) (fun f fd F => ok_LWell F T) (fun _ _ _ _ _ _ us hl => match us, hl with | [_], _ => rfl)
  have c__law_draw : Cal P w K mg base CX0 1 "_law_draw" ["_law_well_here", "_law_many"] (spLDraw K cW cS) := cal_of g__law_draw (fun f a => PySem.W.mg_of X G a) (fun f fd F => ok_LDraw F T) (fun _ _ _ _ _ _ us hl => match us, hl with | [_, _], _ => rfl)
  have c__law_one : Cal P w K mg base CX0 2 "_law_one" ["_law_well_here", "_law_some"] (spLOne K cW cS) := cal_of g__law_one (fun f a => PySem.W.mg_of X G a) (fun f fd F => ok_LOne F T c__law_draw) (fun _ _ _ _ _ _ us hl => match us, hl with | [_, _], _ => rfl)
  have c__law_order : Cal P w K mg base CX0 2 "_law_order" ["_law_well_here", "_law_many"] (spLOrder K cW cS) := cal_of g__law_order (fun f a => PySem.W.mg_of X G a) (fun f fd F => ok_LOrder F T c__law_draw) (fun _ _ _ _ _ _ us hl => match us, hl with | [_, _], _ => rfl)
  have c__law_numbers : Cal P w K mg base CX0 2 "_law_numbers" ["_law_well_here", "_law_many", "_law_by"] (spLNumbers K cW cS) := cal_of g__law_numbers (fun f a => PySem.W.mg_of X G a) (fun f fd F => ok_LNumbers F T c__law_draw) (fun _ _ _ _ _ _ us hl => match us, hl with | [_, _, _], _ => rfl)
  have c__law_stand : Cal P w K mg base CX0 3 "_law_stand" ["_law_well_here", "_law_told_here"] (spLStand K cW cS) := cal_of g__law_stand (fun f a => PySem.W.mg_of X G a) (fun f fd F => ok_LStand F T c__law_one c__law_draw) (fun _ _ _ _ _ _ us hl => match us, hl with | [_, _], _ => rfl)
  have c__law_knob : Cal P w K mg base CX0 3 "_law_knob" ["_law_well_here", "_law_told_here"] (spLKnob K cW cS) := cal_of g__law_knob (fun f a => PySem.W.mg_of X G a) (fun f fd F => ok_LKnob F T c__law_one) (fun _ _ _ _ _ _ us hl => match us, hl with | [_, _], _ => rfl)
  have c__law_told : Cal P w K mg base CX0 3 "_law_told" ["_law_well_here", "_law_most"] (spLTold K cW cS) := cal_of g__law_told (fun f a => PySem.W.mg_of X G a) (fun f fd F => ok_LTold F T c__law_one c__law_order c__law_numbers c__law_draw) (fun _ _ _ _ _ _ us hl => match us, hl with | [_, _], _ => rfl)
  have c__law_refused_right : Cal P w K mg base CX0 15 "_law_refused_right" ["_law_well_here", "_law_wont", "_law_told_here", "_law_stand_here", "_law_knob_here"] (spLRefusedRight (tabs3 PR PA PL) K cW cS) := ⟨fR, fdR, ok_LRefusedRight FR T Sd Em Nt TR (by simp [tabs3]) huR c__law_one, PySem.W.mg_of X G aR, FR.kp, FR.binds (fun _ _ _ _ _ us hl => match us, hl with | [_, _, _, _, _], _ => rfl)⟩
  have c__law_again_right : Cal P w K mg base CX0 15 "_law_again_right" ["_law_well_here", "_law_wont", "_law_told_here", "_law_stand_here", "_law_knob_here"] (spLAgainRight (tabs3 PR PA PL) K cW cS) := ⟨fA, fdA, ok_LAgainRight FA T Sd Em Nt TA (by simp [tabs3]) huA c__law_draw c__law_one c__law_knob c__law_stand c__law_due, PySem.W.mg_of X G aA, FA.kp, FA.binds (fun _ _ _ _ _ us hl => match us, hl with | [_, _, _, _, _], _ => rfl)⟩
  exact ok_Law FL T Sd Em Nt TL (by simp [tabs3]) huL c__law_well c__law_told c_Wont c__law_stand c__law_knob c__law_draw c__law_one c__law_due c__law_refused_right c__law_again_right c__law_row_by
end
end WB

namespace WB
open PySem L2 LamX
section
variable {K : PySem.W.Frag} {x q : Str} {st : Stmt} {C f : Addr} {oc : Value} {od an : Option Addr} {osl : Array (Option Value)} {kV doc pm cdv ct : Value}
theorem gf_mk (a : PySem.W.nsIn K mainGlobals x = some (some (.ref f))) (l : K.lookup f = some ⟨oc, od, .func (PySem.W.fnOf x x (defArgs st) (defBody st) (defScope st) .none kV doc pm an cdv ct), osl⟩) (c : PySem.W.codeIn K cdv x = true) (k : PySem.W.keepIn K (.ref f) = true) : GF K x st := ⟨f, _, a, fun_mk l c k⟩
theorem mf_mk (a : PySem.W.findIn K (.ref C) x = some (some (.ref f))) (i : PySem.W.isFn K (.ref f) = true) (l : K.lookup f = some ⟨oc, od, .func (PySem.W.fnOf x q (defArgs st) (defBody st) (defScope st) .none kV doc pm an cdv ct), osl⟩) (c : PySem.W.codeIn K cdv q = true) (k : PySem.W.keepIn K (.ref f) = true) : MF K C x q st := ⟨f, _, a, i, fun_mk l c k⟩
theorem mk_mk (a : PySem.W.findIn K (.ref C) "__init__" = some (some (.ref f))) (i : PySem.W.isFn K (.ref f) = true) (m : PySem.W.makesIn K C = true) (k : PySem.W.keepIn K (.ref C) = true) : Mk K C f := ⟨m, a, i, k⟩
theorem sight_mk (M : Mk K C f) (l : K.lookup f = some ⟨oc, od, .func (PySem.W.fnOf "__init__" "Sight.__init__" (defArgs sSinit) (defBody sSinit) (defScope sSinit) .none kV doc pm an cdv ct), osl⟩) (c : PySem.W.codeIn K cdv "Sight.__init__" = true) (k : PySem.W.keepIn K (.ref f) = true) : ∃ (f : Addr) (fd : FuncData), Fun K "__init__" "Sight.__init__" sSinit f fd ∧ Mk K C f := ⟨f, _, fun_mk l c k, M⟩
theorem wont_mk {D e : Addr} {o2 : Value} {d2 : Option Addr} {n2 : Nat} {s2 : Array (Option Value)} (M : Mk K C f) (l : K.lookup f = some ⟨oc, od, .func (PySem.W.fnOf "__init__" "Wont.__init__" (defArgs sWinit) (defBody sWinit) (defScope sWinit) (.ref D) kV doc pm an cdv ct), osl⟩) (l2 : K.lookup D = some ⟨o2, d2, .seq #[.ref e] n2, s2⟩) (c : PySem.W.codeIn K cdv "Wont.__init__" = true) (k : PySem.W.keepIn K (.ref f) = true) :
    ∃ (f : Addr) (fd : FuncData) (dvs : List V) (kws : List (Str × V)), FunD K "__init__" "Wont.__init__" (defArgs sWinit) (defBody sWinit) (defScope sWinit) dvs kws f fd ∧ Mk K C f ∧ Binds K fd ["self", "books", "feeds"] [] := by
  have F : FunD K "__init__" "Wont.__init__" (defArgs sWinit) (defBody sWinit) (defScope sWinit) [.ref e] [] f (PySem.W.fnOf "__init__" "Wont.__init__" (defArgs sWinit) (defBody sWinit) (defScope sWinit) (.ref D) kV doc pm an cdv ct) :=
    ⟨⟨oc, od, _, kV, doc, pm, an, cdv, ct, osl, rfl, l, c, .inr ⟨by simp, D, _, [.ref e], n2, rfl, l2, rfl, .cons rfl .nil⟩, .inl rfl⟩, k⟩
  obtain ⟨ds, r, b⟩ := F.binds1 (ps := (["self", "books", "feeds"] : List Str)) 3 1 (by simp) rfl fun T kV doc pm an cdv ct us its h1 h2 => by
    match us, its, h1, h2 with
    | [a, b, c], [d], _, _ => exact ⟨_, rfl, rfl⟩
  cases r
  exact ⟨f, _, _, _, F, M, b⟩
theorem nt_mk {D : Addr} {t : Tok} (a : PySem.W.nsIn K mainGlobals "nearest_turn" = some (some (.ref f))) (l : K.lookup f = some ⟨oc, od, .func (PySem.W.fnOf "nearest_turn" "nearest_turn" (defArgs sNearestTurn) (defBody sNearestTurn) (defScope sNearestTurn) .none (.ref D) doc pm an cdv ct), osl⟩) (d : PySem.W.nsIn K D "far" = some (some (.int 1000 t))) (c : PySem.W.codeIn K cdv "nearest_turn" = true) (k : PySem.W.keepIn K (.ref f) = true) :
    ∃ (f : Addr) (fd : FuncData), PySem.W.nsIn K mainGlobals "nearest_turn" = some (some (.ref f)) ∧ FunD K "nearest_turn" "nearest_turn" (defArgs sNearestTurn) (defBody sNearestTurn) (defScope sNearestTurn) [] [("far", .int 1000)] f fd :=
  ⟨f, _, a, ⟨oc, od, _, _, doc, pm, an, cdv, ct, osl, rfl, l, c, .inl ⟨rfl, rfl⟩, .inr ⟨D, rfl, fun q hq => by
    rw [List.mem_singleton] at hq
    subst hq
    exact ⟨_, d, ⟨_, rfl⟩⟩⟩⟩, k⟩
/-- a def that holds lambdas, its code object, its table -/
structure TF (K : PySem.W.Frag) (x : Str) (st : Stmt) (c P f : Addr) (fd : FuncData) : Prop where
  a : PySem.W.nsIn K mainGlobals x = some (some (.ref f))
  F : FunC K x x st c f fd
  h : PySem.W.codeHdIn K c P = true
  n : K.lookup P = none
theorem tf_mk {c P : Addr} (a : PySem.W.nsIn K mainGlobals x = some (some (.ref f))) (l : K.lookup f = some ⟨oc, od, .func (PySem.W.fnOf x x (defArgs st) (defBody st) (defScope st) .none kV doc pm an (.ref c) ct), osl⟩) (cd : PySem.W.codeIn K (.ref c) x = true) (k : PySem.W.keepIn K (.ref f) = true) (h : PySem.W.codeHdIn K c P = true) (n : K.lookup P = none) : TF K x st c P f (PySem.W.fnOf x x (defArgs st) (defBody st) (defScope st) .none kV doc pm an (.ref c) ct) := ⟨a, ⟨⟨oc, od, kV, doc, pm, an, ct, osl, rfl, l, cd⟩, k⟩, h, n⟩
end
end WB

namespace WB
open PySem L2 LamX
theorem FunC.bindsTo {K : PySem.W.Frag} {c f : Addr} {fd : FuncData} (F : FunC K "law" "law" sLaw c f fd) (s : Shared) (u : Value) : BindsTo s fd ⟨[u], []⟩ [("_law_script", u)] := by
  obtain ⟨oc, od, kV, doc, pm, an, ct, osl, rfl, lk, hcd⟩ := F.ex
  exact .of_eq rfl
theorem tabs_nil {PR PA PL cR cA cL : Addr} {H : Hp} (h : ∀ p ∈ [(cR, PR), (cA, PA), (cL, PL)], H p.2 = some (.tbl #[])) : Tabs (tabs3 PR PA PL) H := fun p hp => by
  simp only [tabs3, List.mem_cons, List.not_mem_nil, or_false] at hp
  rcases hp with rfl | rfl | rfl
  · exact TabS.nil (h (cR, PR) (by simp))
  · exact TabS.nil (h (cA, PA) (by simp))
  · exact TabS.nil (h (cL, PL) (by simp))
section
variable {w : World} {K : PySem.W.Frag} {mg : Str → Option Value} {cW cS dW : Addr} {xs : Exs}
theorem fin {l : PySem.W.OpenLaw} {h : Heap} {fa : Addr} {Ts : List Addr} {es : Array DictEntry} {n : Nat} {cR cA cL fR fA fL PR PA PL : Addr} {fdR fdA fdL : FuncData} (hfa : mg "law" = some (.ref fa)) (hT : ∀ P ∈ Ts, h.get? P = some (PySem.W.tabObj #[]))
    (tR : TF K "_law_refused_right" sLRefusedRight cR PR fR fdR) (tA : TF K "_law_again_right" sLAgainRight cA PA fA fdA) (tL : TF K "law" sLaw cL PL fL fdL) (mR : PR ∈ Ts) (mA : PA ∈ Ts) (mL : PL ∈ Ts)
    (X : K.In h)
    (G : h.Ns mainGlobals mg)
    (T : NoG mg)
    (hW : WF K cW)
    (hS : SF K cS)
    (C : Csts mg)
    (Em : Exm K mg xs)
    (Wo : Wds K w mg dW es n)
    (g__law_said : GF K "_law_said" sLSaid)
    (n1 : PR ≠ PA)
    (n2 : PR ≠ PL)
    (n3 : PA ≠ PL)
    (g_summed : GF K "summed" sSummed)
    (g_put_in : GF K "put_in" sPutIn)
    (g_Wsizes : MF K cW "sizes" "Wont.sizes" sWsizes)
    (g_Worder : MF K cW "order" "Wont.order" sWorder)
    (g_Wis_ahead : MF K cW "is_ahead" "Wont.is_ahead" sWis_ahead)
    (g_strongest : GF K "strongest" sStrongest)
    (g_joint_of : GF K "joint_of" sJointOf)
    (g_nothing : GF K "nothing" sNothing)
    (g_moved : GF K "moved" sMoved)
    (g_Wadds_to : MF K cW "adds_to" "Wont.adds_to" sWadds_to)
    (g_Wall_moves : MF K cW "all_moves" "Wont.all_moves" sWall_moves)
    (g_Wtold : MF K cW "told" "Wont.told" sWtold)
    (g_is_whole : GF K "is_whole" sIsWhole)
    (g_is_from : GF K "is_from" sIsFrom)
    (g_is_amount : GF K "is_amount" sIsAmount)
    (g_are_amounts : GF K "are_amounts" sAreAmounts)
    (g_is_list : GF K "is_list" sIsList)
    (g_is_book : GF K "is_book" sIsBook)
    (g_is_feed : GF K "is_feed" sIsFeed)
    (g_feeds_by_choices : GF K "feeds_by_choices" sFeedsByChoices)
    (i_Wont : ∃ (f : Addr) (fd : FuncData) (dvs : List V) (kws : List (Str × V)), FunD K "__init__" "Wont.__init__" (defArgs sWinit) (defBody sWinit) (defScope sWinit) dvs kws f fd ∧ Mk K cW f ∧ Binds K fd ["self", "books", "feeds"] [])
    (m_Wont : mg "Wont" = some (.ref cW))
    (g_nearest_in : GF K "nearest_in" sNearestIn)
    (g_is_choice : GF K "is_choice" sIsChoice)
    (g_value_of : GF K "value_of" sValueOf)
    (g_slopes_of : GF K "slopes_of" sSlopesOf)
    (g_is_knob : GF K "is_knob" sIsKnob)
    (g_turned_to : GF K "turned_to" sTurnedTo)
    (g_Snarrow : MF K cS "narrow" "Sight.narrow" sSnarrow)
    (i_Sight : ∃ (f : Addr) (fd : FuncData), Fun K "__init__" "Sight.__init__" sSinit f fd ∧ Mk K cS f)
    (m_Sight : mg "Sight" = some (.ref cS))
    (g_Sbeat : MF K cS "beat" "Sight.beat" sSbeat)
    (g_Spiece : MF K cS "piece" "Sight.piece" sSpiece)
    (g_is_stand : GF K "is_stand" sIsStand)
    (g_want_stand : GF K "want_stand" sWantStand)
    (g_want_beats : GF K "want_beats" sWantBeats)
    (g_want_knob : GF K "want_knob" sWantKnob)
    (g_pieces_of : GF K "pieces_of" sPiecesOf)
    (i_nt : ∃ (f : Addr) (fd : FuncData), PySem.W.nsIn K mainGlobals "nearest_turn" = some (some (.ref f)) ∧ FunD K "nearest_turn" "nearest_turn" (defArgs sNearestTurn) (defBody sNearestTurn) (defScope sNearestTurn) [] [("far", .int 1000)] f fd)
    (g__law_put : GF K "_law_put" sLPut)
    (g__law_joint : GF K "_law_joint" sLJoint)
    (g__law_nearest : GF K "_law_nearest" sLNearest)
    (g__law_own : GF K "_law_own" sLOwn)
    (g__law_turned : GF K "_law_turned" sLTurned)
    (g__law_moves : GF K "_law_moves" sLMoves)
    (g__law_behind : GF K "_law_behind" sLBehind)
    (g__law_gone : GF K "_law_gone" sLGone)
    (g__law_row_by : GF K "_law_row_by" sLRowBy)
    (g__law_slopes : GF K "_law_slopes" sLSlopes)
    (g__law_piece : GF K "_law_piece" sLPiece)
    (g__law_all : GF K "_law_all" sLAll)
    (g__law_due : GF K "_law_due" sLDue)
    (g__law_well : GF K "_law_well" sLWell)
    (g__law_draw : GF K "_law_draw" sLDraw)
    (g__law_one : GF K "_law_one" sLOne)
    (g__law_order : GF K "_law_order" sLOrder)
    (g__law_numbers : GF K "_law_numbers" sLNumbers)
    (g__law_stand : GF K "_law_stand" sLStand)
    (g__law_knob : GF K "_law_knob" sLKnob)
    (g__law_told : GF K "_law_told" sLTold) : LawAtS l w K CX0 16 63 "_law_script" mg fa h := by
  have e := hfa.symm.trans (PySem.W.mg_of X G tL.a)
  cases e
  have all3 : ∀ {p : Addr × Addr} {A : Addr → Addr → Prop}, A cR PR → A cA PA → A cL PL → p ∈ [(cR, PR), (cA, PA), (cL, PL)] → A p.1 p.2 := fun {p A} a b c hp => by
    simp only [List.mem_cons, List.not_mem_nil, or_false] at hp
    rcases hp with rfl | rfl | rfl
    · exact a
    · exact b
    · exact c
  refine ⟨fdL, [(cR, PR), (cA, PA), (cL, PL)], spLaw (tabs3 PR PA PL) K cW cS, fun p hp => all3 (A := fun _ P => h.get? P = some { cls := .none, data := .fields #[] }) (hT PR mR) (hT PA mA) (hT PL mL) hp, fun p hp => all3 (A := fun _ P => K.lookup P = none) tR.n tA.n tL.n hp,
    fun p hp => all3 (A := fun c P => PySem.W.CodeHd h c P) (PySem.W.codeHd_of_K X tR.h) (PySem.W.codeHd_of_K X tA.h) (PySem.W.codeHd_of_K X tL.h) hp, fun s u => tL.F.bindsTo s u, fun H a ns hl _ hH hS => ⟨a, ns, rfl, hS, tabs_nil hH, by omega, fun _ => rfl⟩, fun base _ _ hTB => ?_⟩
  exact gather (X := X) (G := G) (T := T) (hW := hW) (hS := hS) (C := C) (Em := Em) (Wo := Wo) (g__law_said := g__law_said) (n1 := n1) (n2 := n2) (n3 := n3) (g_summed := g_summed) (g_put_in := g_put_in) (g_Wsizes := g_Wsizes) (g_Worder := g_Worder) (g_Wis_ahead := g_Wis_ahead) (g_strongest := g_strongest) (g_joint_of := g_joint_of) (g_nothing := g_nothing) (g_moved := g_moved) (g_Wadds_to := g_Wadds_to) (g_Wall_moves := g_Wall_moves) (g_Wtold := g_Wtold) (g_is_whole := g_is_whole) (g_is_from := g_is_from) (g_is_amount := g_is_amount) (g_are_amounts := g_are_amounts) (g_is_list := g_is_list) (g_is_book := g_is_book) (g_is_feed := g_is_feed) (g_feeds_by_choices := g_feeds_by_choices) (i_Wont := i_Wont) (m_Wont := m_Wont) (g_nearest_in := g_nearest_in) (g_is_choice := g_is_choice) (g_value_of := g_value_of) (g_slopes_of := g_slopes_of) (g_is_knob := g_is_knob) (g_turned_to := g_turned_to) (g_Snarrow := g_Snarrow) (i_Sight := i_Sight) (m_Sight := m_Sight) (g_Sbeat := g_Sbeat) (g_Spiece := g_Spiece) (g_is_stand := g_is_stand) (g_want_stand := g_want_stand) (g_want_beats := g_want_beats) (g_want_knob := g_want_knob) (g_pieces_of := g_pieces_of) (i_nt := i_nt) (g__law_put := g__law_put) (g__law_joint := g__law_joint) (g__law_nearest := g__law_nearest) (g__law_own := g__law_own) (g__law_turned := g__law_turned) (g__law_moves := g__law_moves) (g__law_behind := g__law_behind) (g__law_gone := g__law_gone) (g__law_row_by := g__law_row_by) (g__law_slopes := g__law_slopes) (g__law_piece := g__law_piece) (g__law_all := g__law_all) (g__law_due := g__law_due) (g__law_well := g__law_well) (g__law_draw := g__law_draw) (g__law_one := g__law_one) (g__law_order := g__law_order) (g__law_numbers := g__law_numbers) (g__law_stand := g__law_stand) (g__law_knob := g__law_knob) (g__law_told := g__law_told) (FR := tR.F) (aR := tR.a) (TR := hTB (cR, PR) (by simp)) (FA := tA.F) (aA := tA.a) (TA := hTB (cA, PA) (by simp)) (FL := tL.F) (aL := tL.a) (TL := hTB (cL, PL) (by simp))
end
end WB

namespace WB
open PySem L2 LamX
section
variable {w : World} {K : PySem.W.Frag} {mg : Str → Option Value} {h : Heap}
theorem exm_mk {as ab ak ao am aw : Addr} (X : K.In h) (G : h.Ns mainGlobals mg) (em1 : PySem.W.nsIn K mainGlobals "TooMany" = some (some (.ref am))) (em2 : PySem.W.keepIn K (.ref am) = true) (em3 : PySem.W.excIn K am [.type "ValueError", .type "Exception", .type "BaseException", .type "object"] "ValueError.__new__" = true) (em4 : PySem.W.subIn K (.ref am) (.type "BaseException") = some true) (em5 : PySem.W.typeIn K (.ref am) = some (.type "type")) (es1 : PySem.W.nsIn K mainGlobals "NoStand" = some (some (.ref as))) (es2 : PySem.W.keepIn K (.ref as) = true) (es3 : PySem.W.excIn K as [.type "ValueError", .type "Exception", .type "BaseException", .type "object"] "ValueError.__new__" = true) (es4 : PySem.W.subIn K (.ref as) (.type "BaseException") = some true) (es5 : PySem.W.typeIn K (.ref as) = some (.type "type")) (eb1 : PySem.W.nsIn K mainGlobals "NoBeat" = some (some (.ref ab))) (eb2 : PySem.W.keepIn K (.ref ab) = true) (eb3 : PySem.W.excIn K ab [.type "ValueError", .type "Exception", .type "BaseException", .type "object"] "ValueError.__new__" = true) (eb4 : PySem.W.subIn K (.ref ab) (.type "BaseException") = some true) (eb5 : PySem.W.typeIn K (.ref ab) = some (.type "type")) (ek1 : PySem.W.nsIn K mainGlobals "NoKnob" = some (some (.ref ak))) (ek2 : PySem.W.keepIn K (.ref ak) = true) (ek3 : PySem.W.excIn K ak [.type "ValueError", .type "Exception", .type "BaseException", .type "object"] "ValueError.__new__" = true) (ek4 : PySem.W.subIn K (.ref ak) (.type "BaseException") = some true) (ek5 : PySem.W.typeIn K (.ref ak) = some (.type "type")) (eo1 : PySem.W.nsIn K mainGlobals "NoBook" = some (some (.ref ao))) (eo2 : PySem.W.keepIn K (.ref ao) = true) (eo3 : PySem.W.excIn K ao [.type "ValueError", .type "Exception", .type "BaseException", .type "object"] "ValueError.__new__" = true) (eo4 : PySem.W.subIn K (.ref ao) (.type "BaseException") = some true) (eo5 : PySem.W.typeIn K (.ref ao) = some (.type "type")) (ew : PySem.W.nsIn K mainGlobals "WontError" = some (some (.ref aw))) (qmm : PySem.W.exmOne K (.ref am) (.ref am) = some true) (qsm : PySem.W.exmOne K (.ref as) (.ref am) = some false) (qss : PySem.W.exmOne K (.ref as) (.ref as) = some true) (qbm : PySem.W.exmOne K (.ref ab) (.ref am) = some false) (qbs : PySem.W.exmOne K (.ref ab) (.ref as) = some false) (qbb : PySem.W.exmOne K (.ref ab) (.ref ab) = some true) (qkm : PySem.W.exmOne K (.ref ak) (.ref am) = some false) (qks : PySem.W.exmOne K (.ref ak) (.ref as) = some false) (qkb : PySem.W.exmOne K (.ref ak) (.ref ab) = some false) (qkk : PySem.W.exmOne K (.ref ak) (.ref ak) = some true) (qom : PySem.W.exmOne K (.ref ao) (.ref am) = some false) (qos : PySem.W.exmOne K (.ref ao) (.ref as) = some false) (qob : PySem.W.exmOne K (.ref ao) (.ref ab) = some false) (qok : PySem.W.exmOne K (.ref ao) (.ref ak) = some false) (qoo : PySem.W.exmOne K (.ref ao) (.ref ao) = some true) : Exm K mg ⟨as, ab, ak, ao, am⟩ :=
  ⟨⟨PySem.W.mg_of X G em1, em2, em3, em4, em5⟩, ⟨PySem.W.mg_of X G es1, es2, es3, es4, es5⟩, ⟨PySem.W.mg_of X G eb1, eb2, eb3, eb4, eb5⟩, ⟨PySem.W.mg_of X G ek1, ek2, ek3, ek4, ek5⟩, ⟨PySem.W.mg_of X G eo1, eo2, eo3, eo4, eo5⟩, ⟨_, PySem.W.mg_of X G ew⟩, qmm, qsm, qss, qbm, qbs, qbb, qkm, qks, qkb, qkk, qom, qos, qob, qok, qoo⟩
theorem wds_mk {d : Addr} {es : Array DictEntry} {n : Nat} {t1 t2 t3 t4 : Tok} (X : K.In h) (G : h.Ns mainGlobals mg) (a : PySem.W.nsIn K mainGlobals "WORDS" = some (some (.ref d))) (l : K.lookup d = some ⟨.type "dict", none, .dict es n, #[]⟩) (lit : PySem.W.KeysLit w.params es.toList) (low : (d == sysModules) = false)
    (d1 : PySem.W.nsIn K d "strength" = some (some (.int 3 t1))) (d2 : PySem.W.nsIn K d "gain" = some (some (.int 3 t2))) (d3 : PySem.W.nsIn K d "wane" = some (some (.int 3 t3))) (d4 : PySem.W.nsIn K d "feed" = some (some (.int 5 t4))) : Wds K w mg d es n := ⟨⟨l, lit, low⟩, PySem.W.mg_of X G a, ⟨_, d1⟩, ⟨_, d2⟩, ⟨_, d3⟩, ⟨_, d4⟩⟩
theorem csts_mk {t1 t2 t3 t4 t5 : Tok} (X : K.In h) (G : h.Ns mainGlobals mg) (c1 : PySem.W.nsIn K mainGlobals "MOST_AMOUNT" = some (some (.int 1000000000 t1))) (c2 : PySem.W.nsIn K mainGlobals "MOST_BOOKS" = some (some (.int 4 t2))) (c3 : PySem.W.nsIn K mainGlobals "MOST_CHOICES" = some (some (.int 5 t3))) (c4 : PySem.W.nsIn K mainGlobals "MOST_TURNED" = some (some (.int 60 t4))) (c5 : PySem.W.nsIn K mainGlobals "MOST_PIECES" = some (some (.int 300 t5))) : Csts mg := ⟨⟨_, PySem.W.mg_of X G c1⟩, ⟨_, PySem.W.mg_of X G c2⟩, ⟨_, PySem.W.mg_of X G c3⟩, ⟨_, PySem.W.mg_of X G c4⟩, ⟨_, PySem.W.mg_of X G c5⟩⟩
theorem nog_mk (X : K.In h) (G : h.Ns mainGlobals mg) (z_len : PySem.W.nsIn K mainGlobals "len" = some none) (z_zip : PySem.W.nsIn K mainGlobals "zip" = some none) (z_enumerate : PySem.W.nsIn K mainGlobals "enumerate" = some none) (z_range : PySem.W.nsIn K mainGlobals "range" = some none) (z_tuple : PySem.W.nsIn K mainGlobals "tuple" = some none) (z_list : PySem.W.nsIn K mainGlobals "list" = some none) (z_dict : PySem.W.nsIn K mainGlobals "dict" = some none) (z_max : PySem.W.nsIn K mainGlobals "max" = some none) (z_min : PySem.W.nsIn K mainGlobals "min" = some none) (z_int : PySem.W.nsIn K mainGlobals "int" = some none) (z_all : PySem.W.nsIn K mainGlobals "all" = some none) (z_sum : PySem.W.nsIn K mainGlobals "sum" = some none) (z_sorted : PySem.W.nsIn K mainGlobals "sorted" = some none) (z_isinstance : PySem.W.nsIn K mainGlobals "isinstance" = some none) (z_abs : PySem.W.nsIn K mainGlobals "abs" = some none) (z_set : PySem.W.nsIn K mainGlobals "set" = some none) (z_str : PySem.W.nsIn K mainGlobals "str" = some none) (z_bool : PySem.W.nsIn K mainGlobals "bool" = some none) : NoG mg := ⟨PySem.W.mg_none_of X G z_len, PySem.W.mg_none_of X G z_zip, PySem.W.mg_none_of X G z_enumerate, PySem.W.mg_none_of X G z_range, PySem.W.mg_none_of X G z_tuple, PySem.W.mg_none_of X G z_list, PySem.W.mg_none_of X G z_dict, PySem.W.mg_none_of X G z_max, PySem.W.mg_none_of X G z_min, PySem.W.mg_none_of X G z_int, PySem.W.mg_none_of X G z_all, PySem.W.mg_none_of X G z_sum, PySem.W.mg_none_of X G z_sorted, PySem.W.mg_none_of X G z_isinstance, PySem.W.mg_none_of X G z_abs, PySem.W.mg_none_of X G z_set, PySem.W.mg_none_of X G z_str, PySem.W.mg_none_of X G z_bool⟩
theorem tfv_mk {x : Str} {st : Stmt} {f c Pt : Addr} {oc kV doc pm ct e : Value} {od an dd : Option Addr} {osl sl : Array (Option Value)} {vs : Array Value} (a : PySem.W.nsIn K mainGlobals x = some (some (.ref f))) (l : K.lookup f = some ⟨oc, od, .func (PySem.W.fnOf x x (defArgs st) (defBody st) (defScope st) .none kV doc pm an (.ref c) ct), osl⟩) (lc : K.lookup c = some ⟨e, dd, .fields vs, sl⟩) (hv : vs[11]? = some (.ref Pt)) (cd : PySem.W.codeIn K (.ref c) x = true) (k : PySem.W.keepIn K (.ref f) = true) (h : PySem.W.codeHdIn K c Pt = true) (n : K.lookup Pt = none) : TF K x st c Pt f (PySem.W.fnOf x x (defArgs st) (defBody st) (defScope st) .none kV doc pm an (.ref c) ct) := tf_mk a l cd k h n
end
end WB
open PySem PySem.W PyProof.Rows
set_option maxRecDepth 100000 in
set_option maxHeartbeats 0 in
theorem PySem.Challenge.cw_wontbooks_k36_whole_the_nearest_turn_holds : PySem.Challenge.rw_wontbooks_k36_whole_the_nearest_turn.Holds := by
  w_on; o_law; k_head; (case hw => w_witness2)
  k_fill
  refine LamX.walk_ofTs (l := PySem.Challenge.rw_wontbooks_k36_whole_the_nearest_turn) (k := 16) (x := PySem.Str.ofString "_law_script") (CX := fun _ => L2.CX0) rfl ?a1 (by kernel_rfl) ⟨rfl, by decide, by decide⟩ (fun w h Y => km_in_of Y) ?F (fun _ _ _ _ _ z => z)
  case a1 => decide
  case F =>
    intro w mg fa h Y KX G hmg
    have hT := km_tabs_of Y
    refine' WB.fin (hfa := hmg)
      (hT := hT)
      (X := KX)
      (G := G)
      (m_Wont := PySem.W.mg_of KX G ?aW)
      (m_Sight := PySem.W.mg_of KX G ?aS)
      (tR := WB.tfv_mk ?tRa ?tRl ?tRlc ?tRhv ?tRcd ?tRk ?tRh ?tRn)
      (tA := WB.tfv_mk ?tAa ?tAl ?tAlc ?tAhv ?tAcd ?tAk ?tAh ?tAn)
      (tL := WB.tfv_mk ?tLa ?tLl ?tLlc ?tLhv ?tLcd ?tLk ?tLh ?tLn)
      (mR := ?mR)
      (mA := ?mA)
      (mL := ?mL)
      (n1 := ?n1)
      (n2 := ?n2)
      (n3 := ?n3)
      (T := WB.nog_mk KX G ?z_len ?z_zip ?z_enumerate ?z_range ?z_tuple ?z_list ?z_dict ?z_max ?z_min ?z_int ?z_all ?z_sum ?z_sorted ?z_isinstance ?z_abs ?z_set ?z_str ?z_bool)
      (hW := ⟨⟨?Wpg, ?Whd, ?Wpo, ?Wsa⟩, ?W_books, ?W_lengths, ?W_fed, ?W_moves, ?W_ranks⟩)
      (hS := ⟨⟨?Spg, ?Shd, ?Spo, ?Ssa⟩, ?S_knob, ?S_value, ?S_wont, ?S_stand, ?S_slopes, ?S_more, ?S_high⟩)
      (C := WB.csts_mk KX G ?c1 ?c2 ?c3 ?c4 ?c5)
      (Em := WB.exm_mk KX G ?em1 ?em2 ?em3 ?em4 ?em5 ?es1 ?es2 ?es3 ?es4 ?es5 ?eb1 ?eb2 ?eb3 ?eb4 ?eb5 ?ek1 ?ek2 ?ek3 ?ek4 ?ek5 ?eo1 ?eo2 ?eo3 ?eo4 ?eo5 ?ew ?qmm ?qsm ?qss ?qbm ?qbs ?qbb ?qkm ?qks ?qkb ?qkk ?qom ?qos ?qob ?qok ?qoo)
      (Wo := WB.wds_mk KX G ?wa ?wl ?wlit ?wlow ?wd1 ?wd2 ?wd3 ?wd4)
      (g__law_said := WB.gf_mk ?g__law_said_a ?g__law_said_l ?g__law_said_c ?g__law_said_k)
      (g_summed := WB.gf_mk ?g_summed_a ?g_summed_l ?g_summed_c ?g_summed_k)
      (g_put_in := WB.gf_mk ?g_put_in_a ?g_put_in_l ?g_put_in_c ?g_put_in_k)
      (g_Wsizes := WB.mf_mk ?g_Wsizes_a ?g_Wsizes_i ?g_Wsizes_l ?g_Wsizes_c ?g_Wsizes_k)
      (g_Worder := WB.mf_mk ?g_Worder_a ?g_Worder_i ?g_Worder_l ?g_Worder_c ?g_Worder_k)
      (g_Wis_ahead := WB.mf_mk ?g_Wis_ahead_a ?g_Wis_ahead_i ?g_Wis_ahead_l ?g_Wis_ahead_c ?g_Wis_ahead_k)
      (g_strongest := WB.gf_mk ?g_strongest_a ?g_strongest_l ?g_strongest_c ?g_strongest_k)
      (g_joint_of := WB.gf_mk ?g_joint_of_a ?g_joint_of_l ?g_joint_of_c ?g_joint_of_k)
      (g_nothing := WB.gf_mk ?g_nothing_a ?g_nothing_l ?g_nothing_c ?g_nothing_k)
      (g_moved := WB.gf_mk ?g_moved_a ?g_moved_l ?g_moved_c ?g_moved_k)
      (g_Wadds_to := WB.mf_mk ?g_Wadds_to_a ?g_Wadds_to_i ?g_Wadds_to_l ?g_Wadds_to_c ?g_Wadds_to_k)
      (g_Wall_moves := WB.mf_mk ?g_Wall_moves_a ?g_Wall_moves_i ?g_Wall_moves_l ?g_Wall_moves_c ?g_Wall_moves_k)
      (g_Wtold := WB.mf_mk ?g_Wtold_a ?g_Wtold_i ?g_Wtold_l ?g_Wtold_c ?g_Wtold_k)
      (g_is_whole := WB.gf_mk ?g_is_whole_a ?g_is_whole_l ?g_is_whole_c ?g_is_whole_k)
      (g_is_from := WB.gf_mk ?g_is_from_a ?g_is_from_l ?g_is_from_c ?g_is_from_k)
      (g_is_amount := WB.gf_mk ?g_is_amount_a ?g_is_amount_l ?g_is_amount_c ?g_is_amount_k)
      (g_are_amounts := WB.gf_mk ?g_are_amounts_a ?g_are_amounts_l ?g_are_amounts_c ?g_are_amounts_k)
      (g_is_list := WB.gf_mk ?g_is_list_a ?g_is_list_l ?g_is_list_c ?g_is_list_k)
      (g_is_book := WB.gf_mk ?g_is_book_a ?g_is_book_l ?g_is_book_c ?g_is_book_k)
      (g_is_feed := WB.gf_mk ?g_is_feed_a ?g_is_feed_l ?g_is_feed_c ?g_is_feed_k)
      (g_feeds_by_choices := WB.gf_mk ?g_feeds_by_choices_a ?g_feeds_by_choices_l ?g_feeds_by_choices_c ?g_feeds_by_choices_k)
      (g_nearest_in := WB.gf_mk ?g_nearest_in_a ?g_nearest_in_l ?g_nearest_in_c ?g_nearest_in_k)
      (g_is_choice := WB.gf_mk ?g_is_choice_a ?g_is_choice_l ?g_is_choice_c ?g_is_choice_k)
      (g_value_of := WB.gf_mk ?g_value_of_a ?g_value_of_l ?g_value_of_c ?g_value_of_k)
      (g_slopes_of := WB.gf_mk ?g_slopes_of_a ?g_slopes_of_l ?g_slopes_of_c ?g_slopes_of_k)
      (g_is_knob := WB.gf_mk ?g_is_knob_a ?g_is_knob_l ?g_is_knob_c ?g_is_knob_k)
      (g_turned_to := WB.gf_mk ?g_turned_to_a ?g_turned_to_l ?g_turned_to_c ?g_turned_to_k)
      (g_Snarrow := WB.mf_mk ?g_Snarrow_a ?g_Snarrow_i ?g_Snarrow_l ?g_Snarrow_c ?g_Snarrow_k)
      (g_Sbeat := WB.mf_mk ?g_Sbeat_a ?g_Sbeat_i ?g_Sbeat_l ?g_Sbeat_c ?g_Sbeat_k)
      (g_Spiece := WB.mf_mk ?g_Spiece_a ?g_Spiece_i ?g_Spiece_l ?g_Spiece_c ?g_Spiece_k)
      (g_is_stand := WB.gf_mk ?g_is_stand_a ?g_is_stand_l ?g_is_stand_c ?g_is_stand_k)
      (g_want_stand := WB.gf_mk ?g_want_stand_a ?g_want_stand_l ?g_want_stand_c ?g_want_stand_k)
      (g_want_beats := WB.gf_mk ?g_want_beats_a ?g_want_beats_l ?g_want_beats_c ?g_want_beats_k)
      (g_want_knob := WB.gf_mk ?g_want_knob_a ?g_want_knob_l ?g_want_knob_c ?g_want_knob_k)
      (g_pieces_of := WB.gf_mk ?g_pieces_of_a ?g_pieces_of_l ?g_pieces_of_c ?g_pieces_of_k)
      (g__law_put := WB.gf_mk ?g__law_put_a ?g__law_put_l ?g__law_put_c ?g__law_put_k)
      (g__law_joint := WB.gf_mk ?g__law_joint_a ?g__law_joint_l ?g__law_joint_c ?g__law_joint_k)
      (g__law_nearest := WB.gf_mk ?g__law_nearest_a ?g__law_nearest_l ?g__law_nearest_c ?g__law_nearest_k)
      (g__law_own := WB.gf_mk ?g__law_own_a ?g__law_own_l ?g__law_own_c ?g__law_own_k)
      (g__law_turned := WB.gf_mk ?g__law_turned_a ?g__law_turned_l ?g__law_turned_c ?g__law_turned_k)
      (g__law_moves := WB.gf_mk ?g__law_moves_a ?g__law_moves_l ?g__law_moves_c ?g__law_moves_k)
      (g__law_behind := WB.gf_mk ?g__law_behind_a ?g__law_behind_l ?g__law_behind_c ?g__law_behind_k)
      (g__law_gone := WB.gf_mk ?g__law_gone_a ?g__law_gone_l ?g__law_gone_c ?g__law_gone_k)
      (g__law_row_by := WB.gf_mk ?g__law_row_by_a ?g__law_row_by_l ?g__law_row_by_c ?g__law_row_by_k)
      (g__law_slopes := WB.gf_mk ?g__law_slopes_a ?g__law_slopes_l ?g__law_slopes_c ?g__law_slopes_k)
      (g__law_piece := WB.gf_mk ?g__law_piece_a ?g__law_piece_l ?g__law_piece_c ?g__law_piece_k)
      (g__law_all := WB.gf_mk ?g__law_all_a ?g__law_all_l ?g__law_all_c ?g__law_all_k)
      (g__law_due := WB.gf_mk ?g__law_due_a ?g__law_due_l ?g__law_due_c ?g__law_due_k)
      (g__law_well := WB.gf_mk ?g__law_well_a ?g__law_well_l ?g__law_well_c ?g__law_well_k)
      (g__law_draw := WB.gf_mk ?g__law_draw_a ?g__law_draw_l ?g__law_draw_c ?g__law_draw_k)
      (g__law_one := WB.gf_mk ?g__law_one_a ?g__law_one_l ?g__law_one_c ?g__law_one_k)
      (g__law_order := WB.gf_mk ?g__law_order_a ?g__law_order_l ?g__law_order_c ?g__law_order_k)
      (g__law_numbers := WB.gf_mk ?g__law_numbers_a ?g__law_numbers_l ?g__law_numbers_c ?g__law_numbers_k)
      (g__law_stand := WB.gf_mk ?g__law_stand_a ?g__law_stand_l ?g__law_stand_c ?g__law_stand_k)
      (g__law_knob := WB.gf_mk ?g__law_knob_a ?g__law_knob_l ?g__law_knob_c ?g__law_knob_k)
      (g__law_told := WB.gf_mk ?g__law_told_a ?g__law_told_l ?g__law_told_c ?g__law_told_k)
      (i_Wont := WB.wont_mk (WB.mk_mk ?iWa ?iWi ?iWm ?iWk) ?iWl ?iWl2 ?iWc ?iWk2)
      (i_Sight := WB.sight_mk (WB.mk_mk ?iSa ?iSi ?iSm ?iSk) ?iSl ?iSc ?iSk2)
      (i_nt := WB.nt_mk ?nta ?ntl ?ntd ?ntc ?ntk)
    (case aW => k_is)
    (case aS => k_is)
    (case tRa => k_is)
    (case tRl => k_is)
    (case tRlc => k_is)
    (case tRhv => exact rfl)
    (case tRcd => first | k_is | kernel_rfl)
    (case tRk => first | k_is | kernel_rfl)
    (case tRh => first | k_is | kernel_rfl)
    (case tRn => first | k_is | kernel_rfl)
    (case tAa => k_is)
    (case tAl => k_is)
    (case tAlc => k_is)
    (case tAhv => exact rfl)
    (case tAcd => first | k_is | kernel_rfl)
    (case tAk => first | k_is | kernel_rfl)
    (case tAh => first | k_is | kernel_rfl)
    (case tAn => first | k_is | kernel_rfl)
    (case tLa => k_is)
    (case tLl => k_is)
    (case tLlc => k_is)
    (case tLhv => exact rfl)
    (case tLcd => first | k_is | kernel_rfl)
    (case tLk => first | k_is | kernel_rfl)
    (case tLh => first | k_is | kernel_rfl)
    (case tLn => first | k_is | kernel_rfl)
    (case mR => decide)
    (case mA => decide)
    (case mL => decide)
    (case n1 => decide)
    (case n2 => decide)
    (case n3 => decide)
    (case z_len => k_is)
    (case z_zip => k_is)
    (case z_enumerate => k_is)
    (case z_range => k_is)
    (case z_tuple => k_is)
    (case z_list => k_is)
    (case z_dict => k_is)
    (case z_max => k_is)
    (case z_min => k_is)
    (case z_int => k_is)
    (case z_all => k_is)
    (case z_sum => k_is)
    (case z_sorted => k_is)
    (case z_isinstance => k_is)
    (case z_abs => k_is)
    (case z_set => k_is)
    (case z_str => k_is)
    (case z_bool => k_is)
    (case Wpg => k_is)
    (case Whd => k_is)
    (case Wpo => k_is)
    (case Wsa => k_is)
    (case W_books => unfold L2.NoAttr; k_is)
    (case W_lengths => unfold L2.NoAttr; k_is)
    (case W_fed => unfold L2.NoAttr; k_is)
    (case W_moves => unfold L2.NoAttr; k_is)
    (case W_ranks => unfold L2.NoAttr; k_is)
    (case Spg => k_is)
    (case Shd => k_is)
    (case Spo => k_is)
    (case Ssa => k_is)
    (case S_knob => unfold L2.NoAttr; k_is)
    (case S_value => unfold L2.NoAttr; k_is)
    (case S_wont => unfold L2.NoAttr; k_is)
    (case S_stand => unfold L2.NoAttr; k_is)
    (case S_slopes => unfold L2.NoAttr; k_is)
    (case S_more => unfold L2.NoAttr; k_is)
    (case S_high => unfold L2.NoAttr; k_is)
    (case c1 => k_is)
    (case c2 => k_is)
    (case c3 => k_is)
    (case c4 => k_is)
    (case c5 => k_is)
    (case em1 => k_is)
    (case em2 => k_is)
    (case em3 => first | k_is | kernel_rfl)
    (case em4 => k_is)
    (case em5 => k_is)
    (case es1 => k_is)
    (case es2 => k_is)
    (case es3 => first | k_is | kernel_rfl)
    (case es4 => k_is)
    (case es5 => k_is)
    (case eb1 => k_is)
    (case eb2 => k_is)
    (case eb3 => first | k_is | kernel_rfl)
    (case eb4 => k_is)
    (case eb5 => k_is)
    (case ek1 => k_is)
    (case ek2 => k_is)
    (case ek3 => first | k_is | kernel_rfl)
    (case ek4 => k_is)
    (case ek5 => k_is)
    (case eo1 => k_is)
    (case eo2 => k_is)
    (case eo3 => first | k_is | kernel_rfl)
    (case eo4 => k_is)
    (case eo5 => k_is)
    (case ew => k_is)
    (case qmm => first | k_is | kernel_rfl)
    (case qsm => first | k_is | kernel_rfl)
    (case qss => first | k_is | kernel_rfl)
    (case qbm => first | k_is | kernel_rfl)
    (case qbs => first | k_is | kernel_rfl)
    (case qbb => first | k_is | kernel_rfl)
    (case qkm => first | k_is | kernel_rfl)
    (case qks => first | k_is | kernel_rfl)
    (case qkb => first | k_is | kernel_rfl)
    (case qkk => first | k_is | kernel_rfl)
    (case qom => first | k_is | kernel_rfl)
    (case qos => first | k_is | kernel_rfl)
    (case qob => first | k_is | kernel_rfl)
    (case qok => first | k_is | kernel_rfl)
    (case qoo => first | k_is | kernel_rfl)
    (case wa => k_is)
    (case wl => k_is)
    (case wlit => exact ⟨⟨_, _, rfl, rfl⟩, ⟨_, _, rfl, rfl⟩, ⟨_, _, rfl, rfl⟩, ⟨_, _, rfl, rfl⟩, trivial⟩)
    (case wlow => decide)
    (case wd1 => k_is)
    (case wd2 => k_is)
    (case wd3 => k_is)
    (case wd4 => k_is)
    (case g__law_said_a => k_is)
    (case g__law_said_l => k_is)
    (case g__law_said_c => k_is)
    (case g__law_said_k => k_is)
    (case g_summed_a => k_is)
    (case g_summed_l => k_is)
    (case g_summed_c => k_is)
    (case g_summed_k => k_is)
    (case g_put_in_a => k_is)
    (case g_put_in_l => k_is)
    (case g_put_in_c => k_is)
    (case g_put_in_k => k_is)
    (case g_Wsizes_a => k_is)
    (case g_Wsizes_i => k_is)
    (case g_Wsizes_l => k_is)
    (case g_Wsizes_c => k_is)
    (case g_Wsizes_k => k_is)
    (case g_Worder_a => k_is)
    (case g_Worder_i => k_is)
    (case g_Worder_l => k_is)
    (case g_Worder_c => k_is)
    (case g_Worder_k => k_is)
    (case g_Wis_ahead_a => k_is)
    (case g_Wis_ahead_i => k_is)
    (case g_Wis_ahead_l => k_is)
    (case g_Wis_ahead_c => k_is)
    (case g_Wis_ahead_k => k_is)
    (case g_strongest_a => k_is)
    (case g_strongest_l => k_is)
    (case g_strongest_c => k_is)
    (case g_strongest_k => k_is)
    (case g_joint_of_a => k_is)
    (case g_joint_of_l => k_is)
    (case g_joint_of_c => k_is)
    (case g_joint_of_k => k_is)
    (case g_nothing_a => k_is)
    (case g_nothing_l => k_is)
    (case g_nothing_c => k_is)
    (case g_nothing_k => k_is)
    (case g_moved_a => k_is)
    (case g_moved_l => k_is)
    (case g_moved_c => k_is)
    (case g_moved_k => k_is)
    (case g_Wadds_to_a => k_is)
    (case g_Wadds_to_i => k_is)
    (case g_Wadds_to_l => k_is)
    (case g_Wadds_to_c => k_is)
    (case g_Wadds_to_k => k_is)
    (case g_Wall_moves_a => k_is)
    (case g_Wall_moves_i => k_is)
    (case g_Wall_moves_l => k_is)
    (case g_Wall_moves_c => k_is)
    (case g_Wall_moves_k => k_is)
    (case g_Wtold_a => k_is)
    (case g_Wtold_i => k_is)
    (case g_Wtold_l => k_is)
    (case g_Wtold_c => k_is)
    (case g_Wtold_k => k_is)
    (case g_is_whole_a => k_is)
    (case g_is_whole_l => k_is)
    (case g_is_whole_c => k_is)
    (case g_is_whole_k => k_is)
    (case g_is_from_a => k_is)
    (case g_is_from_l => k_is)
    (case g_is_from_c => k_is)
    (case g_is_from_k => k_is)
    (case g_is_amount_a => k_is)
    (case g_is_amount_l => k_is)
    (case g_is_amount_c => k_is)
    (case g_is_amount_k => k_is)
    (case g_are_amounts_a => k_is)
    (case g_are_amounts_l => k_is)
    (case g_are_amounts_c => k_is)
    (case g_are_amounts_k => k_is)
    (case g_is_list_a => k_is)
    (case g_is_list_l => k_is)
    (case g_is_list_c => k_is)
    (case g_is_list_k => k_is)
    (case g_is_book_a => k_is)
    (case g_is_book_l => k_is)
    (case g_is_book_c => k_is)
    (case g_is_book_k => k_is)
    (case g_is_feed_a => k_is)
    (case g_is_feed_l => k_is)
    (case g_is_feed_c => k_is)
    (case g_is_feed_k => k_is)
    (case g_feeds_by_choices_a => k_is)
    (case g_feeds_by_choices_l => k_is)
    (case g_feeds_by_choices_c => k_is)
    (case g_feeds_by_choices_k => k_is)
    (case g_nearest_in_a => k_is)
    (case g_nearest_in_l => k_is)
    (case g_nearest_in_c => k_is)
    (case g_nearest_in_k => k_is)
    (case g_is_choice_a => k_is)
    (case g_is_choice_l => k_is)
    (case g_is_choice_c => k_is)
    (case g_is_choice_k => k_is)
    (case g_value_of_a => k_is)
    (case g_value_of_l => k_is)
    (case g_value_of_c => k_is)
    (case g_value_of_k => k_is)
    (case g_slopes_of_a => k_is)
    (case g_slopes_of_l => k_is)
    (case g_slopes_of_c => k_is)
    (case g_slopes_of_k => k_is)
    (case g_is_knob_a => k_is)
    (case g_is_knob_l => k_is)
    (case g_is_knob_c => k_is)
    (case g_is_knob_k => k_is)
    (case g_turned_to_a => k_is)
    (case g_turned_to_l => k_is)
    (case g_turned_to_c => k_is)
    (case g_turned_to_k => k_is)
    (case g_Snarrow_a => k_is)
    (case g_Snarrow_i => k_is)
    (case g_Snarrow_l => k_is)
    (case g_Snarrow_c => k_is)
    (case g_Snarrow_k => k_is)
    (case g_Sbeat_a => k_is)
    (case g_Sbeat_i => k_is)
    (case g_Sbeat_l => k_is)
    (case g_Sbeat_c => k_is)
    (case g_Sbeat_k => k_is)
    (case g_Spiece_a => k_is)
    (case g_Spiece_i => k_is)
    (case g_Spiece_l => k_is)
    (case g_Spiece_c => k_is)
    (case g_Spiece_k => k_is)
    (case g_is_stand_a => k_is)
    (case g_is_stand_l => k_is)
    (case g_is_stand_c => k_is)
    (case g_is_stand_k => k_is)
    (case g_want_stand_a => k_is)
    (case g_want_stand_l => k_is)
    (case g_want_stand_c => k_is)
    (case g_want_stand_k => k_is)
    (case g_want_beats_a => k_is)
    (case g_want_beats_l => k_is)
    (case g_want_beats_c => k_is)
    (case g_want_beats_k => k_is)
    (case g_want_knob_a => k_is)
    (case g_want_knob_l => k_is)
    (case g_want_knob_c => k_is)
    (case g_want_knob_k => k_is)
    (case g_pieces_of_a => k_is)
    (case g_pieces_of_l => k_is)
    (case g_pieces_of_c => k_is)
    (case g_pieces_of_k => k_is)
    (case g__law_put_a => k_is)
    (case g__law_put_l => k_is)
    (case g__law_put_c => k_is)
    (case g__law_put_k => k_is)
    (case g__law_joint_a => k_is)
    (case g__law_joint_l => k_is)
    (case g__law_joint_c => k_is)
    (case g__law_joint_k => k_is)
    (case g__law_nearest_a => k_is)
    (case g__law_nearest_l => k_is)
    (case g__law_nearest_c => k_is)
    (case g__law_nearest_k => k_is)
    (case g__law_own_a => k_is)
    (case g__law_own_l => k_is)
    (case g__law_own_c => k_is)
    (case g__law_own_k => k_is)
    (case g__law_turned_a => k_is)
    (case g__law_turned_l => k_is)
    (case g__law_turned_c => k_is)
    (case g__law_turned_k => k_is)
    (case g__law_moves_a => k_is)
    (case g__law_moves_l => k_is)
    (case g__law_moves_c => k_is)
    (case g__law_moves_k => k_is)
    (case g__law_behind_a => k_is)
    (case g__law_behind_l => k_is)
    (case g__law_behind_c => k_is)
    (case g__law_behind_k => k_is)
    (case g__law_gone_a => k_is)
    (case g__law_gone_l => k_is)
    (case g__law_gone_c => k_is)
    (case g__law_gone_k => k_is)
    (case g__law_row_by_a => k_is)
    (case g__law_row_by_l => k_is)
    (case g__law_row_by_c => k_is)
    (case g__law_row_by_k => k_is)
    (case g__law_slopes_a => k_is)
    (case g__law_slopes_l => k_is)
    (case g__law_slopes_c => k_is)
    (case g__law_slopes_k => k_is)
    (case g__law_piece_a => k_is)
    (case g__law_piece_l => k_is)
    (case g__law_piece_c => k_is)
    (case g__law_piece_k => k_is)
    (case g__law_all_a => k_is)
    (case g__law_all_l => k_is)
    (case g__law_all_c => k_is)
    (case g__law_all_k => k_is)
    (case g__law_due_a => k_is)
    (case g__law_due_l => k_is)
    (case g__law_due_c => k_is)
    (case g__law_due_k => k_is)
    (case g__law_well_a => k_is)
    (case g__law_well_l => k_is)
    (case g__law_well_c => k_is)
    (case g__law_well_k => k_is)
    (case g__law_draw_a => k_is)
    (case g__law_draw_l => k_is)
    (case g__law_draw_c => k_is)
    (case g__law_draw_k => k_is)
    (case g__law_one_a => k_is)
    (case g__law_one_l => k_is)
    (case g__law_one_c => k_is)
    (case g__law_one_k => k_is)
    (case g__law_order_a => k_is)
    (case g__law_order_l => k_is)
    (case g__law_order_c => k_is)
    (case g__law_order_k => k_is)
    (case g__law_numbers_a => k_is)
    (case g__law_numbers_l => k_is)
    (case g__law_numbers_c => k_is)
    (case g__law_numbers_k => k_is)
    (case g__law_stand_a => k_is)
    (case g__law_stand_l => k_is)
    (case g__law_stand_c => k_is)
    (case g__law_stand_k => k_is)
    (case g__law_knob_a => k_is)
    (case g__law_knob_l => k_is)
    (case g__law_knob_c => k_is)
    (case g__law_knob_k => k_is)
    (case g__law_told_a => k_is)
    (case g__law_told_l => k_is)
    (case g__law_told_c => k_is)
    (case g__law_told_k => k_is)
    (case iWa => k_is)
    (case iWi => k_is)
    (case iWm => k_is)
    (case iWk => k_is)
    (case iWl => k_is)
    (case iWl2 => k_is)
    (case iWc => k_is)
    (case iWk2 => k_is)
    (case iSa => k_is)
    (case iSi => k_is)
    (case iSm => k_is)
    (case iSk => k_is)
    (case iSl => k_is)
    (case iSc => k_is)
    (case iSk2 => k_is)
    (case nta => k_is)
    (case ntl => k_is)
    (case ntd => k_is)
    (case ntc => k_is)
    (case ntk => k_is)

