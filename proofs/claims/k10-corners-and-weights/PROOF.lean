import PyProof.Rows.All
import Wide.All
import OpenK.AllK
import Wide.FinOn
import HandS.ForMost
import HandS.Exc
import HandS.ExcOwn
import HandS.WordsExc
import HandS.IsInst
import HandS.Defaults
import HandS.Walk
import HandS.ExcInit
import HandS.ExcField
import HandS.ClsMeth
import HandS.TryMany
import HandS.Lambda
import HandS.EndTab
import HandS.Sort
import HandS.TryOnly
import HandS.Iter
import HandS.Zip
import HandS.Wide
import HandS.Style
import HandS.Conv
import HandS.Comp
import KE.GoesMore
import KE.GoesZip
import HandS.WideBits
import PySem.Challenge.RW_weaklook_k10_corners_and_weights
set_option Elab.async false
set_option synthInstance.maxSize 4000
set_option synthInstance.maxHeartbeats 0
set_option linter.all false
set_option maxRecDepth 100000
set_option maxHeartbeats 4000000

set_option Elab.async false
set_option linter.all false
set_option maxRecDepth 100000
set_option maxHeartbeats 4000000
/-! WKit: what the proofs of all laws of this program share. -/
namespace Wk
open PySem PySem.Spec PyProof.Rows L2

/-! ### heaps -/
theorem same_new {H : Hp} {p : Addr} {o : HO} (h : H p = none) : Same H (upd H p o) := fun b x e => by
  rw [upd_ne (ne_of_none e h)]
  exact e
theorem same_mut {H H' : Hp} {p : Addr} {o : HO} (e : Same H H') (h : H p = none) : Same H (upd H' p o) := fun a u ha => by
  rw [upd_ne (ne_of_none ha h)]
  exact e a u ha
theorem same_t {K : PySem.W.Frag} {H H' : Hp} {a : Addr} {xs : List V} (e : Same H H') (h : SqT K H a xs) : SqT K H' a xs := by
  rcases h with (h | ⟨o, h⟩) | h
  · exact .inl (.inl (e _ _ h))
  · exact .inl (.inr ⟨o, e _ _ h⟩)
  · exact .inr h
/-- a list or a tuple -/
def Sq (K : PySem.W.Frag) (H : Hp) (a : Addr) (xs : List V) : Prop := SqL K H a xs ∨ SqT K H a xs
theorem Sq.mono {K : PySem.W.Frag} {H H' : Hp} {a : Addr} {xs : List V} (h : Sq K H a xs) (e : Same H H') : Sq K H' a xs := h.imp (fun z => e.seq z) (fun z => same_t e z)
theorem sqL {K : PySem.W.Frag} {H : Hp} {a : Addr} {xs : List V} (h : H a = some (.lst xs)) : Sq K H a xs := .inl (.inl (.inl h))
theorem sqT {K : PySem.W.Frag} {H : Hp} {a : Addr} {xs : List V} (h : H a = some (.tup xs)) : Sq K H a xs := .inr (.inl (.inl h))
mutual
theorem Dp.mono {K : PySem.W.Frag} {H H' : Hp} (e : Same H H') : ∀ {v : V} {d : PyData}, Dp K H v d → Dp K H' v d
  | _, _, .non => .non
  | _, _, .bl b => .bl b
  | _, _, .int i => .int i
  | _, _, .str x => .str x
  | _, _, .lst h a => .lst (e.seq h) (DpAll.mono e a)
  | _, _, .tup h a => .tup (same_t e h) (DpAll.mono e a)
theorem DpAll.mono {K : PySem.W.Frag} {H H' : Hp} (e : Same H H') : ∀ {vs : List V} {ds : List PyData}, DpAll K H vs ds → DpAll K H' vs ds
  | _, _, .nil => .nil
  | _, _, .cons h r => .cons (Dp.mono e h) (DpAll.mono e r)
end
theorem DpAll.len {K : PySem.W.Frag} {H : Hp} : ∀ {vs : List V} {ds : List PyData}, DpAll K H vs ds → vs.length = ds.length
  | _, _, .nil => rfl
  | _, _, .cons _ r => congrArg (· + 1) (DpAll.len r)
theorem DpAll.get {K : PySem.W.Frag} {H : Hp} : ∀ {vs : List V} {ds : List PyData} {i : Nat} {v : V}, DpAll K H vs ds → vs[i]? = some v → ∃ d, ds[i]? = some d ∧ Dp K H v d
  | _, _, _, _, .nil, e => by simp at e
  | _, _, 0, _, .cons h _, e => by simp at e; subst e; exact ⟨_, rfl, h⟩
  | _, _, i + 1, v, .cons _ r, e => by
    obtain ⟨d, h1, h2⟩ := DpAll.get (i := i) (v := v) r (by simpa using e)
    exact ⟨d, by simpa using h1, h2⟩
theorem dpInts {K : PySem.W.Frag} {H : Hp} : ∀ (ns : List Int), DpAll K H (ns.map V.int) (ns.map PyData.int)
  | [] => .nil
  | n :: ns => .cons (.int n) (dpInts ns)
/-- lists and tuples of ints as data -/
abbrev LI (ns : List Int) : PyData := .list (ns.map PyData.int)
abbrev TuI (ns : List Int) : PyData := .tuple (ns.map PyData.int)
theorem dpInts_inv {K : PySem.W.Frag} {H : Hp} : ∀ {ns : List Int} {vs : List V}, DpAll K H vs (ns.map PyData.int) → vs = ns.map V.int
  | [], _, .nil => rfl
  | n :: ns, _, .cons h r => by
    cases h
    rw [dpInts_inv (ns := ns) r]
    rfl

/-! ### the draw: a list of the law's own, hidden -/
def LstAt (h : Heap) (a : Addr) (xs : List V) : Prop := ∃ (its : List Value) (n : Nat), Vals xs its ∧ h.get? a = some { cls := .type "list", data := .seq its.toArray n }
def DrawR (i g r c : Int) : Prop := 0 ≤ i ∧ 0 ≤ g ∧ 0 ≤ r ∧ r < 1000000007 ∧ 0 ≤ c
def drawL (cl : Addr) (i g r c : Int) : List V := [.ref cl, .int i, .int g, .int r, .int c]
def DrawO (dr cl : Addr) : HO := .ext fun h => ∃ i g r c : Int, DrawR i g r c ∧ LstAt h dr (drawL cl i g r c)
/-- a draw stands at dr -/
def Drw (H : Hp) (dr : Addr) : Prop := ∃ (cl : Addr) (ns : List Int), H dr = some (DrawO dr cl) ∧ H cl = some (.lst (ns.map V.int))
theorem Drw.mono {H H' : Hp} {dr : Addr} (h : Drw H dr) (e : Same H H') : Drw H' dr := by
  obtain ⟨cl, ns, h1, h2⟩ := h
  exact ⟨cl, ns, e _ _ h1, e _ _ h2⟩
theorem drawO_ok {P : Program} {w : World} {H : Hp} {h : Heap} {dr cl : Addr} {i g r c : Int} (hr : DrawR i g r c) (hl : LstAt h dr (drawL cl i g r c)) : ObjOk P w H h dr (DrawO dr cl) := by
  refine ⟨⟨i, g, r, c, hr, hl⟩, ?_, fun h1 h2 ⟨i, g, r, c, hr, its, n, rv, e⟩ st => ⟨i, g, r, c, hr, its, n, rv, st _ e⟩⟩
  obtain ⟨its, n, rv, e⟩ := hl
  exact ⟨_, e⟩
theorem drawO_at {P : Program} {w : World} {H : Hp} {h : Heap} {dr cl : Addr} (hok : HOk P w H h) (e : H dr = some (DrawO dr cl)) : ∃ i g r c : Int, DrawR i g r c ∧ LstAt h dr (drawL cl i g r c) := by
  have x : ObjOk P w H h dr (.ext fun h => ∃ i g r c : Int, DrawR i g r c ∧ LstAt h dr (drawL cl i g r c)) := hok dr _ e
  exact x.1
theorem drawO_ne {dr cl : Addr} {o : HO} (h : ∀ φ, o ≠ .ext φ) : DrawO dr cl ≠ o := fun z => h _ z.symm
/-- the view of one tracked object is changed -/
theorem recast {P : Program} {w : World} {H : Hp} {h : Heap} {a : Addr} {o o' : HO} (hok : HOk P w H h) (e : H a = some o) (h1 : ∀ x, o ≠ .own x) (h2 : ∀ xs, o ≠ .tup xs) (new : ObjOk P w (upd H a o') h a o') : HOk P w (upd H a o') h := fun b u q => by
  by_cases hb : b = a
  · subst hb
    rw [upd_same] at q
    cases q
    exact new
  · rw [upd_ne hb] at q
    refine (hok b u q).stay (fun c v _ r => r) (fun c r => ?_) (fun c xs r => ?_)
    · rw [upd_ne (fun z => h1 b (Option.some.inj ((z ▸ e).symm.trans r)))]
      exact r
    · rw [upd_ne (fun z => h2 xs (Option.some.inj ((z ▸ e).symm.trans r)))]
      exact r
/-- .. for a def that works on the draw as a list: told of the draw -/
theorem draw_cast {P : Program} {w : World} {K : PySem.W.Frag} {mg : Str → Option Value} {base : Heap} {CX : CXT} {k : Nat} {f : Addr} {fd : FuncData} {ps : List Str} {sp sp' : Sp} (F : FnOk P w K mg base CX k f fd ps sp) (len : ∀ vs H Q E, sp' vs H Q E → vs.length = ps.length)
    (hx : ∀ outer H H1 s E e s', CX outer H1 s (fun _ _ _ => False) e s' → CX outer H s E e s')
    (h : ∀ vs H Q E, sp' vs H Q E → ∃ dr cl, H dr = some (DrawO dr cl) ∧ ∀ i g r c, DrawR i g r c →
      sp vs (upd H dr (.lst (drawL cl i g r c))) (fun v H' => ∃ i g r c, DrawR i g r c ∧ H' dr = some (.lst (drawL cl i g r c)) ∧ Q v (upd H' dr (DrawO dr cl))) (fun _ _ _ => False)) : FnOk P w K mg base CX k f fd ps sp' := by
  refine ⟨len, fun A outer s H args us vs Q E hr he hb hv hs => ?_⟩
  obtain ⟨dr, cl, e, go⟩ := h vs H Q E hs
  obtain ⟨i, g, r, c, hR, hL⟩ := drawO_at he.hok e
  have nf : ∀ b, H b = none → b ≠ dr := fun b n z => by
    rw [z, e] at n
    cases n
  have e1 : HOk P w (upd H dr (.lst (drawL cl i g r c))) s.heap := recast he.hok e (fun x z => by unfold DrawO at z; cases z) (fun x z => by unfold DrawO at z; cases z) ⟨by show 5 ≤ sizeLine; decide, hL⟩
  have he1 : Env0 P w K mg base A outer s (upd H dr (.lst (drawL cl i g r c))) :=
    ⟨he.frames, he.mod, fun b o q => ⟨(he.bs b o q).1, by rw [upd_ne (nf b (he.bs b o q).2)]; exact (he.bs b o q).2⟩, he.bsz, he.funs, fun b q => by rw [upd_ne (nf b (he.frf b q))]; exact he.frf b q, e1, he.bare⟩
  refine codeAny_mono (F.run A outer s _ args us vs _ _ hr he1 hb hv (go i g r c hR)) fun rr s' hq => ?_
  cases rr with
  | error er => exact hx outer H _ s E er s' hq
  | ok fl =>
    cases fl with
    | next => exact hq
    | brk => exact hq
    | cont => exact hq
    | ret u =>
      obtain ⟨v, H', os, bare, un, hok, rv, i2, g2, r2, c2, hR2, e2, q⟩ := hq
      have eA : ∀ b o, H b = some o → (∀ φ, o ≠ .ext φ) → b ≠ dr := fun b o q z y => by
        rw [y, e] at q
        exact z _ (Option.some.inj q).symm
      refine ⟨v, upd H' dr (DrawO dr cl), os, bare, ⟨fun b o q n hb hx => un.keep b o q (by rw [upd_ne (nf b n)]; exact n) hb hx, fun b o q n hb hx => un.slot b o q (by rw [upd_ne (nf b n)]; exact n) hb hx,
        fun b o q n hx => by rw [upd_ne (nf b n)]; exact un.free b o q (by rw [upd_ne (nf b n)]; exact n) hx, un.there, fun b xs q => ?_, fun b o u q => ?_, fun b ps q => ?_⟩, ?_, rv, q⟩
      · have hb := eA b _ q (fun φ z => by cases z)
        rw [upd_ne hb]
        exact un.tups b xs (by rw [upd_ne hb]; exact q)
      · have hb := eA b _ q (fun φ z => by cases z)
        rw [upd_ne hb]
        exact un.frzs b o u (by rw [upd_ne hb]; exact q)
      · have hb := eA b _ q (fun φ z => by cases z)
        rw [upd_ne hb]
        exact un.tbls b ps (by rw [upd_ne hb]; exact q)
      · refine recast hok e2 (fun x z => by cases z) (fun x z => by cases z) (drawO_ok hR2 ?_)
        exact (show ObjOk P w H' s'.heap dr (.lst (drawL cl i2 g2 r2 c2)) from hok dr _ e2).2
/-- .. for the def that makes the draw -/
theorem draw_made {P : Program} {w : World} {K : PySem.W.Frag} {mg : Str → Option Value} {base : Heap} {CX : CXT} {k : Nat} {f : Addr} {fd : FuncData} {ps : List Str} {sp sp' : Sp} (F : FnOk P w K mg base CX k f fd ps sp) (len : ∀ vs H Q E, sp' vs H Q E → vs.length = ps.length)
    (h : ∀ vs H Q E, sp' vs H Q E → sp vs H (fun v H' => ∃ dr cl i g r c, v = .ref dr ∧ H dr = none ∧ DrawR i g r c ∧ H' dr = some (.lst (drawL cl i g r c)) ∧ Q v (upd H' dr (DrawO dr cl))) E) : FnOk P w K mg base CX k f fd ps sp' := by
  refine ⟨len, fun A outer s H args us vs Q E hr he hb hv hs => ?_⟩
  refine codeAny_mono (F.run A outer s H args us vs _ _ hr he hb hv (h vs H Q E hs)) fun rr s' hq => ?_
  cases rr with
  | error er => exact hq
  | ok fl =>
    cases fl with
    | next => exact hq
    | brk => exact hq
    | cont => exact hq
    | ret u =>
      obtain ⟨v, H', os, bare, un, hok, rv, dr, cl, i2, g2, r2, c2, ev, n0, hR2, e2, q⟩ := hq
      have nf : ∀ b o, s.heap.get? b = some o → H b = none → b ≠ dr := fun b o q n z => by
        have y := un.free b o q n (by simp)
        rw [z, e2] at y
        cases y
      have nd : ∀ b o, H b = some o → b ≠ dr := fun b o q => ne_of_none q n0
      refine ⟨v, upd H' dr (DrawO dr cl), os, bare, ⟨un.keep, un.slot, fun b o q n hx => by rw [upd_ne (nf b o q n)]; exact un.free b o q n hx, un.there, fun b xs q => ?_, fun b o u q => ?_, fun b ps q => ?_⟩, ?_, rv, q⟩
      · rw [upd_ne (nd b _ q)]
        exact un.tups b xs q
      · rw [upd_ne (nd b _ q)]
        exact un.frzs b o u q
      · rw [upd_ne (nd b _ q)]
        exact un.tbls b ps q
      · refine recast hok e2 (fun x z => by cases z) (fun x z => by cases z) (drawO_ok hR2 ?_)
        exact (show ObjOk P w H' s'.heap dr (.lst (drawL cl i2 g2 r2 c2)) from hok dr _ e2).2

/-! ### what the top has left, by name -/
structure FnE (K : PySem.W.Frag) (mg : Str → Option Value) (x : Str) (st : Stmt) (ps : List Str) where
  a : Addr
  fd : FuncData
  F : Fun K x x st a fd
  b : Binds K fd ps []
  g : mg x = some (.ref a)
theorem cx_false {P : Program} {w : World} {outer : List Env} {H H1 : Hp} {s : Shared} {E : XK} {e : Value} {s' : Shared} (h : L2.CX P w outer H1 s (fun _ _ _ => False) e s') : L2.CX P w outer H s E e s' := by
  obtain ⟨_, _, _, _, _, _, _, _, _, _, _, _, z⟩ := h
  exact z.elim

/-! ### rules of the layer in another form -/
section
variable {X : Cx} {tg : Expr}
/-- over a list or a tuple -/
def rSeq (K : PySem.W.Frag) (x : V) (H : Hp) (R : It → Hp → Prop) : Prop := ∃ a, x = .ref a ∧ (((∃ xs, SqL K H a xs) ∧ R (Itl K a) H) ∨ ((∃ xs, SqT K H a xs) ∧ R (Itt K a) H))
def iSeq (K : PySem.W.Frag) (tl : TE) : TI := fun σ H R => tl σ H fun x H1 => rSeq K x H1 R
theorem pi_seq {l : Expr} {tl : TE} (hl : PE X l tl) : PI X tg l (iSeq X.K tl) := by
  refine ⟨fun pins s σ H R I h => ?_⟩
  refine thn (hl.run pins s σ H _ I h) fun v s1 ⟨x, H1, I1, r1, q1⟩ => ?_
  obtain ⟨a, e, q1⟩ := q1
  subst e
  cases r1
  rcases q1 with ⟨⟨xs, hq⟩, q⟩ | ⟨⟨xs, hq⟩, q⟩
  · obtain ⟨its, rv, p, hz⟩ := I1.list hq
    refine wpAny_pyIter_list p.isList ?_
    refine ⟨s1.heap.objs.size, [s1.heap.objs.size], _, _, H1, rfl, I1.kept (t' := s1.toks) fun b o e => Heap.get?_push_of_some _ e, turn_list a _, ⟨_, Heap.get?_push_size _ rfl, rfl, rfl⟩, fun b hb => ?_, q⟩
    have e : b = s1.heap.objs.size := by simpa using hb
    subst e
    exact I1.fpOk (Nat.le_refl _) (I1.hok.fresh (Nat.le_refl _))
  · obtain ⟨its, rv, p, hz⟩ := I1.tuple hq
    refine wpAny_pyIter_tuple (show s1.heap.IsTuple a its.toArray from p) ?_
    refine ⟨s1.heap.objs.size, [s1.heap.objs.size], _, _, H1, rfl, I1.kept (t' := s1.toks) fun b o e => Heap.get?_push_of_some _ e, turn_tuple a _, ⟨_, Heap.get?_push_size _ rfl, rfl, rfl⟩, fun b hb => ?_, q⟩
    have e : b = s1.heap.objs.size := by simpa using hb
    subst e
    exact I1.fpOk (Nat.le_refl _) (I1.hok.fresh (Nat.le_refl _))
/-- x[i], x a list or a tuple -/
def rIxQ (K : PySem.W.Frag) : R2 := fun x y H Q => ∃ p i xs v, x = .ref p ∧ y = .int i ∧ Sq K H p xs ∧ atI xs i = some v ∧ Q v H
theorem ix_Q : IxR X (rIxQ X.K) := fun vl sl pins s σ H x y v u Q I rx ry h => by
  obtain ⟨p, i, xs, z, rfl, rfl, e | e, a, q⟩ := h
  · exact ix_list vl sl pins s σ H _ _ v u Q I rx ry ⟨p, xs, i, z, rfl, rfl, e, a, q⟩
  · exact ix_tup vl sl pins s σ H _ _ v u Q I rx ry ⟨p, xs, i, z, rfl, rfl, e, a, q⟩
def rLenQ (K : PySem.W.Frag) : List V → Hp → VK → Prop := fun xs H Q => ∃ p ys, xs = [.ref p] ∧ Sq K H p ys ∧ Q (.int ys.length) H
theorem call_lenQ : CallR X (.builtin "len") (rLenQ X.K) := fun pins s σ H xs us Q I r h => by
  obtain ⟨p, ys, rfl, e, q⟩ := h
  exact call_len_seq pins s σ H _ us Q I r ⟨p, ys, rfl, e, q⟩
def rListQ (K : PySem.W.Frag) : List V → Hp → VK → Prop := fun xs H Q => ∃ p ys, xs = [.ref p] ∧ Sq K H p ys ∧ ∀ l, H l = none → Q (.ref l) (upd H l (.lst ys))
theorem call_listQ : CallR X (.type "list") (rListQ X.K) := fun pins s σ H xs us Q I r h => by
  obtain ⟨p, ys, rfl, e, q⟩ := h
  exact call_list_of pins s σ H _ us Q I r ⟨p, ys, rfl, e, q⟩
/-- tuple(x): what comes out is a tuple of the same -/
def rTupQ (K : PySem.W.Frag) : List V → Hp → VK → Prop := fun xs H Q => ∃ p ys, xs = [.ref p] ∧ Sq K H p ys ∧ ∀ l H', L2.Same H H' → SqT K H' l ys → Q (.ref l) H'
theorem call_tupQ : CallR X (.type "tuple") (rTupQ X.K) := fun pins s σ H xs us Q I r h => by
  obtain ⟨p, ys, rfl, e, q⟩ := h
  rcases e with e | e
  · exact call_tuple_of pins s σ H _ us Q I r ⟨p, ys, rfl, .inl ⟨e, fun l hl => q l _ (same_new hl) (.inl (.inl upd_same))⟩⟩
  · exact call_tuple_of pins s σ H _ us Q I r ⟨p, ys, rfl, .inr ⟨e, q p H (L2.Same.refl H) e⟩⟩
def rInQ (K : PySem.W.Frag) (neg : Bool) : R2 := fun x y H Q => ∃ p xs, y = .ref p ∧ Sq K H p xs ∧ flatV x = true ∧ xs.all flatV = true ∧ Q (.bl (if neg then !inV x xs else inV x xs)) H
theorem op_inQ : OpR X (compareOp .In) (rInQ X.K false) := fun pins s σ H x y v u Q I rx ry h => by
  obtain ⟨p, xs, rfl, e, a, b, q⟩ := h
  exact op_in_seq pins s σ H _ _ v u Q I rx ry ⟨p, xs, rfl, e, a, b, q⟩
theorem op_notInQ : OpR X (compareOp .NotIn) (rInQ X.K true) := fun pins s σ H x y v u Q I rx ry h => by
  obtain ⟨p, xs, rfl, e, a, b, q⟩ := h
  exact op_notIn_seq pins s σ H _ _ v u Q I rx ry ⟨p, xs, rfl, e, a, b, q⟩
def rIsN2 : R2 := fun x y H Q => y = .non ∧ Q (.bl (decide (x = .non))) H
theorem op_isN2 : OpR X (compareOp .Is) rIsN2 := op_isN
def rNotN2 : R2 := fun x y H Q => y = .non ∧ Q (.bl (!decide (x = .non))) H
theorem op_notN2 : OpR X (compareOp .IsNot) rNotN2 := op_notN
end

/-! ### the same, the written part told -/
section
variable {X : Cx} {tg : Expr}
theorem pi_seqK (K : PySem.W.Frag) (e : X.K = K) {l : Expr} {tl : TE} (hl : PE X l tl) : PI X tg l (iSeq K tl) := by subst e; exact pi_seq hl
theorem ix_QK (K : PySem.W.Frag) (e : X.K = K) : IxR X (rIxQ K) := by subst e; exact ix_Q
theorem call_lenQK (K : PySem.W.Frag) (e : X.K = K) : CallR X (.builtin "len") (rLenQ K) := by subst e; exact call_lenQ
theorem call_listQK (K : PySem.W.Frag) (e : X.K = K) : CallR X (.type "list") (rListQ K) := by subst e; exact call_listQ
theorem call_tupQK (K : PySem.W.Frag) (e : X.K = K) : CallR X (.type "tuple") (rTupQ K) := by subst e; exact call_tupQ
theorem op_inQK (K : PySem.W.Frag) (e : X.K = K) : OpR X (compareOp .In) (rInQ K false) := by subst e; exact op_inQ
theorem op_notInQK (K : PySem.W.Frag) (e : X.K = K) : OpR X (compareOp .NotIn) (rInQ K true) := by subst e; exact op_notInQ
theorem call_isiK2 (K : PySem.W.Frag) (e : X.K = K) : CallR X (.builtin "isinstance") (rIsi K) := by subst e; exact call_isi
theorem call_isiTK (K : PySem.W.Frag) (e : X.K = K) : CallR X (.builtin "isinstance") (rIsiT K) := by subst e; exact call_isiT
theorem cr_sumK (K : PySem.W.Frag) (e : X.K = K) (hc : X.calm = true) : CallR X (.builtin "sum") (rSum K) := by subst e; exact cr_sum hc
theorem cr_allK (K : PySem.W.Frag) (e : X.K = K) (hc : X.calm = true) : CallR X (.builtin "all") (rAll K) := by subst e; exact cr_all hc
theorem cr_anyK (K : PySem.W.Frag) (e : X.K = K) (hc : X.calm = true) : CallR X (.builtin "any") (rAny K) := by subst e; exact cr_any hc
theorem pg_tupK (K : PySem.W.Frag) (e : X.K = K) {es : List Expr} {k : Nat} {t : TGs} {n : Nat} {pos : Pos} (hc : X.calm = true) (h : PGs X es t)
    (hn : (assignEach es X.env).length = n := by rfl) (hst : (assignEach es X.env).findIdx? (·.1) = none := by rfl) : PG X (.Tuple es k pos) (gTup K n t) := by subst e; exact pg_tup hc h hn hst
theorem sl_listK (K : PySem.W.Frag) (e : X.K = K) : SlR X (rSlL K) := by subst e; exact sl_list
end
def primesL : List Int := [3, 5, 7, 11, 13, 17, 19, 23, 29, 31, 37, 41, 43, 47, 53, 59, 61]

theorem primes_pos {p : Int} (h : p ∈ primesL) : 0 < p := by
  unfold primesL at h
  simp only [List.mem_cons, List.not_mem_nil, or_false] at h
  omega

/-! ### constants of the top -/
section
variable {X : Cx}
theorem pe_powC {i j n : Int} {k1 k2 : Nat} {p1 p2 pos : Pos} (h : i ^ j.toNat = n) (hc : 0 ≤ j ∧ j ≤ 1000000 ∧ i.natAbs < 2 ^ 64) : PE X (.BinOp (.Constant (.int i) k1 p1) .Pow (.Constant (.int j) k2 p2) pos) (tC (.int n)) :=
  ⟨fun pins s σ H Q I q => (pe_op op_pow pe_int pe_int).run pins s σ H Q I ⟨i, j, rfl, rfl, hc, by show Q (.int (i ^ j.toNat)) H; rw [h]; exact q⟩⟩
theorem pe_globI {x : Str} {i : Int} {pos : Pos} (hg : Gl X x) (hm : ∃ t, X.mg x = some (.int i t)) (hd : (x == ("__debug__" : Str)) = false := by decide) : PE X (.Name x pos) (tC (.int i)) := by
  obtain ⟨t, hm⟩ := hm
  exact pe_glob hg hm ⟨t, rfl⟩ hd
theorem pe_globS {x z : Str} {pos : Pos} (hg : Gl X x) (hm : ∃ t, X.mg x = some (.str z t)) (hd : (x == ("__debug__" : Str)) = false := by decide) : PE X (.Name x pos) (tC (.str z)) := by
  obtain ⟨t, hm⟩ := hm
  exact pe_glob hg hm ⟨t, rfl⟩ hd
end
theorem absV_rel : ∀ {u : Value} {v : V}, absV u = some v → RelV v u
  | .none, _, h => by cases h; rfl
  | .bool _, _, h => by cases h; rfl
  | .int _ t, _, h => by cases h; exact ⟨t, rfl⟩
  | .str _ t, _, h => by cases h; exact ⟨t, rfl⟩
  | .bytes _ t, _, h => by cases h; exact ⟨t, rfl⟩
  | .float _ t, _, h => by cases h; exact ⟨t, rfl⟩
  | .ref _, _, h => by cases h; rfl
  | .type _, _, h => by cases h; rfl
def absL : List Value → Option (List V)
  | [] => some []
  | u :: us => (absV u).bind fun v => (absL us).map fun vs => v :: vs
theorem absL_vals : ∀ {us : List Value} {vs : List V}, absL us = some vs → Vals vs us
  | [], vs, h => by
    cases h
    exact .nil
  | u :: us, vs, h => by
    unfold absL at h
    cases e : absV u with
    | none => rw [e] at h; cases h
    | some v =>
      rw [e] at h
      cases e2 : absL us with
      | none => rw [e2] at h; cases h
      | some ws =>
        rw [e2] at h
        cases h
        exact .cons (absV_rel e) (absL_vals e2)
theorem sqT_K {K : PySem.W.Frag} {H : Hp} {a : Addr} {o : Obj} {it : Array Value} {n : Nat} {xs : List V} (hl : K.lookup a = some o) (hc : o.cls = .type "tuple") (hd : o.data = .seq it n) (hv : absL it.toList = some xs) (hz : xs.length ≤ 100000) : SqT K H a xs := by
  refine .inr ⟨o, it, n, hl, hc, hd, ?_, absL_vals hv⟩
  have e : xs.length = it.toList.length := (absL_vals hv).length
  have e2 : it.toList.length = it.size := Array.length_toList
  exact Nat.le_trans (by omega : it.size ≤ 100000) (by decide)
theorem cx_no {P : Program} {w : World} {outer : List Env} {H : Hp} {s : Shared} {e : Value} {s' : Shared} (h : L2.CX P w outer H s (fun _ _ _ => False) e s') : False := by
  obtain ⟨_, _, _, _, _, _, _, _, _, _, _, _, z⟩ := h
  exact z.elim

/-! ### data of the laws: no dicts, a depth -/
def okD : Nat → PyData → Prop
  | 0, _ => False
  | n + 1, .list ds => ds.length ≤ 100000 ∧ ∀ d ∈ ds, okD n d
  | n + 1, .tuple ds => ds.length ≤ 100000 ∧ ∀ d ∈ ds, okD n d
  | _ + 1, .dict _ => False
  | _ + 1, _ => True
theorem okD_list {n : Nat} {ds : List PyData} (h : ds.length ≤ 100000) (q : ∀ d ∈ ds, okD n d) : okD (n + 1) (.list ds) := ⟨h, q⟩
theorem okD_tuple {n : Nat} {ds : List PyData} (h : ds.length ≤ 100000) (q : ∀ d ∈ ds, okD n d) : okD (n + 1) (.tuple ds) := ⟨h, q⟩
theorem okD_nil {n : Nat} : ∀ d ∈ ([] : List PyData), okD n d := fun _ h => nomatch h
theorem okD_cons {n : Nat} {x : PyData} {xs : List PyData} (h : okD n x) (q : ∀ d ∈ xs, okD n d) : ∀ d ∈ x :: xs, okD n d := fun d hd => by
  rcases List.mem_cons.mp hd with rfl | hd
  · exact h
  · exact q d hd
def isIntV : V → Bool
  | .int _ => true
  | _ => false
theorem int_of {xs : List V} {i : Nat} {v : V} (h : xs.all isIntV = true) (e : xs[i]? = some v) : ∃ n, v = .int n ∧ V.int n ∈ xs := by
  have hm := List.mem_of_getElem? e
  have hv := List.all_eq_true.mp h v hm
  cases v with
  | int n => exact ⟨n, rfl, hm⟩
  | non => cases hv
  | bl _ => cases hv
  | str _ => cases hv
  | byt _ => cases hv
  | flt _ => cases hv
  | ref _ => cases hv
  | ty _ => cases hv
theorem okD_int {n : Nat} {i : Int} : okD (n + 1) (.int i) := True.intro
theorem okD_ints {n : Nat} {ns : List Int} (h : ns.length ≤ 100000) : okD (n + 2) (LI ns) := ⟨by rw [List.length_map]; exact h, fun d hd => by
  obtain ⟨i, _, rfl⟩ := List.mem_map.mp hd
  exact True.intro⟩
theorem okD_intsT {n : Nat} {ns : List Int} (h : ns.length ≤ 100000) : okD (n + 2) (TuI ns) := ⟨by rw [List.length_map]; exact h, fun d hd => by
  obtain ⟨i, _, rfl⟩ := List.mem_map.mp hd
  exact True.intro⟩
theorem tyL {K : PySem.W.Frag} {H : Hp} {a : Addr} {xs : List V} (h : SqL K H a xs) : TyX K H (.ref a) (.type "list") := by
  rcases h with (h | ⟨o, h⟩) | ⟨o, its, n, hk, hc, _⟩
  · exact .base (.lst h)
  · exact .base (.frz h)
  · exact .kList hk hc
theorem tyT {K : PySem.W.Frag} {H : Hp} {a : Addr} {xs : List V} (h : SqT K H a xs) : TyX K H (.ref a) (.type "tuple") := by
  rcases h with (h | ⟨o, h⟩) | ⟨o, its, n, hk, hc, _⟩
  · exact .base (.tup h)
  · exact .fTuple h
  · exact .kTuple hk hc
theorem tyX_mono {K : PySem.W.Frag} {H H' : Hp} {x : V} {t : Value} (e : L2.Same H H') (h : TyX K H x t) : TyX K H' x t := by
  cases h with
  | base b =>
    refine .base ?_
    cases b with
    | non => exact .non
    | bl y => exact .bl y
    | int y => exact .int y
    | str y => exact .str y
    | flt y => exact .flt y
    | lst z => exact .lst (e _ _ z)
    | frz z => exact .frz (e _ _ z)
    | tup z => exact .tup (e _ _ z)
    | dK z => exact .dK (e _ _ z)
    | dT z => exact .dT (e _ _ z)
    | ins z cl ha hn htk hm => exact .ins (e _ _ z) cl ha hn htk hm
  | byt b => exact .byt b
  | set z => exact .set (e _ _ z)
  | kList z c => exact .kList z c
  | kTuple z c => exact .kTuple z c
  | kDict z c => exact .kDict z c
  | fTuple z => exact .fTuple (e _ _ z)
  | fDict z => exact .fDict (e _ _ z)
theorem kt_NoneType_bool {K : PySem.W.Frag} : PySem.W.kitOne K (.type "NoneType") (.type "bool") = some false := kit_ty (by decide +kernel)
theorem kt_NoneType_int {K : PySem.W.Frag} : PySem.W.kitOne K (.type "NoneType") (.type "int") = some false := kit_ty (by decide +kernel)
theorem kt_NoneType_str {K : PySem.W.Frag} : PySem.W.kitOne K (.type "NoneType") (.type "str") = some false := kit_ty (by decide +kernel)
theorem kt_NoneType_list {K : PySem.W.Frag} : PySem.W.kitOne K (.type "NoneType") (.type "list") = some false := kit_ty (by decide +kernel)
theorem kt_NoneType_tuple {K : PySem.W.Frag} : PySem.W.kitOne K (.type "NoneType") (.type "tuple") = some false := kit_ty (by decide +kernel)
theorem kt_NoneType_is {K : PySem.W.Frag} : PySem.W.kitAny K (.type "NoneType") [.type "int", .type "str"] = some false := kitAny_cons kt_NoneType_int (fun _ => kitAny_cons kt_NoneType_str (fun _ => kitAny_nil) (fun z => z)) (fun z => z)
theorem kt_bool_bool {K : PySem.W.Frag} : PySem.W.kitOne K (.type "bool") (.type "bool") = some true := kit_ty (by decide +kernel)
theorem kt_bool_int {K : PySem.W.Frag} : PySem.W.kitOne K (.type "bool") (.type "int") = some true := kit_ty (by decide +kernel)
theorem kt_bool_str {K : PySem.W.Frag} : PySem.W.kitOne K (.type "bool") (.type "str") = some false := kit_ty (by decide +kernel)
theorem kt_bool_list {K : PySem.W.Frag} : PySem.W.kitOne K (.type "bool") (.type "list") = some false := kit_ty (by decide +kernel)
theorem kt_bool_tuple {K : PySem.W.Frag} : PySem.W.kitOne K (.type "bool") (.type "tuple") = some false := kit_ty (by decide +kernel)
theorem kt_bool_is {K : PySem.W.Frag} : PySem.W.kitAny K (.type "bool") [.type "int", .type "str"] = some true := kitAny_cons kt_bool_int (fun h => nomatch h) (fun _ => rfl)
theorem kt_int_bool {K : PySem.W.Frag} : PySem.W.kitOne K (.type "int") (.type "bool") = some false := kit_ty (by decide +kernel)
theorem kt_int_int {K : PySem.W.Frag} : PySem.W.kitOne K (.type "int") (.type "int") = some true := kit_ty (by decide +kernel)
theorem kt_int_str {K : PySem.W.Frag} : PySem.W.kitOne K (.type "int") (.type "str") = some false := kit_ty (by decide +kernel)
theorem kt_int_list {K : PySem.W.Frag} : PySem.W.kitOne K (.type "int") (.type "list") = some false := kit_ty (by decide +kernel)
theorem kt_int_tuple {K : PySem.W.Frag} : PySem.W.kitOne K (.type "int") (.type "tuple") = some false := kit_ty (by decide +kernel)
theorem kt_int_is {K : PySem.W.Frag} : PySem.W.kitAny K (.type "int") [.type "int", .type "str"] = some true := kitAny_cons kt_int_int (fun h => nomatch h) (fun _ => rfl)
theorem kt_str_bool {K : PySem.W.Frag} : PySem.W.kitOne K (.type "str") (.type "bool") = some false := kit_ty (by decide +kernel)
theorem kt_str_int {K : PySem.W.Frag} : PySem.W.kitOne K (.type "str") (.type "int") = some false := kit_ty (by decide +kernel)
theorem kt_str_str {K : PySem.W.Frag} : PySem.W.kitOne K (.type "str") (.type "str") = some true := kit_ty (by decide +kernel)
theorem kt_str_list {K : PySem.W.Frag} : PySem.W.kitOne K (.type "str") (.type "list") = some false := kit_ty (by decide +kernel)
theorem kt_str_tuple {K : PySem.W.Frag} : PySem.W.kitOne K (.type "str") (.type "tuple") = some false := kit_ty (by decide +kernel)
theorem kt_str_is {K : PySem.W.Frag} : PySem.W.kitAny K (.type "str") [.type "int", .type "str"] = some true := kitAny_cons kt_str_int (fun _ => kitAny_cons kt_str_str (fun h => nomatch h) (fun _ => rfl)) (fun z => rfl)
theorem kt_list_bool {K : PySem.W.Frag} : PySem.W.kitOne K (.type "list") (.type "bool") = some false := kit_ty (by decide +kernel)
theorem kt_list_int {K : PySem.W.Frag} : PySem.W.kitOne K (.type "list") (.type "int") = some false := kit_ty (by decide +kernel)
theorem kt_list_str {K : PySem.W.Frag} : PySem.W.kitOne K (.type "list") (.type "str") = some false := kit_ty (by decide +kernel)
theorem kt_list_list {K : PySem.W.Frag} : PySem.W.kitOne K (.type "list") (.type "list") = some true := kit_ty (by decide +kernel)
theorem kt_list_tuple {K : PySem.W.Frag} : PySem.W.kitOne K (.type "list") (.type "tuple") = some false := kit_ty (by decide +kernel)
theorem kt_list_is {K : PySem.W.Frag} : PySem.W.kitAny K (.type "list") [.type "int", .type "str"] = some false := kitAny_cons kt_list_int (fun _ => kitAny_cons kt_list_str (fun _ => kitAny_nil) (fun z => z)) (fun z => z)
theorem kt_tuple_bool {K : PySem.W.Frag} : PySem.W.kitOne K (.type "tuple") (.type "bool") = some false := kit_ty (by decide +kernel)
theorem kt_tuple_int {K : PySem.W.Frag} : PySem.W.kitOne K (.type "tuple") (.type "int") = some false := kit_ty (by decide +kernel)
theorem kt_tuple_str {K : PySem.W.Frag} : PySem.W.kitOne K (.type "tuple") (.type "str") = some false := kit_ty (by decide +kernel)
theorem kt_tuple_list {K : PySem.W.Frag} : PySem.W.kitOne K (.type "tuple") (.type "list") = some false := kit_ty (by decide +kernel)
theorem kt_tuple_tuple {K : PySem.W.Frag} : PySem.W.kitOne K (.type "tuple") (.type "tuple") = some true := kit_ty (by decide +kernel)
theorem kt_tuple_is {K : PySem.W.Frag} : PySem.W.kitAny K (.type "tuple") [.type "int", .type "str"] = some false := kitAny_cons kt_tuple_int (fun _ => kitAny_cons kt_tuple_str (fun _ => kitAny_nil) (fun z => z)) (fun z => z)
theorem atI_of {xs : List V} {i : Nat} {r : Int} {v : V} (h : xs[i]? = some v) (e : r = (i : Int)) : atI xs r = some v := by rw [e]; exact atI_nat h
theorem dp_bools {K : PySem.W.Frag} {H : Hp} {b : Bool} : ∀ {n : Nat} {ys : List V}, DpAll K H ys (List.replicate n (.bool b)) → ys = List.map V.bl (List.replicate n b)
  | 0, _, .nil => rfl
  | n + 1, _, .cons h r => by
    cases h
    rw [dp_bools (n := n) r]
    rfl
theorem all_rep (n : Nat) : (List.replicate n true).all id = true := by simp
theorem DpAll.get2 {K : PySem.W.Frag} {H : Hp} {vs : List V} {ds : List PyData} {i : Nat} {d : PyData} (h : DpAll K H vs ds) (e : ds[i]? = some d) : ∃ v, vs[i]? = some v ∧ Dp K H v d := by
  have hi : i < ds.length := (List.getElem?_eq_some_iff.mp e).1
  rw [← DpAll.len h] at hi
  obtain ⟨d', e', q⟩ := DpAll.get h (List.getElem?_eq_getElem hi)
  rw [e] at e'
  cases e'
  exact ⟨_, List.getElem?_eq_getElem hi, q⟩
theorem atI_ok {xs : List V} {r : Int} (h0 : 0 ≤ r) (h1 : r < xs.length) : ∃ (i : Nat) (v : V), xs[i]? = some v ∧ atI xs r = some v := by
  have hi : r.toNat < xs.length := by omega
  refine ⟨r.toNat, xs[r.toNat], List.getElem?_eq_getElem hi, ?_⟩
  have h := atI_nat (xs := xs) (j := r.toNat) (v := xs[r.toNat]) (List.getElem?_eq_getElem hi)
  rw [Int.toNat_of_nonneg h0] at h
  exact h
theorem inV_int {n : Int} : ∀ (ns : List Int), inV (.int n) (ns.map V.int) = decide (n ∈ ns)
  | [] => by simp [inV]
  | m :: ns => by
    have ih := inV_int (n := n) ns
    unfold inV at ih ⊢
    rw [List.map_cons, List.any_cons, ih]
    show ((m == n) || decide (n ∈ ns)) = decide (n ∈ m :: ns)
    by_cases h : n = m
    · subst h
      simp
    · have h2 : (m == n) = false := by simpa using fun z => h z.symm
      rw [h2, Bool.false_or]
      simp [h]
theorem g_iteV {k : Bool} {A B : Prop} (e : k = true) (h : A) : if k = true then A else B := by rw [if_pos e]; exact h
theorem g_iteW {k : Bool} {A B : Prop} (e : k = false) (h : B) : if k = true then A else B := by rw [e, if_neg Bool.false_ne_true]; exact h

/-! ### the walk's steps -/
/-- a loop's goal; a comprehension's -/
def FL (J : It) (g : TG) (tb : TS) (D : Ends) (σ : L2.St) (H : Hp) : Prop := ∃ W : Nat → Nat → L2.St → Hp → Prop, (∃ m, W 0 m σ H) ∧ ∀ i m σ H, W i m σ H →
  (J.stop i H ∧ D.nx σ H) ∨ (J.go i H ∧ ∃ N : L2.St → Hp → Prop, (∀ σ' H', N σ' H' → ∃ m', m' < m ∧ W (i + 1) m' σ' H') ∧ ∀ x H', J.yld i H x H' → g x σ H' fun σ2 H2 => tb { D with nx := N, ct := N, bk := D.nx } σ2 H2)
def LC (J : It) (g : TG) (tt : TT) (te : TE) (vs : List Nat) (σ : L2.St) (Q : VK) (H1 : Hp) : Prop := ∀ D, H1 D = none → ∃ W : Nat → Nat → Hp → Prop, (∃ m, W 0 m (upd H1 D (.lst []))) ∧ ∀ i m H, W i m H →
  (J.stop i H ∧ Q (.ref D) H) ∨ (J.go i H ∧ ∃ Nx : Hp → Prop, (∀ H', Nx H' → ∃ m', m' < m ∧ W (i + 1) m' H') ∧ ∀ x H', J.yld i H x H' → g x (wipe σ vs) H' fun σ2 H2 => wipe σ2 vs = wipe σ vs ∧ tt σ2 H2 fun b H3 =>
    if b = true then te σ2 H3 fun y H4 => ∃ acc, H4 D = some (.lst acc) ∧ acc.length < sizeLine ∧ Nx (upd H4 D (.lst (acc ++ [y]))) else Nx H3)
/-- a display's end -/
def MkO (c : List V → HO) (xs : List V) (H : Hp) (Q : VK) : Prop := xs.length ≤ sizeLine ∧ ∀ p, H p = none → Q (.ref p) (upd H p (c xs))
def rRng1 (vs : List V) (H : Hp) (R : It → Hp → Prop) : Prop := ∃ j : Int, vs = [.int j] ∧ -(2 ^ 62) ≤ j ∧ j < 2 ^ 62 ∧ R (Itr 0 j.toNat) H
def rRng2 (vs : List V) (H : Hp) (R : It → Hp → Prop) : Prop := ∃ i j : Int, vs = [.int i, .int j] ∧ (-(2 ^ 62) ≤ i ∧ i < 2 ^ 62 ∧ -(2 ^ 62) ≤ j ∧ j < 2 ^ 62) ∧ R (Itr i (j - i).toNat) H
section
variable {σ : L2.St} {H H' : Hp} {Q : VK} {ta tb te : TE} {t u : TT} {a b c : L2.St → Hp → Prop} {rt : VK} {s1 s2 : TS} {D : Ends} {i : Nat} {v x y : V} {K : PySem.W.Frag} {tA tr : TA} {g : TG} {wi : TI} {R : It → Hp → Prop}
theorem g_start {N : List Str} {vs : List V} (e : L2.start N vs = σ) (h : s1 D σ H) : s1 D (L2.start N vs) H := by
  rw [e]
  exact h
theorem g_seq (h : s1 ⟨fun σ H => s2 D σ H, D.rt, D.bk, D.ct⟩ σ H) : tSeq s1 s2 D σ H := h
theorem g_sig {σ' : L2.St} (e : σ = σ') (h : s1 D σ' H) : s1 D σ H := by rw [e]; exact h
/-- what follows is put away under a name -/
theorem g_seqN (h : ∀ N : L2.St → Hp → Prop, (∀ σ H, s2 D σ H → N σ H) → s1 ⟨N, D.rt, D.bk, D.ct⟩ σ H) : tSeq s1 s2 D σ H := h _ fun _ _ q => q
theorem g_useN {N M : L2.St → Hp → Prop} (h : ∀ σ H, M σ H → N σ H) (q : M σ H) : N σ H := h σ H q
theorem g_nx (h : a σ H) : Ends.nx ⟨a, rt, b, c⟩ σ H := h
theorem g_rt (h : rt v H) : Ends.rt ⟨a, rt, b, c⟩ v H := h
theorem g_bk (h : b σ H) : Ends.bk ⟨a, rt, b, c⟩ σ H := h
theorem g_ct (h : c σ H) : Ends.ct ⟨a, rt, b, c⟩ σ H := h
theorem g_next (h : D.nx σ H) : tNext D σ H := h
theorem g_brk (h : D.bk σ H) : tBreak D σ H := h
theorem g_ifS (h : t σ H fun b H1 => if b = true then s1 D σ H1 else s2 D σ H1) : tIfS t s1 s2 D σ H := h
theorem g_ret (h : te σ H fun v H => D.rt v H) : tRet te D σ H := h
theorem g_retN (h : D.rt .non H) : tRetN D σ H := h
theorem g_drop (h : te σ H fun _ H1 => D.nx σ H1) : tDrop te D σ H := h
theorem g_asg (h : te σ H fun x H1 => D.nx (σ.set i (some x)) H1) : tAsg te (gName i) D σ H := h
theorem g_asgS {ts : TSet} (h : te σ H fun x H1 => ta σ H1 fun o H2 => tb σ H2 fun i H3 => ts o i x H3 fun H4 => D.nx σ H4) : tAsg te (gSub ta tb ts) D σ H := h
theorem g_asgT {n : Nat} {gs : TGs} (h : te σ H fun x H1 => gTup K n gs x σ H1 D.nx) : tAsg te (gTup K n gs) D σ H := h
theorem g_aug {ti : TIp} (e : σ[i]? = some (some v)) (h : te σ H fun y H1 => ti v y H1 fun z H2 => D.nx (σ.set i (some z)) H2) : tAug i te ti D σ H := ⟨v, e, h⟩
theorem g_ipI {f : Int → Int → Int} {p q : Int} (h : Q (.int (f p q)) H) : ipI f (.int p) (.int q) H Q := ⟨p, q, rfl, rfl, h⟩
theorem g_var (e : σ[i]? = some (some v)) (h : Q v H) : tVar i σ H Q := ⟨v, e, h⟩
theorem g_c (h : Q v H) : tC v σ H Q := h
theorem g_op {r : R2} (h : ta σ H fun x H1 => tb σ H1 fun y H2 => r x y H2 Q) : tOp r ta tb σ H Q := h
theorem g_un {r : V → Hp → VK → Prop} (h : ta σ H fun x H1 => r x H1 Q) : tUn r ta σ H Q := h
theorem g_neg {g : Int → V} {i : Int} (h : Q (g i) H) : rU g (.int i) H Q := ⟨i, rfl, h⟩
theorem g_I0 {g : Int → Int → V} {i j : Int} (h : Q (g i j) H) : rI0 g (.int i) (.int j) H Q := ⟨i, j, rfl, rfl, h⟩
theorem g_I {C : Int → Int → Prop} {g : Int → Int → V} {i j : Int} (hc : C i j) (h : Q (g i j) H) : rI C g (.int i) (.int j) H Q := ⟨i, j, rfl, rfl, hc, h⟩
theorem g_test {q : Bool → Hp → Prop} (h : te σ H fun x H1 => ∃ k, x = .bl k ∧ q k H1) : tTest te σ H q := h
theorem g_B {q : Bool → Hp → Prop} (h : te σ H fun x H1 => ∃ k, x = .bl k ∧ q k H1) : tB te σ H q := h
theorem g_bl {p : Bool → Prop} {k : Bool} (h : p k) : ∃ k', V.bl k = .bl k' ∧ p k' := ⟨k, rfl, h⟩
theorem g_and {q : Bool → Hp → Prop} (h : t σ H fun c H1 => if c = true then u σ H1 q else q false H1) : tAnd t u σ H q := h
theorem g_or {q : Bool → Hp → Prop} (h : t σ H fun c H1 => if c = true then q true H1 else u σ H1 q) : tOr t u σ H q := h
theorem g_not {q : Bool → Hp → Prop} (h : t σ H fun c H1 => q (!c) H1) : tNot t σ H q := h
theorem g_andV (h : ta σ H fun x H1 => ∃ c, x = .bl c ∧ if c = true then tb σ H1 Q else Q (.bl false) H1) : tAndV ta tb σ H Q := h
theorem g_orV (h : ta σ H fun x H1 => ∃ c, x = .bl c ∧ if c = true then Q (.bl true) H1 else tb σ H1 Q) : tOrV ta tb σ H Q := h
theorem g_notV (h : ta σ H fun x H1 => ∃ c, x = .bl c ∧ Q (.bl (!c)) H1) : tNotV ta σ H Q := h
theorem g_ifE (h : t σ H fun c H1 => if c = true then ta σ H1 Q else tb σ H1 Q) : tIf t ta tb σ H Q := h
theorem g_iteD {p : Prop} [Decidable p] {A B : Prop} (h1 : p → A) (h2 : ¬ p → B) : if decide p = true then A else B := by
  by_cases h : p
  · rw [if_pos (decide_eq_true h)]
    exact h1 h
  · rw [if_neg (fun z => h (of_decide_eq_true z))]
    exact h2 h
theorem g_iteND {p : Prop} [Decidable p] {A B : Prop} (h1 : ¬ p → A) (h2 : p → B) : if (!decide p) = true then A else B := by
  by_cases h : p
  · rw [decide_eq_true h, if_neg (by decide)]
    exact h2 h
  · rw [decide_eq_false h, if_pos (by decide)]
    exact h1 h
theorem g_iteY {p : Prop} [Decidable p] {A B : Prop} (e : p) (h : A) : if decide p = true then A else B := by rw [if_pos (decide_eq_true e)]; exact h
theorem g_iteN {p : Prop} [Decidable p] {A B : Prop} (e : ¬ p) (h : B) : if decide p = true then A else B := by rw [if_neg (fun z => e (of_decide_eq_true z))]; exact h
theorem g_iteNY {p : Prop} [Decidable p] {A B : Prop} (e : p) (h : B) : if (!decide p) = true then A else B := by rw [decide_eq_true e, if_neg (by decide)]; exact h
theorem g_iteNN {p : Prop} [Decidable p] {A B : Prop} (e : ¬ p) (h : A) : if (!decide p) = true then A else B := by rw [decide_eq_false e, if_pos (by decide)]; exact h
theorem g_iteB {k : Bool} {A B : Prop} (h1 : k = true → A) (h2 : k = false → B) : if k = true then A else B := by
  cases k
  · rw [if_neg (by decide)]
    exact h2 rfl
  · rw [if_pos rfl]
    exact h1 rfl
theorem g_iteT {A B : Prop} (h : A) : if true = true then A else B := by rw [if_pos rfl]; exact h
theorem g_iteF {A B : Prop} (h : B) : if false = true then A else B := by rw [if_neg Bool.false_ne_true]; exact h
theorem g_iteNT {A B : Prop} (h : B) : if (!true) = true then A else B := by rw [if_neg (by decide)]; exact h
theorem g_iteNF {A B : Prop} (h : A) : if (!false) = true then A else B := by rw [if_pos (by decide)]; exact h
theorem g_chain {r r' : R2} {tc : TE} (h : ta σ H fun x H1 => tb σ H1 fun y H2 => r x y H2 fun z H3 => ∃ k, z = .bl k ∧ (if k = true then tc σ H3 fun w' H4 => r' y w' H4 Q else Q (.bl false) H3)) : tChain r r' ta tb tc σ H Q := h
theorem g_cb {r : List V → Hp → VK → Prop} (h : tA σ H fun vs H1 => r vs H1 Q) : tCB r tA σ H Q := h
theorem g_nil {q : List V → Hp → Prop} (h : q [] H) : tNil σ H q := h
theorem g_cons {q : List V → Hp → Prop} (h : ta σ H fun x H1 => tr σ H1 fun xs H2 => q (x :: xs) H2) : tCons ta tr σ H q := h
theorem g_call {sp : Sp} {E : XK} (h : tA σ H fun vs H1 => sp vs H1 Q E) : tCall sp [] E tA σ H Q := by
  simp only [tCall, List.append_nil]
  exact h
theorem g_call1 {sp : Sp} {E : XK} {dvs : List V} (h : ta σ H fun x H1 => sp (x :: dvs) H1 Q E) : tCall sp dvs E (tCons ta tNil) σ H Q := h
theorem g_call2 {sp : Sp} {E : XK} {dvs : List V} (h : ta σ H fun x H1 => tb σ H1 fun y H2 => sp (x :: y :: dvs) H2 Q E) : tCall sp dvs E (tCons ta (tCons tb tNil)) σ H Q := h
theorem g_tup (h : tA σ H fun xs H1 => MkO HO.tup xs H1 Q) : tTup tA σ H Q := h
theorem g_lst (h : tA σ H fun xs H1 => MkO HO.lst xs H1 Q) : tLst tA σ H Q := h
theorem g_mk {c : List V → HO} {xs : List V} (hl : xs.length ≤ 100000) (h : ∀ p H', H p = none → L2.Same H H' → H' p = some (c xs) → Q (.ref p) H') : MkO c xs H Q :=
  ⟨Nat.le_trans hl (by decide), fun p hp => h p _ hp (same_new hp) upd_same⟩
theorem g_new {o : HO} (h : ∀ p H', H p = none → L2.Same H H' → H' p = some o → Q (.ref p) H') : ∀ p, H p = none → Q (.ref p) (upd H p o) := fun p hp => h p _ hp (same_new hp) upd_same
theorem g_ixQ {p : Addr} {i : Int} {xs : List V} (h : Sq K H p xs) (ha : atI xs i = some v) (q : Q v H) : rIxQ K (.ref p) (.int i) H Q := ⟨p, i, xs, v, rfl, rfl, h, ha, q⟩
theorem g_lenQ {p : Addr} {xs : List V} (h : Sq K H p xs) (q : Q (.int xs.length) H) : rLenQ K [.ref p] H Q := ⟨p, xs, rfl, h, q⟩
theorem g_listQ {p : Addr} {xs : List V} (h : Sq K H p xs) (q : ∀ l H', H l = none → L2.Same H H' → H' l = some (.lst xs) → Q (.ref l) H') : rListQ K [.ref p] H Q := ⟨p, xs, rfl, h, fun l hl => q l _ hl (same_new hl) upd_same⟩
theorem g_tupQ {p : Addr} {xs : List V} (h : Sq K H p xs) (q : ∀ l H', L2.Same H H' → SqT K H' l xs → Q (.ref l) H') : rTupQ K [.ref p] H Q := ⟨p, xs, rfl, h, q⟩
theorem g_inQ {p : Addr} {xs : List V} (h : Sq K H p xs) (h1 : flatV x = true) (h2 : xs.all flatV = true) (q : Q (.bl (inV x xs)) H) : rInQ K false x (.ref p) H Q := ⟨p, xs, rfl, h, h1, h2, q⟩
theorem g_notInQ {p : Addr} {xs : List V} (h : Sq K H p xs) (h1 : flatV x = true) (h2 : xs.all flatV = true) (q : Q (.bl (!inV x xs)) H) : rInQ K true x (.ref p) H Q := ⟨p, xs, rfl, h, h1, h2, q⟩
theorem g_setL {p : Addr} {k : Int} {j : Nat} {xs : List V} {q : Hp → Prop} (h : H p = some (.lst xs)) (hj : ixN xs.length k = some j) (hq : q (upd H p (.lst (xs.set j v)))) : rSetL (.ref p) (.int k) v H q := ⟨p, xs, k, j, rfl, rfl, h, hj, hq⟩
theorem g_eq (h : scal x y = true) (q : Q (.bl (decide (x = y))) H) : rEq x y H Q := ⟨h, q⟩
theorem g_ne (h : scal x y = true) (q : Q (.bl (!decide (x = y))) H) : rNe x y H Q := ⟨h, q⟩
theorem g_eqI {i j : Int} (q : Q (.bl (decide (i = j))) H) : rEq (.int i) (.int j) H Q := ⟨rfl, by
  rw [show decide (V.int i = V.int j) = decide (i = j) from by simp]
  exact q⟩
theorem g_neI {i j : Int} (q : Q (.bl (!decide (i = j))) H) : rNe (.int i) (.int j) H Q := ⟨rfl, by
  rw [show decide (V.int i = V.int j) = decide (i = j) from by simp]
  exact q⟩
theorem g_eqS {i j : Str} (q : Q (.bl (decide (i = j))) H) : rEq (.str i) (.str j) H Q := ⟨rfl, by
  rw [show decide (V.str i = V.str j) = decide (i = j) from by simp]
  exact q⟩
theorem g_neS {i j : Str} (q : Q (.bl (!decide (i = j))) H) : rNe (.str i) (.str j) H Q := ⟨rfl, by
  rw [show decide (V.str i = V.str j) = decide (i = j) from by simp]
  exact q⟩
theorem g_isN (q : Q (.bl (decide (x = .non))) H) : rIsN2 x .non H Q := ⟨rfl, q⟩
theorem g_notN (q : Q (.bl (!decide (x = .non))) H) : rNotN2 x .non H Q := ⟨rfl, q⟩
theorem g_sum {p : Addr} {ns : List Int} (h : SqL K H p (ns.map V.int)) (q : Q (.int ns.sum) H) : rSum K [.ref p] H Q := ⟨p, ns, rfl, h, q⟩
theorem g_all {p : Addr} {bs : List Bool} (h : SqL K H p (bs.map V.bl)) (q : Q (.bl (bs.all id)) H) : rAll K [.ref p] H Q := ⟨p, bs, rfl, h, q⟩
theorem g_any {p : Addr} {bs : List Bool} (h : SqL K H p (bs.map V.bl)) (q : Q (.bl (bs.any id)) H) : rAny K [.ref p] H Q := ⟨p, bs, rfl, h, q⟩
theorem g_isi {c : V} {ty uu : Value} {k : Bool} (h1 : ClsV c uu) (h2 : TyX K H x ty) (h3 : PySem.W.kitOne K ty uu = some k) (q : Q (.bl k) H) : rIsi K [x, c] H Q := ⟨x, c, ty, uu, k, rfl, h1, h2, h3, q⟩
theorem g_isiT {tp : Addr} {cs : List V} {ty : Value} {us : List Value} {k : Bool} (h0 : H tp = some (.tup cs)) (h1 : Paired ClsV cs us) (h2 : TyX K H x ty) (h3 : PySem.W.kitAny K ty us = some k) (q : Q (.bl k) H) : rIsiT K [x, .ref tp] H Q := ⟨x, tp, cs, ty, us, k, rfl, h0, h1, h2, h3, q⟩
/-! loops -/
theorem g_for (h : wi σ H fun J H1 => FL J g s1 D σ H1) : tFor wi g s1 D σ H := h
theorem g_lc {vs : List Nat} (h : wi σ H fun J H1 => LC J g t te vs σ Q H1) : tLc wi g t te vs σ H Q := h
theorem g_iRng1 (h : tA σ H fun vs H1 => rRng1 vs H1 R) : iRng1 tA σ H R := h
theorem g_iRng2 (h : tA σ H fun vs H1 => rRng2 vs H1 R) : iRng2 tA σ H R := h
theorem g_rng1 {j : Int} (h1 : -(2 ^ 62) ≤ j ∧ j < 2 ^ 62) (h : R (Itr 0 j.toNat) H) : rRng1 [.int j] H R := ⟨j, rfl, h1.1, h1.2, h⟩
theorem g_rng2 {i j : Int} (h1 : -(2 ^ 62) ≤ i ∧ i < 2 ^ 62 ∧ -(2 ^ 62) ≤ j ∧ j < 2 ^ 62) (h : R (Itr i (j - i).toNat) H) : rRng2 [.int i, .int j] H R := ⟨i, j, rfl, h1, h⟩
theorem g_iSeq (h : te σ H fun x H1 => rSeq K x H1 R) : iSeq K te σ H R := h
theorem g_rSeq {a : Addr} {xs : List V} (hS : Sq K H a xs) (h : ∀ (J : It) (G : Hp → Prop), Walk J xs.length G (YAt xs) → (∀ H', (∀ o, H a = some o → H' a = some o) → G H') → R J H) : rSeq K (.ref a) H R := by
  refine ⟨a, rfl, ?_⟩
  rcases hS with hS | hS
  · refine .inl ⟨⟨xs, hS⟩, h _ _ walk_list fun H' e => ?_⟩
    rcases hS with (hS | ⟨o, hS⟩) | hS
    · exact .inl (.inl (e _ hS))
    · exact .inl (.inr ⟨o, e _ hS⟩)
    · exact .inr hS
  · refine .inr ⟨⟨xs, hS⟩, h _ _ walk_tup fun H' e => ?_⟩
    rcases hS with (hS | ⟨o, hS⟩) | hS
    · exact .inl (.inl (e _ hS))
    · exact .inl (.inr ⟨o, e _ hS⟩)
    · exact .inr hS
/-- a for by its word -/
theorem fl_walk {J : It} {n : Nat} {G : Hp → Prop} {Y : Nat → Hp → V → Hp → Prop} (w : Walk J n G Y) (Pv : Nat → L2.St → Hp → Prop) (h0 : Pv 0 σ H) (hG : ∀ i σ H, i ≤ n → Pv i σ H → G H)
    (hs : ∀ i x σ H H', i < n → Pv i σ H → Y i H x H' → g x σ H' fun σ2 H2 => s1 ⟨Pv (i + 1), D.rt, D.nx, Pv (i + 1)⟩ σ2 H2) (hd : ∀ σ H, Pv n σ H → D.nx σ H) : FL J g s1 D σ H := for_it w Pv h0 hG hs hd
theorem fl_range {j : Nat} {lo : Int} {n : Nat} (Pv : Nat → L2.St → Hp → Prop) (h0 : Pv 0 σ H)
    (hs : ∀ (i : Nat) σ H, i < n → Pv i σ H → s1 ⟨Pv (i + 1), D.rt, D.nx, Pv (i + 1)⟩ (σ.set j (some (.int (lo + i)))) H) (hd : ∀ σ H, Pv n σ H → D.nx σ H) : FL (Itr lo n) (gName j) s1 D σ H :=
  fl_walk walk_range Pv h0 (fun _ _ _ _ _ => True.intro) (fun i x σ H H' hi p y => by
    obtain ⟨rfl, rfl⟩ := y
    exact hs i σ _ hi p) hd
/-- a for over a list or tuple that stands, its target a name -/
theorem fl_seq {J : It} {xs : List V} {G : Hp → Prop} {a : Addr} {j : Nat} {H0 : Hp} (w : Walk J xs.length G (YAt xs)) (hG : ∀ H', (∀ o, H0 a = some o → H' a = some o) → G H') (Pv : Nat → L2.St → Hp → Prop) (h0 : Pv 0 σ H) (hS : ∀ i σ H, Pv i σ H → ∀ o, H0 a = some o → H a = some o)
    (hs : ∀ i x σ H, xs[i]? = some x → Pv i σ H → s1 ⟨Pv (i + 1), D.rt, D.nx, Pv (i + 1)⟩ (σ.set j (some x)) H) (hd : ∀ σ H, Pv xs.length σ H → D.nx σ H) : FL J (gName j) s1 D σ H :=
  fl_walk w Pv h0 (fun i σ H _ p => hG H (hS i σ H p)) (fun i x σ H H' hi p y => by
    obtain ⟨rfl, y⟩ := y
    exact hs i x σ _ y p) hd
end


/-! ### the steps that ask nothing, found by their heads -/
class Lk (σ : L2.St) (i : Nat) (v : outParam V) : Prop where
  at_ : σ[i]? = some (some v)
instance {σ : L2.St} {v : V} : Lk (some v :: σ) 0 v := ⟨rfl⟩
instance {σ : L2.St} {i : Nat} {v : V} {x : Option V} [h : Lk σ i v] : Lk (x :: σ) (i + 1) v := ⟨by rw [List.getElem?_cons_succ]; exact h.at_⟩
class SetL (σ : L2.St) (i : Nat) (x : Option V) (σ' : outParam L2.St) : Prop where
  eq : σ.set i x = σ'
instance {σ : L2.St} {x y : Option V} : SetL (y :: σ) 0 x (x :: σ) := ⟨rfl⟩
instance {σ σ' : L2.St} {i : Nat} {x y : Option V} [h : SetL σ i x σ'] : SetL (y :: σ) (i + 1) x (y :: σ') := ⟨by rw [List.set_cons_succ, h.eq]⟩
/-- an end's part, by a name that does not unfold -/
def NX (D : Ends) (σ : L2.St) (H : Hp) : Prop := D.nx σ H
def RT (D : Ends) (v : V) (H : Hp) : Prop := D.rt v H
def BK (D : Ends) (σ : L2.St) (H : Hp) : Prop := D.bk σ H
def CT (D : Ends) (σ : L2.St) (H : Hp) : Prop := D.ct σ H
class Stp (g : Prop) (n : outParam Prop) : Prop where
  go : n → g
class Stps (g : Prop) (n : outParam Prop) : Prop where
  go : n → g
class Stp1 (g : Prop) (n : outParam Prop) : Prop where
  go : n → g
instance (priority := low) stps_id {g : Prop} : Stps g g := ⟨id⟩
instance stps_go {g m n : Prop} [a : Stp g m] [b : Stps m n] : Stps g n := ⟨fun h => a.go (b.go h)⟩
instance stp1_go {g m n : Prop} [a : Stp g m] [b : Stps m n] : Stp1 g n := ⟨fun h => a.go (b.go h)⟩
theorem stp1 {g n : Prop} [a : Stp1 g n] (h : n) : g := a.go h
section
variable {σ σ' : L2.St} {H H' : Hp} {Q : VK} {ta tb te : TE} {t u : TT} {a b c : L2.St → Hp → Prop} {rt : VK} {s1 s2 : TS} {D : Ends} {i : Nat} {v x y : V} {K : PySem.W.Frag} {tA tr : TA} {g : TG} {wi : TI} {R : It → Hp → Prop} {A B : Prop}
instance : Stp (NX ⟨a, rt, b, c⟩ σ H) (a σ H) := ⟨g_nx⟩
instance (priority := high) {z : Option V} [h : SetL σ i z σ'] : Stp (NX ⟨a, rt, b, c⟩ (σ.set i z) H) (a σ' H) := ⟨fun q => by unfold NX; rw [h.eq]; exact q⟩
instance : Stp (RT ⟨a, rt, b, c⟩ v H) (rt v H) := ⟨g_rt⟩
instance : Stp (BK ⟨a, rt, b, c⟩ σ H) (b σ H) := ⟨g_bk⟩
instance : Stp (CT ⟨a, rt, b, c⟩ σ H) (c σ H) := ⟨g_ct⟩
instance : Stp (tNext D σ H) (NX D σ H) := ⟨g_next⟩
instance : Stp (tBreak D σ H) (BK D σ H) := ⟨g_brk⟩
instance : Stp (tIfS t s1 s2 D σ H) (t σ H fun b H1 => if b = true then s1 D σ H1 else s2 D σ H1) := ⟨g_ifS⟩
instance : Stp (tRet te D σ H) (te σ H fun v H => RT D v H) := ⟨g_ret⟩
instance : Stp (tRetN D σ H) (RT D .non H) := ⟨g_retN⟩
instance : Stp (tDrop te D σ H) (te σ H fun _ H1 => NX D σ H1) := ⟨g_drop⟩
instance : Stp (tAsg te (gName i) D σ H) (te σ H fun x H1 => NX D (σ.set i (some x)) H1) := ⟨g_asg⟩
instance {ts : TSet} : Stp (tAsg te (gSub ta tb ts) D σ H) (te σ H fun x H1 => ta σ H1 fun o H2 => tb σ H2 fun i H3 => ts o i x H3 fun H4 => NX D σ H4) := ⟨g_asgS⟩
instance {n : Nat} {gs : TGs} : Stp (tAsg te (gTup K n gs) D σ H) (te σ H fun x H1 => gTup K n gs x σ H1 fun σ H => NX D σ H) := ⟨fun h => h⟩
instance [h : Lk σ i v] : Stp (tVar i σ H Q) (Q v H) := ⟨g_var h.at_⟩
instance {ti : TIp} [h : Lk σ i v] : Stp (tAug i te ti D σ H) (te σ H fun y H1 => ti v y H1 fun z H2 => NX D (σ.set i (some z)) H2) := ⟨g_aug h.at_⟩
instance : Stp (tC v σ H Q) (Q v H) := ⟨g_c⟩
instance {r : R2} : Stp (tOp r ta tb σ H Q) (ta σ H fun x H1 => tb σ H1 fun y H2 => r x y H2 Q) := ⟨g_op⟩
instance {r : V → Hp → VK → Prop} : Stp (tUn r ta σ H Q) (ta σ H fun x H1 => r x H1 Q) := ⟨g_un⟩
instance {g : Int → V} {i : Int} : Stp (rU g (.int i) H Q) (Q (g i) H) := ⟨g_neg⟩
instance {g : Int → Int → V} {i j : Int} : Stp (rI0 g (.int i) (.int j) H Q) (Q (g i j) H) := ⟨g_I0⟩
instance {f : Int → Int → Int} {p q : Int} : Stp (ipI f (.int p) (.int q) H Q) (Q (.int (f p q)) H) := ⟨g_ipI⟩
instance {q : Bool → Hp → Prop} : Stp (tTest te σ H q) (te σ H fun x H1 => ∃ k, x = .bl k ∧ q k H1) := ⟨g_test⟩
instance {q : Bool → Hp → Prop} : Stp (tB te σ H q) (te σ H fun x H1 => ∃ k, x = .bl k ∧ q k H1) := ⟨g_B⟩
instance {p : Bool → Prop} {k : Bool} : Stp (∃ k', V.bl k = .bl k' ∧ p k') (p k) := ⟨g_bl⟩
instance {q : Bool → Hp → Prop} : Stp (tAnd t u σ H q) (t σ H fun c H1 => if c = true then u σ H1 q else q false H1) := ⟨g_and⟩
instance {q : Bool → Hp → Prop} : Stp (tOr t u σ H q) (t σ H fun c H1 => if c = true then q true H1 else u σ H1 q) := ⟨g_or⟩
instance {q : Bool → Hp → Prop} : Stp (tNot t σ H q) (t σ H fun c H1 => q (!c) H1) := ⟨g_not⟩
instance : Stp (tAndV ta tb σ H Q) (ta σ H fun x H1 => ∃ c, x = .bl c ∧ if c = true then tb σ H1 Q else Q (.bl false) H1) := ⟨g_andV⟩
instance : Stp (tOrV ta tb σ H Q) (ta σ H fun x H1 => ∃ c, x = .bl c ∧ if c = true then Q (.bl true) H1 else tb σ H1 Q) := ⟨g_orV⟩
instance : Stp (tNotV ta σ H Q) (ta σ H fun x H1 => ∃ c, x = .bl c ∧ Q (.bl (!c)) H1) := ⟨g_notV⟩
instance : Stp (tIf t ta tb σ H Q) (t σ H fun c H1 => if c = true then ta σ H1 Q else tb σ H1 Q) := ⟨g_ifE⟩
instance : Stp (if true = true then A else B) A := ⟨g_iteT⟩
instance : Stp (if false = true then A else B) B := ⟨g_iteF⟩
instance : Stp (if (!true) = true then A else B) B := ⟨g_iteNT⟩
instance : Stp (if (!false) = true then A else B) A := ⟨g_iteNF⟩
instance {r r' : R2} {tc : TE} : Stp (tChain r r' ta tb tc σ H Q) (ta σ H fun x H1 => tb σ H1 fun y H2 => r x y H2 fun z H3 => ∃ k, z = .bl k ∧ (if k = true then tc σ H3 fun w' H4 => r' y w' H4 Q else Q (.bl false) H3)) := ⟨g_chain⟩
instance {r : List V → Hp → VK → Prop} : Stp (tCB r tA σ H Q) (tA σ H fun vs H1 => r vs H1 Q) := ⟨g_cb⟩
instance {q : List V → Hp → Prop} : Stp (tNil σ H q) (q [] H) := ⟨g_nil⟩
instance {q : List V → Hp → Prop} : Stp (tCons ta tr σ H q) (ta σ H fun x H1 => tr σ H1 fun xs H2 => q (x :: xs) H2) := ⟨g_cons⟩
instance (priority := high) {sp : Sp} {E : XK} : Stp (tCall sp [] E tA σ H Q) (tA σ H fun vs H1 => sp vs H1 Q E) := ⟨g_call⟩
instance {sp : Sp} {E : XK} {dvs : List V} : Stp (tCall sp dvs E (tCons ta tNil) σ H Q) (ta σ H fun x H1 => sp (x :: dvs) H1 Q E) := ⟨g_call1⟩
instance {sp : Sp} {E : XK} {dvs : List V} : Stp (tCall sp dvs E (tCons ta (tCons tb tNil)) σ H Q) (ta σ H fun x H1 => tb σ H1 fun y H2 => sp (x :: y :: dvs) H2 Q E) := ⟨g_call2⟩
instance : Stp (tTup tA σ H Q) (tA σ H fun xs H1 => MkO HO.tup xs H1 Q) := ⟨g_tup⟩
instance : Stp (tLst tA σ H Q) (tA σ H fun xs H1 => MkO HO.lst xs H1 Q) := ⟨g_lst⟩
instance {i j : Int} : Stp (rEq (.int i) (.int j) H Q) (Q (.bl (decide (i = j))) H) := ⟨g_eqI⟩
instance {i j : Int} : Stp (rNe (.int i) (.int j) H Q) (Q (.bl (!decide (i = j))) H) := ⟨g_neI⟩
instance {i j : Str} : Stp (rEq (.str i) (.str j) H Q) (Q (.bl (decide (i = j))) H) := ⟨g_eqS⟩
instance {i j : Str} : Stp (rNe (.str i) (.str j) H Q) (Q (.bl (!decide (i = j))) H) := ⟨g_neS⟩
instance : Stp (rIsN2 x .non H Q) (Q (.bl (decide (x = .non))) H) := ⟨g_isN⟩
instance : Stp (rNotN2 x .non H Q) (Q (.bl (!decide (x = .non))) H) := ⟨g_notN⟩
instance : Stp (tFor wi g s1 D σ H) (wi σ H fun J H1 => FL J g s1 D σ H1) := ⟨g_for⟩
instance {vs : List Nat} : Stp (tLc wi g t te vs σ H Q) (wi σ H fun J H1 => LC J g t te vs σ Q H1) := ⟨g_lc⟩
instance : Stp (iRng1 tA σ H R) (tA σ H fun vs H1 => rRng1 vs H1 R) := ⟨g_iRng1⟩
instance : Stp (iRng2 tA σ H R) (tA σ H fun vs H1 => rRng2 vs H1 R) := ⟨g_iRng2⟩
instance : Stp (iSeq K te σ H R) (te σ H fun x H1 => rSeq K x H1 R) := ⟨g_iSeq⟩
end

/-! ### a list that grows is hidden while other things are reckoned -/
def hid (H : Hp) (a : Addr) : Hp := fun b => if b = a then none else H b
theorem hid_ne {H : Hp} {a b : Addr} (h : b ≠ a) : hid H a b = H b := if_neg h
theorem hid_same {H : Hp} {a : Addr} : hid H a a = none := if_pos rfl
theorem hid_upd {B : Hp} {a : Addr} {o : HO} (h : B a = none) : hid (upd B a o) a = B := by
  funext b
  by_cases e : b = a
  · rw [e, hid_same, h]
  · rw [hid_ne e, upd_ne e]
section
variable {X : Cx} {pins : List (Addr × Obj)} {σ : L2.St} {H : Hp} {s : Shared}
theorem Inv.notFs (I : Inv X pins σ H s) {a : Addr} {o : HO} (e : H a = some o) : a ∉ X.fs := fun hb => by
  obtain ⟨_, ob, ho, _⟩ := I.ok.funs.mem hb
  have z := I.base.free a ob ho (I.ok.frf a hb) fun z => I.ok.exfs a z hb
  rw [e] at z
  cases z
theorem Inv.hide {a : Addr} {xs : List V} (I : Inv X pins σ H s) (e : H a = some (.lst xs)) : ∃ ob, s.heap.get? a = some ob ∧ Inv X (pins ++ [(a, ob)]) σ (hid H a) s := by
  obtain ⟨_, its, n, rv, ho⟩ := id (I.hok a _ e)
  have nn : ∀ {b : Addr} {u : HO}, H b = some u → (∀ ys, u ≠ .lst ys) → b ≠ a := fun {b u} q z y => by
    rw [y, e] at q
    exact z _ (Option.some.inj q).symm
  have fr : ∀ {b : Addr}, H b = none → hid H a b = none := fun {b} q => by
    by_cases hb : b = a
    · rw [hb, hid_same]
    · rw [hid_ne hb]
      exact q
  refine ⟨_, ho, I.ok, I.os, I.bare, ⟨I.base.keep, I.base.slot, fun b o q m hx => fr (I.base.free b o q m hx), I.base.there, fun b ys q => ?_, fun b o u q => ?_, fun b ps q => ?_⟩, I.loc, I.cell, fr I.free, fun x c q => fr (I.freeC x c q), fun p hp => ?_, fun b u q => ?_, I.len⟩
  · have z := I.base.tups b ys q
    rw [hid_ne (nn z fun _ y => by cases y)]
    exact z
  · have z := I.base.frzs b o u q
    rw [hid_ne (nn z fun _ y => by cases y)]
    exact z
  · obtain ⟨more, z⟩ := I.base.tbls b ps q
    exact ⟨more, by rw [hid_ne (nn z fun _ y => by cases y)]; exact z⟩
  · rw [← List.append_assoc] at hp
    rcases List.mem_append.mp hp with hp | hp
    · obtain ⟨h1, h2, h3⟩ := I.pin p hp
      exact ⟨h1, fr h2, h3⟩
    · obtain rfl := List.mem_singleton.mp hp
      refine ⟨ho, hid_same, fun z => ?_, Inv.notFs I e, fun v z => by cases z⟩
      have y := I.free
      have z : a = X.env.locals := z
      rw [← z, e] at y
      cases y
  · have hb : b ≠ a := fun z => by
      rw [z, hid_same] at q
      cases q
    rw [hid_ne hb] at q
    exact (I.hok b u q).stay (fun c v _ r => r) (fun c r => by rw [hid_ne (nn r fun _ y => by cases y)]; exact r) fun c ys r => by rw [hid_ne (nn r fun _ y => by cases y)]; exact r
theorem Inv.unhide {a : Addr} {xs : List V} {ob : Obj} {H' : Hp} {s' : Shared} (I : Inv X pins σ H s) (e : H a = some (.lst xs)) (ho : s.heap.get? a = some ob) (J : Inv X (pins ++ [(a, ob)]) σ H' s') : H' a = none ∧ Inv X pins σ (upd H' a (.lst xs)) s' := by
  have hp := J.pin (a, ob) (by simp)
  have hn : H' a = none := hp.2.1
  refine ⟨hn, ?_⟩
  obtain ⟨hz, its, n, rv, ho'⟩ := id (I.hok a _ e)
  rw [ho] at ho'
  have eo := Option.some.inj ho'
  have nn : ∀ {b : Addr} {u : HO}, H' b = some u → b ≠ a := fun {b u} q => ne_of_none q hn
  refine ⟨J.ok, J.os, J.bare, ⟨J.base.keep, J.base.slot, fun b o q m hx => ?_, J.base.there, fun b ys q => ?_, fun b o u q => ?_, fun b ps q => ?_⟩, J.loc, J.cell, ?_, fun x c q => ?_, fun p hq => ?_, ?_, J.len⟩
  · have hb : b ≠ a := fun z => by
      have y := I.base.free b o q m hx
      rw [z, e] at y
      cases y
    rw [upd_ne hb]
    exact J.base.free b o q m hx
  · have z := J.base.tups b ys q
    rw [upd_ne (nn z)]
    exact z
  · have z := J.base.frzs b o u q
    rw [upd_ne (nn z)]
    exact z
  · obtain ⟨more, z⟩ := J.base.tbls b ps q
    exact ⟨more, by rw [upd_ne (nn z)]; exact z⟩
  · have hb : X.env.locals ≠ a := fun z => by
      have y := I.free
      rw [z, e] at y
      cases y
    rw [upd_ne hb]
    exact J.free
  · have hb : c ≠ a := fun z => by
      have y := I.freeC x c q
      rw [z, e] at y
      cases y
    rw [upd_ne hb]
    exact J.freeC x c q
  · obtain ⟨h1, h2, h3⟩ := J.pin p (by rw [← List.append_assoc]; exact List.mem_append_left _ hq)
    have hb : p.1 ≠ a := fun z => by
      have y := (I.pin p hq).2.1
      rw [z, e] at y
      cases y
    exact ⟨h1, by rw [upd_ne hb]; exact h2, h3⟩
  · intro b u q
    by_cases hb : b = a
    · subst hb
      rw [upd_same] at q
      cases q
      exact ⟨hz, its, n, rv, by rw [← eo]; exact hp.1⟩
    · rw [upd_ne hb] at q
      exact (J.hok b u q).stay (fun c v _ r => r) (fun c r => by rw [upd_ne (nn r)]; exact r) fun c ys r => by rw [upd_ne (nn r)]; exact r
/-- e is reckoned while a list is hidden -/
def tHid (te : TE) : TE := fun σ H Q => ∃ (a : Addr) (xs : List V), H a = some (.lst xs) ∧ te σ (hid H a) fun v H' => H' a = none → Q v (upd H' a (.lst xs))
def tHidT (t : TT) : TT := fun σ H Q => ∃ (a : Addr) (xs : List V), H a = some (.lst xs) ∧ t σ (hid H a) fun v H' => H' a = none → Q v (upd H' a (.lst xs))
theorem pe_hid {e : Expr} {te : TE} (he : PE X e te) : PE X e (tHid te) := by
  refine ⟨fun pins s σ H Q I h => ?_⟩
  obtain ⟨a, xs, ea, q⟩ := h
  obtain ⟨ob, ho, J⟩ := Inv.hide I ea
  refine thn (he.run _ s σ _ _ J q) fun v s1 ⟨x, H1, I1, r1, q1⟩ => ?_
  obtain ⟨hn, I2⟩ := Inv.unhide I ea ho I1
  exact ⟨x, _, I2, r1, q1 hn⟩
theorem pt_hid {e : Expr} {t : TT} (he : PT X e t) : PT X e (tHidT t) := by
  refine ⟨fun pins s σ H Q I h => ?_⟩
  obtain ⟨a, xs, ea, q⟩ := h
  obtain ⟨ob, ho, J⟩ := Inv.hide I ea
  refine thn (he.run _ s σ _ _ J q) fun b s1 ⟨H1, I1, q1⟩ => ?_
  obtain ⟨hn, I2⟩ := Inv.unhide I ea ho I1
  exact ⟨_, I2, q1 hn⟩
end
/-! ### comprehensions over data -/
section
variable {σ : L2.St} {H : Hp} {Q : VK} {te : TE} {t : TT} {K : PySem.W.Frag} {J : It} {n : Nat} {G : Hp → Prop} {vs : List Nat} {ds : List PyData}
theorem DpAll.snoc {K : PySem.W.Frag} {H : Hp} : ∀ {vs : List V} {ds : List PyData} {v : V} {d : PyData}, DpAll K H vs ds → Dp K H v d → DpAll K H (vs ++ [v]) (ds ++ [d])
  | _, _, _, _, .nil, h => .cons h .nil
  | _, _, _, _, .cons h r, q => .cons h (DpAll.snoc r q)
/-- the turns' word: B the heap without the new list -/
def LcW (K : PySem.W.Frag) (H : Hp) (p : Addr) (ds : List PyData) (H' : Hp) : Prop := ∃ (B : Hp) (ys : List V), H' = upd B p (.lst ys) ∧ B p = none ∧ L2.Same H B ∧ DpAll K B ys ds
theorem take_snoc {α : Type} {l : List α} {i : Nat} {x : α} (h : l[i]? = some x) : l.take (i + 1) = l.take i ++ [x] := by
  rw [List.take_add_one, h]
  rfl
theorem g_yes {q : Bool → Hp → Prop} (h : q true H) : tYes σ H q := h
/-- one turn's element -/
theorem lcw_elt {p : Addr} {es : List PyData} {d : PyData} {H' : Hp} {σ2 : L2.St} (w : LcW K H p es H') (hz : es.length < 100000) (he : ∀ B, L2.Same H B → ∀ q : VK, (∀ v B', L2.Same B B' → Dp K B' v d → q v B') → te σ2 B q) {N : Hp → Prop} (hN : ∀ H'', LcW K H p (es ++ [d]) H'' → N H'') :
    tHid te σ2 H' fun y H4 => ∃ acc, H4 p = some (.lst acc) ∧ acc.length < sizeLine ∧ N (upd H4 p (.lst (acc ++ [y]))) := by
  obtain ⟨B, ys, rfl, hB, sm, dp⟩ := w
  refine ⟨p, ys, upd_same, ?_⟩
  rw [hid_upd hB]
  refine he B sm _ fun v B' sm' dv hn => ⟨ys, upd_same, ?_, hN _ ⟨B', ys ++ [v], ?_, hn, sm.trans sm', DpAll.snoc (DpAll.mono sm' dp) dv⟩⟩
  · rw [DpAll.len dp]
    exact Nat.lt_of_lt_of_le hz (by decide)
  · rw [upd_upd]
theorem lcw_test {p : Addr} {es : List PyData} {H' : Hp} {σ2 : L2.St} {k : Bool} (w : LcW K H p es H') (he : ∀ B, L2.Same H B → ∀ q : Bool → Hp → Prop, (∀ B', L2.Same B B' → q k B') → t σ2 B q) {q : Bool → Hp → Prop} (hN : ∀ H'', LcW K H p es H'' → q k H'') : tHidT t σ2 H' q := by
  obtain ⟨B, ys, rfl, hB, sm, dp⟩ := w
  refine ⟨p, ys, upd_same, ?_⟩
  rw [hid_upd hB]
  exact he B sm _ fun B' sm' hn => hN _ ⟨B', ys, rfl, hn, sm.trans sm', DpAll.mono sm' dp⟩
theorem lcw_start {p : Addr} (h : H p = none) : LcW K H p [] (upd H p (.lst [])) := ⟨H, [], rfl, h, L2.Same.refl H, .nil⟩
theorem lcw_end {p : Addr} {H' : Hp} (w : LcW K H p ds H') (k : ∀ p H', H p = none → L2.Same H H' → (∃ ys, H' p = some (.lst ys) ∧ DpAll K H' ys ds) → Q (.ref p) H') : Q (.ref p) H' := by
  obtain ⟨B, ys, rfl, hB, sm, dp⟩ := w
  exact k p _ (sm.free hB) (sm.trans (same_new hB)) ⟨ys, upd_same, DpAll.mono (same_new hB) dp⟩
theorem lcw_same {p a : Addr} {H' : Hp} {o : HO} (w : LcW K H p ds H') (e : H a = some o) : H' a = some o := by
  obtain ⟨B, ys, rfl, hB, sm, dp⟩ := w
  exact sm.trans (same_new hB) _ _ e
/-- [e for x in xs] over a list or tuple that stands -/
theorem lc_dp {xs : List V} {a : Addr} {j : Nat} (sg : V → L2.St) (ds : List PyData) (w : Walk J xs.length G (YAt xs)) (hG : ∀ H', (∀ o, H a = some o → H' a = some o) → G H') (hl : ds.length = xs.length) (hz : ds.length ≤ 100000) (hg : ∀ x, (wipe σ vs).set j (some x) = sg x) (hw : ∀ x, wipe (sg x) vs = wipe σ vs)
    (he : ∀ (i : Nat) (x : V) (d : PyData) (B : Hp), xs[i]? = some x → ds[i]? = some d → L2.Same H B → ∀ q : VK, (∀ v B', L2.Same B B' → Dp K B' v d → q v B') → te (sg x) B q)
    (k : ∀ p H', H p = none → L2.Same H H' → (∃ ys, H' p = some (.lst ys) ∧ DpAll K H' ys ds) → Q (.ref p) H') : LC J (gName j) tYes (tHid te) vs σ Q H := by
  intro D hD
  refine lc_it (Qd := fun H' => Q (.ref D) H') w (fun i H' => LcW K H D (ds.take i) H') (lcw_start hD) (fun i H' _ p => hG H' fun o e => lcw_same p e) (fun i x H1 H2 hi p y => ?_) (fun H' p => ?_)
  · obtain ⟨rfl, y⟩ := y
    obtain ⟨d, hd⟩ : ∃ d, ds[i]? = some d := ⟨ds[i]'(by omega), by simp⟩
    show wipe ((wipe σ vs).set j (some x)) vs = wipe σ vs ∧ tYes ((wipe σ vs).set j (some x)) _ _
    rw [hg]
    refine ⟨hw x, ?_⟩
    refine g_yes (g_iteT ?_)
    refine lcw_elt p (by rw [List.length_take]; omega) (fun B sm q hq => he i x d B y hd sm q hq) fun H'' p' => ?_
    rw [take_snoc hd]
    exact p'
  · rw [List.take_of_length_le (by omega)] at p
    exact lcw_end p k
/-- .. over a range -/
theorem lc_dpR {lo : Int} {j : Nat} (sg : V → L2.St) (ds : List PyData) (hl : ds.length = n) (hz : ds.length ≤ 100000) (hg : ∀ x, (wipe σ vs).set j (some x) = sg x) (hw : ∀ x, wipe (sg x) vs = wipe σ vs)
    (he : ∀ (i : Nat) (d : PyData) (B : Hp), i < n → ds[i]? = some d → L2.Same H B → ∀ q : VK, (∀ v B', L2.Same B B' → Dp K B' v d → q v B') → te (sg (.int (lo + i))) B q)
    (k : ∀ p H', H p = none → L2.Same H H' → (∃ ys, H' p = some (.lst ys) ∧ DpAll K H' ys ds) → Q (.ref p) H') : LC (Itr lo n) (gName j) tYes (tHid te) vs σ Q H := by
  intro D hD
  refine lc_it (Qd := fun H' => Q (.ref D) H') walk_range (fun i H' => LcW K H D (ds.take i) H') (lcw_start hD) (fun i H' _ p => True.intro) (fun i x H1 H2 hi p y => ?_) (fun H' p => ?_)
  · obtain ⟨rfl, rfl⟩ := y
    obtain ⟨d, hd⟩ : ∃ d, ds[i]? = some d := ⟨ds[i]'(by omega), by simp⟩
    show wipe ((wipe σ vs).set j (some (.int (lo + i)))) vs = wipe σ vs ∧ tYes ((wipe σ vs).set j (some (.int (lo + i)))) _ _
    rw [hg]
    refine ⟨hw _, ?_⟩
    refine g_yes (g_iteT ?_)
    refine lcw_elt p (by rw [List.length_take]; omega) (fun B sm q hq => he i d B hi hd sm q hq) fun H'' p' => ?_
    rw [take_snoc hd]
    exact p'
  · rw [List.take_of_length_le (by omega)] at p
    exact lcw_end p k
end
end Wk

set_option Elab.async false
set_option linter.all false
set_option maxRecDepth 100000
set_option maxHeartbeats 4000000
/-! WExc: errors of the program's own, raised, caught, told. -/
namespace Wk
open PySem PySem.Spec PyProof.Rows L2
section
variable {X : Cx}
/-- C.m(e, ..), m a def in the class C -/
theorem pe_cfun {CX : CXT} {x m : Str} {C f : Addr} {mc : Value} {k : Nat} {fd : FuncData} {ps : List Str} {sp : Sp} {ds : List Value} {dvs : List V} {E : XK} {e : Expr} {es : List Expr} {t : TA} {p1 p2 pos : Pos} {pl : Sem Bool}
    (hg : Gl X x) (hm : X.mg x = some (.ref C)) (r : ClX.CRead X.K C mc) (c : PySem.W.findCls X.K (.ref C) mc m = some (.val (.ref f))) (F : FnOk X.prog X.w X.K X.mg X.base CX k f fd ps sp) (hr : Room k X.A) (hk : PySem.W.keepIn X.K (.ref f) = true)
    (hb : Binds X.K fd ps ds) (hd : Vals dvs ds) (hx : Passes CX X E) (ha : PA X (e :: es) t) (hdb : (x == ("__debug__" : Str)) = false := by decide)
    (hst : starEach (e :: es) X.env = (false, eval e X.env) :: starEach es X.env := by rfl) (hpl : (backTo pos (starEach es X.env)).any (·.1) = false := by rfl)
    (ht : eval (.Call (.Attribute (.Name x p1) m p2) (e :: es) [] pos) X.env = (do
      let ov ← eval (.Name x p1) X.env
      standAt p2.atName
      let (f, first) ← holding [ov] (getMethod ov m pl)
      callWith pos f first (backTo pos (starEach (e :: es) X.env)) (backToKw pos (keywordEach [] X.env))) := by rfl) :
    PE X (.Call (.Attribute (.Name x p1) m p2) (e :: es) [] pos) (tCall sp dvs E t) := by
  refine ⟨fun pins s σ H Q I h => ?_⟩
  refine PySem.W.methodCall_KW (pl := pl) (ld_glob I hg hm ?_ hdb) ht
  refine PySem.W.method_cls I.kIn r.ga (ClX.getcval_ok (v := .ref f) I r ⟨c, rfl⟩ fun s' I' => ?_)
  refine PySem.W.callWith_K (h₀ := X.base) I'.ok.mod.kin hk (thn (ha.run pos pins s' σ H _ I' h) fun us s1 ⟨vs, H1, I1, rv, q⟩ => ⟨I1.kIn, ?_⟩) hst hpl
  exact run_fn F hr hb hd hx I1 rv q
/-- C(), C's own __init__ keeping sp -/
theorem pmk_oex0 {CX : CXT} {x : Str} {C fI : Addr} {k : Nat} {fd : FuncData} {ps : List Str} {sp : Sp} {ds : List Value} {dvs : List V} {p pos : Pos} (T : OexC X.K C) (iC : PySem.W.findIn X.K (.ref C) "__init__" = some (some (.ref fI))) (tI : PySem.W.typeIn X.K (.ref fI) = some (.type "function"))
    (F1 : FnOk X.prog X.w X.K X.mg X.base CX k fI fd ps sp) (hr : Room (k + 1) X.A) (hb : Binds X.K fd ps ds) (hd : Vals dvs ds) (hx : Passes CX X (fun _ _ _ => False)) (hg : Gl X x) (hm : X.mg x = some (.ref C))
    (hdb : (x == ("__debug__" : Str)) = false := by decide) : PMk X (.Call (.Name x p) [] [] pos) (tMkO C sp dvs tNil) := by
  intro pins s σ H Q I h
  obtain ⟨nm, q, N, bs, bm, sn, sub, ab, col, dd, k0, k1, k2, k3, k5, hC, hbm⟩ := T.cls
  refine wpAny_Call_Name_kw (ld_glob I hg hm ?_ hdb)
  refine PySem.W.callWith_K0 I.kIn T.kC ?_
  show wpAny _ _ (call (.ref C) []) _ _ _
  obtain ⟨hz, q1⟩ := h
  obtain ⟨hp, g, dr, tk, os⟩ := s
  have hsz : hp.objs.size ≤ hp.objs.size + 1 := Nat.le_succ _
  have hn : H (hp.objs.size + 1) = none := I.hok.fresh hsz
  have hq := q1 (hp.objs.size + 1) hn
  rw [List.nil_append] at hq
  have kk : ∀ b o, hp.get? b = some o → ((hp.push (PySem.W.kdv_tup [])).push (PySem.HandSPX.excO C hp.objs.size)).get? b = some o := fun b o e => Heap.get?_push_of_some _ (Heap.get?_push_of_some _ e)
  have hget : ((hp.push (PySem.W.kdv_tup [])).push (PySem.HandSPX.excO C hp.objs.size)).get? (hp.objs.size + 1) = some (PySem.HandSPX.excO C hp.objs.size) := by heap_get
  have I2 : Inv X pins σ (upd H (hp.objs.size + 1) (exo (hp.objs.size + 1) C none)) ⟨(hp.push (PySem.W.kdv_tup [])).push (PySem.HandSPX.excO C hp.objs.size), g, dr, tk, os⟩ :=
    I.laid (t' := tk) (a := hp.objs.size + 1) (o := exo (hp.objs.size + 1) C none) (h' := (hp.push (PySem.W.kdv_tup [])).push (PySem.HandSPX.excO C hp.objs.size)) kk hsz (exo_ok hget)
  have r2 : Vals (V.ref (hp.objs.size + 1) :: dvs) (Value.ref (hp.objs.size + 1) :: ds) := .cons rfl hd
  have hb2 := hb ⟨(hp.push (PySem.W.kdv_tup [])).push (PySem.HandSPX.excO C hp.objs.size), g, dr, tk, os⟩ [Value.ref (hp.objs.size + 1)] I2.kIn
  rw [List.singleton_append] at hb2
  have hl : (Value.ref (hp.objs.size + 1) :: ds).length = ps.length := by
    have e := r2.length
    rw [F1.len _ _ _ _ hq] at e
    exact e.symm
  refine wpAny_call (PySem.HandSPX.call_own F.excBase_ValueError (fun Y => PySem.HandSPX.refsVE_contains Y bm hbm) (I.kIn _ _ hC) (PySem.W.looks_findIn I.kIn iC) (fun self => PySem.W.bind_fn I.kIn self tI) (Nat.zero_le _)
    (codeAny_mono (F1.run _ X.stack _ _ ⟨[Value.ref (hp.objs.size + 1)], []⟩ (Value.ref (hp.objs.size + 1) :: ds) _ _ (fun _ _ _ => False) (hr.make C [] []) (I2.env0.make C [] []) (hb2 hl) r2 hq) fun r s' hq' => ?_))
  cases r with
  | error er => exact hx pins σ _ _ er s' I2 hq'
  | ok fl =>
    cases fl with
    | ret u =>
      obtain ⟨v, H2, os2, bare2, un2, hok2, rv, ev, d, fs, ea, ed, hd1, q2⟩ := hq'
      subst ev
      obtain ⟨h2, g2, d2, t2, os'⟩ := s'
      exact ⟨rv, mk_end (raises_own T.exC T.tyC) I hsz kk un2 hok2 os2 bare2 ea ed hd1 q2⟩
    | next => exact False.elim hq'
    | brk => exact False.elim hq'
    | cont => exact False.elim hq'
/-- a caught error's field: its class is told where it is read -/
def tXfA (K : PySem.W.Frag) (a : Addr) (cls : Value) (d : Option Addr) (f : Str) (te : TE) : TE := fun σ H Q => te σ H fun x H1 => x = .ref a ∧ ∃ C : Addr, cls = .ref C ∧ XfC K C ∧ PySem.W.findIn K (.ref C) f = some none ∧ ∃ (dd : Addr) (fs : List (Str × V)) (v : V), d = some dd ∧ H1 dd = some (.xd fs) ∧ fs.lookup f = some v ∧ Q v H1
theorem pe_xfA {a : Addr} {oe : Obj} {cls : Value} {d : Option Addr} {pn : List (Addr × Obj)} {e : Expr} {te : TE} {pos : Pos} {n : Str} (hz : Zc cls d oe) (hf : ∃ vs, oe.data = .fields vs) (he : PE (X.suite a ((a, oe) :: pn)) e te) (hb : attributeBase e n X.env (eval e X.env) = eval e X.env := by rfl) :
    PE (X.suite a ((a, oe) :: pn)) (.Attribute e n pos) (tXfA X.K a cls d n te) := by
  refine ⟨fun pins s σ H Q I h => ?_⟩
  refine attr_of hb (thn (he.run pins s σ H _ I h) fun u s1 hh => ?_)
  obtain ⟨x, H1, I1, rx, ex, C, ec, T, hno, dd, fs, v, ed, ea, l, q⟩ := hh
  subst ex
  obtain rfl : u = Value.ref a := rx
  subst ec
  subst ed
  have ha := (I1.pin (a, oe) (List.mem_append_left _ List.mem_cons_self)).1
  obtain ⟨vs, hd⟩ := hf
  obtain ⟨mA, hns, hr⟩ : ObjOk X.prog X.w H1 s1.heap dd (.xd fs) := I1.hok dd _ ea
  obtain ⟨od, ho, hl⟩ := lookIn_ns hns
  obtain ⟨u, hu, ru⟩ := RelO.some_of (v := v) (o := mA n) (by rw [← l]; exact hr n)
  have J : PySem.W.InstAt s1.heap a oe C (some od) := ⟨ha, hz.1, by unfold PySem.W.notCls; rw [hd] <;> rfl, by rw [hz.2]; exact ho⟩
  exact HandSPX.exc_get I1.kIn J T.ga T.gg T.exC (PySem.W.findObj_own T.hdC hno rfl (by rw [hl, hu])) (handed_of ru) ⟨v, H1, I1.tok _, ru, q⟩
end

/-! ### several clauses with a name -/
/-- what the clauses wish: slot i is the name's -/
def wAsMany (K : PySem.W.Frag) (i : Nat) (Wout : WX) (D : Ends) : List (Value × (Addr → Value → Option Addr → TS)) → WX
  | [] => Wout
  | (c, ts) :: r => fun cls d σ H => ∃ b, PySem.W.exmOne K cls c = some b ∧
      (b = true → ∀ a, H a = none → ts a cls d ⟨fun σ' H' => D.nx (σ'.set i none) H', D.rt, fun σ' H' => D.bk (σ'.set i none) H', fun σ' H' => D.ct (σ'.set i none) H'⟩ (σ.set i (some (.ref a))) H) ∧ (b = false → wAsMany K i Wout D r cls d σ H)
inductive HdsAs (X : Cx) (n : Str) : List ExceptHandler → List (Value × (Addr → Value → Option Addr → TS)) → Prop
  | nil : HdsAs X n [] []
  | cons {x : Str} {c : Value} {ts : Addr → Value → Option Addr → TS} {b0 : Stmt} {suite : List Stmt} {np pos' : Pos} {hds : List ExceptHandler} {l : List (Value × (Addr → Value → Option Addr → TS))} (hc : Names X x c)
      (hsu : ∀ (a : Addr) (oe : Obj) (cls : Value) (d : Option Addr) (pn : List (Addr × Obj)), Zc cls d oe → (∃ vs, oe.data = .fields vs) → PSs (X.suite a ((a, oe) :: pn)) (b0 :: suite) (ts a cls d)) (r : HdsAs X n hds l) :
      HdsAs X n (.ExceptHandler (some (.Name x np)) (some n) (b0 :: suite) pos' :: hds) ((c, ts) :: l)
section
variable {X : Cx} {n : Str} {i : Nat} {body : List Stmt} {h0 : ExceptHandler} {hds : List ExceptHandler} {l : List (Value × (Addr → Value → Option Addr → TS))} {pos : Pos} {tb : WX → TS} {Wout : WX}
theorem ps_try_asMany (hs : X.stack = X.env :: X.outer) (hf : X.env.frame = some X.env.locals) (hN : X.N.Nodup) (hi : X.N[i]? = some n) (hln : X.env.kindOf n = some .local) (tk : Takes X Wout)
    (hb : ∀ (W : WX) (pn : List (Addr × Obj)) (xe : Value → Shared → Prop), Takes (X.tr pn xe) W → PassesOwn (model X.prog X.w) X.A X.env xe → PSs (X.tr pn xe) body (tb W))
    (hh : HdsAs X n (h0 :: hds) l) : PS X (.Try body (h0 :: hds) [] [] pos) (fun D σ H => tb (wAsMany X.K i Wout D l) D σ H) := by
  refine ⟨fun pins s σ H D I h => ?_⟩
  have ok := I.ok
  have hfr : X.A.frames = some (X.env :: X.outer) := by rw [ok.frames, hs]
  have hloc : Loc X.env.scope n := .inl hln
  refine wpAny_Try_except ?_
  refine wpAny_mono ((hb (wAsMany X.K i Wout D l) (X.pn ++ pins) (fun e s1 => wpAny (model X.prog X.w) X.A (noteFrame e X.env) (fun _ s2 => wpAny (model X.prog X.w) X.A (setFlight e none) (fun _ s3 =>
    wpAny (model X.prog X.w) X.A (handleBy e X.env (h0 :: hds)) (SP X pins D) X.xe s3) X.xe s2) X.xe s1) (fun u s' xx => ?_) PassesOwn.looking).run [] s σ H D (I.toTry _) h) (fun f s1 hsp => ?_) (fun e s1 he => he)
  · obtain ⟨a, B, sI, pins', σ', H', cls, d, rfl, J', nb, up, sky, na, os, ag, wsh⟩ := xx
    have J : Inv X pins σ' H' sI := J'.ofTry ok
    have skyE : Sky B (X.env :: X.outer) a (Zc cls d) X.env.locals s'.heap := by rw [← hs]; exact sky
    show wpAny (model X.prog X.w) X.A (noteFrame (.ref a) X.env) _ _ _
    refine Sky.land Zc.steady hfr hf skyE fun h3 fl3 up3 => ?_
    have J3 : Inv X pins σ' H' { s' with heap := h3 } := J.landed nb fl3.1 (up.trans up3) os ag
    obtain ⟨oe3, vs3, he3, hz3, hd3⟩ := fl3.there
    have nfr : a ∉ frs (X.env :: X.outer) := fun hm => by
      obtain ⟨_, o', e', hnf⟩ := fl3.2.2.1.mem hm
      rw [he3] at e'
      cases e'
      exact hnf _ hd3
    have nL : a ≠ X.env.locals := fun z => nfr (List.mem_filterMap.mpr ⟨X.env, List.mem_cons_self, by rw [hf, z]⟩)
    have nF : a ∉ X.fs := fun hm => by
      obtain ⟨e, he, q⟩ := List.mem_filterMap.mp hm
      exact nfr (List.mem_filterMap.mpr ⟨e, List.mem_cons_of_mem _ he, q⟩)
    have S3 := J3.suite he3 hd3 na nL nF
    have LT : PySem.W.Looks (model X.prog X.w) h3 (typeOf (.ref a)) cls := fun A Q E s k q => wpAny_typeOf_ref (k _ _ he3) (by rw [hz3.1]; exact q)
    have go : ∀ {hds' : List ExceptHandler} {l' : List (Value × (Addr → Value → Option Addr → TS))}, HdsAs X n hds' l' → wAsMany X.K i Wout D l' cls d σ' H' →
        wpAny (model X.prog X.w) X.A (handleBy (.ref a) X.env hds') (SP X pins D) X.xe { s' with heap := h3 } := by
      intro hds' l' hk
      induction hk with
      | nil =>
        intro wz
        refine wpAny_handleBy_nil ?_
        obtain ⟨k1, k2, k3, oe, vs, T, oT, ts', he, hz, hd, h1, hr⟩ := id fl3
        unfold PySem.passOn
        refine wpAny_bind (wpAny_field he hd h1 ?_)
        rw [if_neg (show ¬ ((Value.ref T == Value.none) = true) from by simp)]
        have fin : wpAny (model X.prog X.w) X.A (setFlight (.ref a) X.env.frame) (fun _ s4 => wpAny (model X.prog X.w) X.A (throw (.ref a) : Sem Flow) (SP X pins D) X.xe s4) X.xe { s' with heap := h3 } := by
          rw [hf]
          refine HandSPX.setFlight_upZ fl3 fun h4 hh4 up4 => wpAny_throw (tk _ _ ?_)
          exact ⟨a, B, sI, pins, σ', H', cls, d, rfl, J, nb, (up.trans up3).trans up4, .inr (.inr (by rw [hs]; exact hh4)), na, os, ag, wz⟩
        first
          | exact wpAny_bind (wpAny_pure (wpAny_bind fin))
          | exact wpAny_bind fin
      | @cons x c ts b0 suite np pos' hds2 l2 hc hsu r ih =>
        intro wz
        obtain ⟨b, hb1, hyes, hno⟩ := wz
        refine wpAny_handleBy_cons (codeAny_handlers_test ?_) (by intro q; cases q)
        have LM := PySem.W.exm_one (M := model X.prog X.w) (J3.kIn) LT hb1
        have test : ∀ {Q : Value → Shared → Prop} {E : Value → Shared → Prop}, Q c { s' with heap := h3 } → wpAny (model X.prog X.w) (X.A.mark (some (.ref a))) (eval (.Name x np) X.env) Q E { s' with heap := h3 } := fun {Q E} q => by
          obtain ⟨hg, hdbg, hm | ⟨hm, hv, hnn⟩⟩ := hc
          · exact ld_glob (X := X.suite a ((a, oe3) :: (X.pn ++ pins))) S3 hg hm q hdbg
          · exact ld_blt (X := X.suite a ((a, oe3) :: (X.pn ++ pins))) S3 hg hm hv q hnn hdbg
        refine test (LM.here ?_)
        cases b with
        | false =>
          show wpAny _ X.A (handleBy (.ref a) X.env hds2) _ _ _
          exact ih (hno rfl)
        | true =>
          refine codeAny_handlers_suite_as ?_
          refine HandSPX.lands_againZ fl3 fun h4 fl4 up4 => ?_
          have J4 : Inv X pins σ' H' { s' with heap := h4 } := J.landed nb fl4.1 ((up.trans up3).trans up4) os ag
          obtain ⟨oe4, vs4, he4, hz4, hd4⟩ := fl4.there
          have S4 := J4.suite he4 hd4 na nL nF
          refine store_ok (X := X.suite a ((a, oe4) :: (X.pn ++ pins))) (v := .ref a) S4 hN hi hloc rfl (fun s5 S5 => ?_) (.inr hln)
          refine wpAny_mono ((hsu a oe4 cls d (X.pn ++ pins) hz4 ⟨_, hd4⟩).run [] s5 _ H' _ S5 (hyes rfl a na)) (fun f s6 hsp => ?_) (fun _ _ z => False.elim z)
          have end_ : ∀ {σ6 : L2.St} {H6 : Hp} {Q : Shared → Prop}, Inv (X.suite a ((a, oe4) :: (X.pn ++ pins))) [] σ6 H6 s6 → (∀ s7, Inv X pins (σ6.set i none) H6 s7 → Q s7) →
              wpAny (model X.prog X.w) X.A (do bindName X.env n .none; unbindBehindTheSuite X.env n pos') (fun _ s7 => Q s7) X.xe s6 := fun {σ6 H6 Q} S6 hq => gone_ok (S6.unsuite ok) hN hi hln hq
          cases f with
          | next =>
            obtain ⟨σ6, H6, S6, q6⟩ := hsp
            exact end_ S6 fun s7 J7 => ⟨_, _, J7, q6⟩
          | brk =>
            obtain ⟨σ6, H6, S6, q6⟩ := hsp
            exact end_ S6 fun s7 J7 => ⟨_, _, J7, q6⟩
          | cont =>
            obtain ⟨σ6, H6, S6, q6⟩ := hsp
            exact end_ S6 fun s7 J7 => ⟨_, _, J7, q6⟩
          | ret u =>
            obtain ⟨v6, σ6, H6, S6, r6, q6⟩ := hsp
            exact end_ S6 fun s7 J7 => ⟨_, _, _, J7, r6, q6⟩
    exact go hh wsh
  · cases f with
    | next =>
      obtain ⟨σ', H', J', q⟩ := hsp
      exact wpAny_execs_nil ⟨σ', H', J'.ofTry ok, q⟩
    | brk =>
      obtain ⟨σ', H', J', q⟩ := hsp
      exact ⟨σ', H', J'.ofTry ok, q⟩
    | cont =>
      obtain ⟨σ', H', J', q⟩ := hsp
      exact ⟨σ', H', J'.ofTry ok, q⟩
    | ret u =>
      obtain ⟨v, σ', H', J', r, q⟩ := hsp
      exact ⟨v, σ', H', J'.ofTry ok, r, q⟩
end

/-! ### a def as it stands behind the top, whatever its defaults -/
structure FunA (K : PySem.W.Frag) (x qual : Str) (st : Stmt) (f : Addr) (fd : FuncData) : Prop where
  ex : ∃ (oc : Value) (od : Option Addr) (dV kV doc pm : Value) (an : Option Addr) (cdv ct : Value) (osl : Array (Option Value)),
    fd = PySem.W.fnOf x qual (defArgs st) (defBody st) (defScope st) dV kV doc pm an cdv ct ∧ K.lookup f = some ⟨oc, od, .func fd, osl⟩ ∧ PySem.W.codeIn K cdv qual = true
  kp : PySem.W.keepIn K (.ref f) = true
section
variable {P : Program} {w : World} {K : PySem.W.Frag} {mg : Str → Option Value} {base : Heap}
theorem FunA.okX {x qual : Str} {st : Stmt} {f : Addr} {fd : FuncData} {N ps : List Str} {k : Nat} {sp : Sp} (F : FunA K x qual st f fd) (S : FnScope N ps (defScope st)) (len : ∀ vs H Q E, sp vs H Q E → vs.length = ps.length)
    (hbody : ∀ (cdv : Value) (A : Around) (outer : List Env) (s : Shared) (H : Hp) (vs : List V) (Q : VK) (E : XK), Room k (A.deeper (envOfC qual (defScope st) s.heap.objs.size f cdv)) → sp vs H Q E →
      ∃ t, PSs (cxOf (L2.CX P w) P w K mg base N qual (defScope st) f cdv A outer s H E) (defBody st) t ∧ t { nx := fun _ H' => Q .non H', rt := Q } (L2.start N vs) H) : FnOk P w K mg base (L2.CX P w) (k + 1) f fd ps sp := by
  obtain ⟨oc, od, dV, kV, doc, pm, an, cdv, ct, osl, rfl, lk, hcd⟩ := F.ex
  exact fn_of lk hcd S len fun A outer s H vs Q E hr hsp => hbody cdv A outer s H vs Q E hr hsp
/-- .. its code object told -/
structure FunC (K : PySem.W.Frag) (x qual : Str) (st : Stmt) (f : Addr) (fd : FuncData) (c : Addr) : Prop where
  ex : ∃ (oc : Value) (od : Option Addr) (dV kV doc pm : Value) (an : Option Addr) (ct : Value) (osl : Array (Option Value)),
    fd = PySem.W.fnOf x qual (defArgs st) (defBody st) (defScope st) dV kV doc pm an (.ref c) ct ∧ K.lookup f = some ⟨oc, od, .func fd, osl⟩ ∧ PySem.W.codeIn K (.ref c) qual = true
  kp : PySem.W.keepIn K (.ref f) = true
theorem FunC.okX {x qual : Str} {st : Stmt} {f c : Addr} {fd : FuncData} {N ps : List Str} {k : Nat} {sp : Sp} (F : FunC K x qual st f fd c) (S : FnScope N ps (defScope st)) (len : ∀ vs H Q E, sp vs H Q E → vs.length = ps.length)
    (hbody : ∀ (A : Around) (outer : List Env) (s : Shared) (H : Hp) (vs : List V) (Q : VK) (E : XK), Room k (A.deeper (envOfC qual (defScope st) s.heap.objs.size f (.ref c))) → sp vs H Q E →
      ∃ t, PSs (cxOf (L2.CX P w) P w K mg base N qual (defScope st) f (.ref c) A outer s H E) (defBody st) t ∧ t { nx := fun _ H' => Q .non H', rt := Q } (L2.start N vs) H) : FnOk P w K mg base (L2.CX P w) (k + 1) f fd ps sp := by
  obtain ⟨oc, od, dV, kV, doc, pm, an, ct, osl, rfl, lk, hcd⟩ := F.ex
  exact fn_of lk hcd S len fun A outer s H vs Q E hr hsp => hbody A outer s H vs Q E hr hsp
end
/-- a def with defaults or keywords; ds: the values of its defaults -/
structure FnK (K : PySem.W.Frag) (mg : Str → Option Value) (x : Str) (st : Stmt) (ps : List Str) (dvs : List V) (n : Nat) (ks : List Str) where
  a : Addr
  fd : FuncData
  F : FunA K x x st a fd
  g : mg x = some (.ref a)
  ds : List Value
  bv : Vals dvs ds
  bd : Binds K fd ps ds
  kb : KBn K fd ps n ks (fun us ws => us ++ ws) (fun vs zs => vs ++ zs)
/-- a def that makes lambdas: c its code object, tb its table -/
structure FnL (K : PySem.W.Frag) (mg : Str → Option Value) (x : Str) (st : Stmt) (ps : List Str) where
  a : Addr
  fd : FuncData
  c : Addr
  tb : Addr
  F : FunC K x x st a fd c
  b : Binds K fd ps []
  g : mg x = some (.ref a)
  ht : PySem.W.tabIn K x = some (c, tb)
/-- a class of errors: its __init__ st -/
structure XcE (K : PySem.W.Frag) (mg : Str → Option Value) (x qual : Str) (st : Stmt) (ps : List Str) where
  C : Addr
  fI : Addr
  fd : FuncData
  gC : mg x = some (.ref C)
  oex : OexC K C
  iC : PySem.W.findIn K (.ref C) "__init__" = some (some (.ref fI))
  tI : PySem.W.typeIn K (.ref fI) = some (.type "function")
  F : FunA K "__init__" qual st fI fd
  b : Binds K fd ps []
  xf : XfC K C
  no : PySem.W.findIn K (.ref C) "word" = some none
/-- .. one whose __init__ is called by others -/
structure XbE (K : PySem.W.Frag) (mg : Str → Option Value) (x qual : Str) (st : Stmt) (ps : List Str) where
  C : Addr
  fI : Addr
  fd : FuncData
  gC : mg x = some (.ref C)
  F : FunA K "__init__" qual st fI fd
  b : Binds K fd ps []
  rd : ClX.CRead K C (.type "type")
  fc : PySem.W.findCls K (.ref C) (.type "type") "__init__" = some (.val (.ref fI))
/-! ### what the makings say -/
/-- self.word = the second one -/
def sp_init1 (K : PySem.W.Frag) : Sp := fun vs H Q _ => ∃ (a C : Addr) (v : V), vs = [.ref a, v] ∧ H a = some (exo a C none) ∧ OexC K C ∧ PySem.W.findIn K (.ref C) "word" = some none ∧ ∀ dx, H dx = none → dx ≠ a → Q .non (upd (upd H dx (exd dx [("word", v)])) a (exo a C (some dx)))
def sp_init0 (K : PySem.W.Frag) (name : Str) : Sp := fun vs H Q _ => ∃ (a C : Addr), vs = [.ref a] ∧ H a = some (exo a C none) ∧ OexC K C ∧ PySem.W.findIn K (.ref C) "word" = some none ∧ ∀ dx, H dx = none → dx ≠ a → Q .non (upd (upd H dx (exd dx [("word", .str name)])) a (exo a C (some dx)))
/-- the wish of an error of the class C with that word -/
def Rz (E : XK) (C : Addr) (name : Str) (H : Hp) : Prop := ∀ d H', L2.Same H H' → H d = none → H' d = some (.xd [("word", .str name)]) → E (.ref C) (some d) H'
theorem Rz.mono {E : XK} {C : Addr} {name : Str} {H H' : Hp} (h : Rz E C name H) (e : L2.Same H H') : Rz E C name H' := fun d H2 s n x => h d H2 (e.trans s) (e.free n) x
theorem Rz.imp {E E' : XK} {C : Addr} {name : Str} {H : Hp} (h : Rz E C name H) (f : ∀ cls d H', E cls d H' → E' cls d H') : Rz E' C name H := fun d H2 s n x => f _ _ _ (h d H2 s n x)
theorem g_raise0 {K : PySem.W.Frag} {C : Addr} {name : Str} {σ : L2.St} {H : Hp} {W : WX} (T : OexC K C) (no : PySem.W.findIn K (.ref C) "word" = some none) (h : Rz (fun cls d H' => W cls d σ H') C name H) : tMkO C (sp_init0 K name) [] tNil σ H (fun cls d H' => W cls d σ H') := by
  refine ⟨Nat.zero_le _, fun a na => ⟨a, C, rfl, upd_same, T, no, fun dx nd ne => ⟨rfl, dx, _, upd_same, ?_, ?_, h dx _ (fun b o e => ?_) ?_ upd_same⟩⟩⟩
  · rw [upd_ne ne, upd_same]
  · rw [upd_ne ne] at nd
    exact nd
  · have hb1 : b ≠ a := ne_of_none e na
    have nd' : H dx = none := by
      rw [upd_ne ne] at nd
      exact nd
    have hb2 : b ≠ dx := ne_of_none e nd'
    rw [upd_ne hb2, del_ne hb1, upd_ne hb1, upd_ne hb2, upd_ne hb1]
    exact e
  · rw [upd_ne ne] at nd
    exact nd
/-! ### calls with one keyword -/
def RN (n n' m : Nat) (p : Prop) : Prop := n = n' ∧ 1 = m ∧ p
instance {n : Nat} {a : Str} {p : Prop} : Stp (RN n n (List.length [a]) p) p := ⟨fun h => ⟨rfl, rfl, h⟩⟩
instance {m : Nat} {sp : Sp} {E : XK} {t0 tk : TE} {σ : L2.St} {H : Hp} {Q : VK} : Stp (tCallN 1 m sp (fun vs zs => vs ++ zs) E (tCons t0 tNil) (tCons tk tNil) σ H Q) (t0 σ H fun x0 H1 => tk σ H1 fun y H2 => RN 1 1 m (sp [x0, y] H2 Q E)) := ⟨fun h => h⟩
instance {m : Nat} {sp : Sp} {E : XK} {t0 t1 tk : TE} {σ : L2.St} {H : Hp} {Q : VK} : Stp (tCallN 2 m sp (fun vs zs => vs ++ zs) E (tCons t0 (tCons t1 tNil)) (tCons tk tNil) σ H Q) (t0 σ H fun x0 H1 => t1 σ H1 fun x1 H2 => tk σ H2 fun y H3 => RN 2 2 m (sp [x0, x1, y] H3 Q E)) := ⟨fun h => h⟩
instance {m : Nat} {sp : Sp} {E : XK} {t0 t1 t2 tk : TE} {σ : L2.St} {H : Hp} {Q : VK} : Stp (tCallN 3 m sp (fun vs zs => vs ++ zs) E (tCons t0 (tCons t1 (tCons t2 tNil))) (tCons tk tNil) σ H Q) (t0 σ H fun x0 H1 => t1 σ H1 fun x1 H2 => t2 σ H2 fun x2 H3 => tk σ H3 fun y H4 => RN 3 3 m (sp [x0, x1, x2, y] H4 Q E)) := ⟨fun h => h⟩
instance {m : Nat} {sp : Sp} {E : XK} {t0 t1 t2 t3 tk : TE} {σ : L2.St} {H : Hp} {Q : VK} : Stp (tCallN 4 m sp (fun vs zs => vs ++ zs) E (tCons t0 (tCons t1 (tCons t2 (tCons t3 tNil)))) (tCons tk tNil) σ H Q) (t0 σ H fun x0 H1 => t1 σ H1 fun x1 H2 => t2 σ H2 fun x2 H3 => t3 σ H3 fun x3 H4 => tk σ H4 fun y H5 => RN 4 4 m (sp [x0, x1, x2, x3, y] H5 Q E)) := ⟨fun h => h⟩
instance {m : Nat} {sp : Sp} {E : XK} {t0 t1 t2 t3 t4 tk : TE} {σ : L2.St} {H : Hp} {Q : VK} : Stp (tCallN 5 m sp (fun vs zs => vs ++ zs) E (tCons t0 (tCons t1 (tCons t2 (tCons t3 (tCons t4 tNil))))) (tCons tk tNil) σ H Q) (t0 σ H fun x0 H1 => t1 σ H1 fun x1 H2 => t2 σ H2 fun x2 H3 => t3 σ H3 fun x3 H4 => t4 σ H4 fun x4 H5 => tk σ H5 fun y H6 => RN 5 5 m (sp [x0, x1, x2, x3, x4, y] H6 Q E)) := ⟨fun h => h⟩
instance {m : Nat} {sp : Sp} {E : XK} {t0 t1 t2 t3 t4 t5 tk : TE} {σ : L2.St} {H : Hp} {Q : VK} : Stp (tCallN 6 m sp (fun vs zs => vs ++ zs) E (tCons t0 (tCons t1 (tCons t2 (tCons t3 (tCons t4 (tCons t5 tNil)))))) (tCons tk tNil) σ H Q) (t0 σ H fun x0 H1 => t1 σ H1 fun x1 H2 => t2 σ H2 fun x2 H3 => t3 σ H3 fun x3 H4 => t4 σ H4 fun x4 H5 => t5 σ H5 fun x5 H6 => tk σ H6 fun y H7 => RN 6 6 m (sp [x0, x1, x2, x3, x4, x5, y] H7 Q E)) := ⟨fun h => h⟩

/-! ### a lambda handed to a def that calls it in a try: what is raised is wished for at that def's slots -/
section
variable {X : Cx} {pins : List (Addr × Obj)} {σ : L2.St} {H HZ : Hp} {s s1 : Shared}
open LamX
theorem pe_actS {CXg : CXT} {Eg : XK} {Ng : List Str} {qg : Str} {sg : Scope} {g f c' : Addr} {cdg pm ctv : Value} {params : Arguments} {body : Expr} {scope : Scope} {k i : Nat} {a : Str} {pn : List (Addr × Obj)} {xe : Value → Shared → Prop} {W : WX} {tb : XK → TE} {p1 p2 : Pos}
    (I : Inv X pins σ H s) (L : LamS X.env.scope scope) (hf : s.heap.get? f = some (PySem.W.kla_obj "<lambda>" (X.env.qual ++ "<lambda>") params body scope (cloFrom X.env.cells scope.names []) pm c' ctv)) (hfn : H f = none) (hfr : f ∉ frs X.stack)
    (hbind : bindArgs (PySem.W.kla_fn "<lambda>" (X.env.qual ++ "<lambda>") params body scope (cloFrom X.env.cells scope.names []) pm (.ref c') ctv) ⟨[], []⟩ = pure [])
    (tk : Takes ((cxOf CXg X.prog X.w X.K X.mg X.base Ng qg sg g cdg X.A X.stack s H Eg).tr pn xe) W) (hr : Room (k + 1) (X.A.deeper (envOfC qg sg s.heap.objs.size g cdg)))
    (hbody : ∀ (E : XK) (A : Around) (outer : List Env) (s : Shared) (H : Hp), Room k (A.deeper (lamEnv X scope s.heap.objs.size f c')) → PE (lamCx X A outer s H E scope f c') body (tb E))
    (hN : Ng[i]? = some a) (hv : Vis sg a) (hd : (a == ("__debug__" : Str)) = false := by decide) (hcd : (a == ("__classdict__" : Str)) = false := by decide) :
    PE ((cxOf CXg X.prog X.w X.K X.mg X.base Ng qg sg g cdg X.A X.stack s H Eg).tr pn xe) (.Call (.Name a p1) [] [] p2)
      (fun σZ HZ Q => σZ[i]? = some (some (.ref f)) ∧ HZ c' = some (CodeO c' (X.env.qual ++ "<lambda>")) ∧ tb (WE W σZ) σ HZ Q) := by
  refine ⟨fun pinsZ sZ σZ HZ Q IZ h => ?_⟩
  obtain ⟨hs, hc, ht⟩ := h
  refine wpAny_Call_Name_kw (thn ((pe_var (pos := p1) (i := i) hN hv hd hcd).run pinsZ sZ σZ HZ (fun v H1 => v = .ref f ∧ H1 = HZ) IZ ⟨.ref f, hs, rfl, rfl⟩) fun u s1 ⟨v, H1, I1, r1, q1⟩ => ?_)
  obtain ⟨ev, eH⟩ := q1
  subst ev
  rw [eH] at I1
  obtain rfl : u = Value.ref f := r1
  have of1 : s1.heap.get? f = some (PySem.W.kla_obj "<lambda>" (X.env.qual ++ "<lambda>") params body scope (cloFrom X.env.cells scope.names []) pm c' ctv) := I1.base.keep f _ hf hfn hfr (fun z => nomatch (show f ∈ ([] : List Addr) from z))
  refine PySem.W.callWith_F0 ⟨_, _, _, _, of1⟩ ?_
  have un : Un (frs X.stack) [] H HZ s.heap s1.heap := I1.base
  obtain ⟨⟨oc, vs, t, hoc, hdc, hvc⟩, _, _⟩ := I1.hok c' _ hc
  have rc : codeAny (model X.prog X.w) (X.A.deeper (envOfC qg sg s.heap.objs.size g cdg)) (.call (.ref f) ⟨[], []⟩) (CR (L2.CX X.prog X.w) (envOfC qg sg s.heap.objs.size g cdg :: X.stack) X.prog X.w HZ s1 Q (WE W σZ)) s1 := by
    refine PySem.W.kla_callFunE hr.depth of1 rfl L.co L.gen rfl ⟨c', oc, vs, t, rfl, hoc, hdc, hvc⟩ ?_
    rw [hbind]
    refine wpAny_pure (wpAny_newFunctionEnv (fun y hy => (L.own y hy).2) (fun y hy => absurd hy (by simp)) (fun h1 hns hsb => ⟨I1.nolimit.fresh _ hsb, ?_⟩) L.kind)
    show codeAny _ _ (.expr body (lamEnv X scope s1.heap.objs.size f c')) _ _
    have kp : ∀ b o, s1.heap.get? b = some o → h1.get? b = some o := fun b o e => hsb.extBut b o (Nat.ne_of_lt (Heap.lt_size e)) (Heap.get?_push_of_some _ e)
    have J : Inv (lamCx X (X.A.deeper (envOfC qg sg s.heap.objs.size g cdg)) (envOfC qg sg s.heap.objs.size g cdg :: X.stack) s1 HZ (WE W σZ) scope f c') [] σ HZ { s1 with heap := h1, toks := s1.toks + ([] : List (Str × Value)).length } :=
      lam_start2 I L I1.env0 hr.hd un hns kp
    refine PySem.W.kla_codeExpr (wpAny_mono ((hbody _ _ _ s1 HZ (hr.deeper _)).run [] _ _ HZ Q J ht) (fun v s' hq => ?_) fun e s' hq => hq)
    obtain ⟨w', H', J', rv, q⟩ := hq
    exact ⟨w', H', J'.os, J'.bare, J'.base, J'.hok, rv, q⟩
  refine wpAny_call (codeAny_mono rc fun r s' hq => ?_)
  cases r with
  | error e => exact passAt tk σZ pinsZ HZ s1 e s' I1 hq
  | ok fl =>
    cases fl with
    | ret u => exact I1.after hq
    | next => exact False.elim hq
    | brk => exact False.elim hq
    | cont => exact False.elim hq
/-- the def that calls what it got, in a try -/
def GivesS (X : Cx) (Ng : List Str) (x : Str) (sg : Scope) (g : Addr) (cdg : Value) (bg : List Stmt) (a : Str) (q : Str) (TT : (XK → Hp → VK → Prop) → Hp → VK → Prop) : Prop :=
  ∀ (f c' : Addr) (s : Shared) (H : Hp) (Q : VK) (tl : XK → Hp → VK → Prop),
    (∀ (W : WX) (pn : List (Addr × Obj)) (xe : Value → Shared → Prop) (p1 p2 : Pos), Takes ((cxOf C8.CX0 X.prog X.w X.K X.mg X.base Ng x sg g cdg X.A X.stack s H C8.E0).tr pn xe) W →
      PE ((cxOf C8.CX0 X.prog X.w X.K X.mg X.base Ng x sg g cdg X.A X.stack s H C8.E0).tr pn xe) (.Call (.Name a p1) [] [] p2) (fun σZ HZ Q => σZ[0]? = some (some (.ref f)) ∧ HZ c' = some (CodeO c' q) ∧ tl (WE W σZ) HZ Q)) →
    H c' = some (CodeO c' q) → TT tl H Q →
    ∃ t, PSs (cxOf C8.CX0 X.prog X.w X.K X.mg X.base Ng x sg g cdg X.A X.stack s H C8.E0).nox bg t ∧ t { nx := fun _ H' => Q .non H', rt := Q } (L2.start Ng [.ref f]) H
theorem pe_lamS {T : List (Addr × Str)} {TT : (XK → Hp → VK → Prop) → Hp → VK → Prop} {x a : Str} {g c P : Addr} {k : Nat} {stg : Stmt} {fdg : FuncData} {Ng : List Str}
    {params : Arguments} {body : Expr} {scope : Scope} {t : XK → TE} {p lpos pos : Pos} (hg : Gl X x) (hm : X.mg x = some (.ref g)) (Fg : Fun X.K x x stg g fdg) (hb : L2.Binds X.K fdg [a] []) (Sg : FnScope Ng [a] (defScope stg)) (hNg : Ng[0]? = some a) (hva : Vis (defScope stg) a)
    (hG : ∀ cdv, GivesS X Ng x (defScope stg) g cdv (defBody stg) a (X.env.qual ++ "<lambda>") TT)
    (TB : TabB X.base X.mg c P) (hcode : X.env.code = .ref c) (hmT : (P, X.env.qual ++ "<lambda>") ∈ T) (hu : ∀ p ∈ T, p.1 = P → p.2 = X.env.qual ++ "<lambda>") (hr : Room (k + 2) X.A) (L : LamS X.env.scope scope) (hdef : defaultsOf params X.env = ([], []))
    (hbind : ∀ (q : Str) (cl : List (Str × Addr)) (pm cv ctv : Value), bindArgs (PySem.W.kla_fn "<lambda>" q params body scope cl pm cv ctv) ⟨[], []⟩ = pure [])
    (hbody : ∀ (E : XK) (A : Around) (outer : List Env) (s : Shared) (H : Hp) (f c' : Addr), Room k (A.deeper (lamEnv X scope s.heap.objs.size f c')) → PE (lamCx X A outer s H E scope f c') body (t E))
    (hdb : (x == ("__debug__" : Str)) = false := by decide) (hd : (a == ("__debug__" : Str)) = false := by decide) (hcd : (a == ("__classdict__" : Str)) = false := by decide) :
    PE X (.Call (.Name x p) [.Lambda params body scope lpos] [] pos) (tLam T TT t) := by
  obtain ⟨oc, od, kV, doc, pm, an, cdv, ct, osl, rfl, lk, hcg⟩ := Fg.ex
  have hk := Fg.kp
  refine ⟨fun pins s σ H Q I h => ?_⟩
  obtain ⟨hT, h⟩ := h
  refine wpAny_Call_Name_kw (ld_glob I hg hm ?_ hdb)
  refine PySem.W.callWith_K (h₀ := X.base) I.ok.mod.kin hk ?_ (by rfl) (by rfl)
  show wpAny _ _ (spliced ((false, eval (.Lambda params body scope lpos) X.env) :: backTo pos (starEach [] X.env))) _ _ s
  refine Calls.spliced_cons (lam_make2 I TB hcode hmT hu hT hdef (L.has I.ok) fun f c' pm' ctv H1 s' I1 eN T1 hf hfn hfr hco => ?_)
  refine Calls.spliced_nil ⟨I1.kIn, ?_⟩
  have rc : codeAny (model X.prog X.w) X.A (.call (.ref g) ⟨[.ref f], []⟩) (CR C8.CX0 X.stack X.prog X.w H1 s' Q C8.E0) s' := by
    refine run_ofS (N := Ng) (ps := [a]) (us := [.ref f]) (vs := [.ref f]) lk hcg Sg hr I1.env0 (hb s' [.ref f] I1.kIn rfl) (.cons rfl .nil) rfl fun hr' => ?_
    obtain ⟨t', ht', hq'⟩ := hG cdv f c' s' H1 Q (fun E H' Q' => t E σ H' Q') (fun W pn xe p1 p2 tk => pe_actS (i := 0) I1 L hf hfn hfr (hbind _ _ _ _ _) tk hr' (fun E A outer s H hr2 => hbody E A outer s H f c' hr2) hNg hva hd hcd) hco (h H1 eN T1)
    exact ⟨t', ht'.nox, hq'⟩
  refine wpAny_call (codeAny_mono rc fun r s2 hq => ?_)
  cases r with
  | error e => exact (show False from hq).elim
  | ok fl =>
    cases fl with
    | ret u => exact I1.after hq
    | next => exact False.elim hq
    | brk => exact False.elim hq
    | cont => exact False.elim hq
end

/-! ### what stands while only the tables of code objects grow -/
theorem extN_l {K : PySem.W.Frag} {H H' : Hp} {a : Addr} {xs : List V} (e : LamX.ExtN H H') (h : SqL K H a xs) : SqL K H' a xs := by
  rcases h with (h | ⟨o, h⟩) | h
  · exact .inl (.inl (e _ _ h fun _ z => nomatch z))
  · exact .inl (.inr ⟨o, e _ _ h fun _ z => nomatch z⟩)
  · exact .inr h
theorem extN_t {K : PySem.W.Frag} {H H' : Hp} {a : Addr} {xs : List V} (e : LamX.ExtN H H') (h : SqT K H a xs) : SqT K H' a xs := by
  rcases h with (h | ⟨o, h⟩) | h
  · exact .inl (.inl (e _ _ h fun _ z => nomatch z))
  · exact .inl (.inr ⟨o, e _ _ h fun _ z => nomatch z⟩)
  · exact .inr h
theorem Sq.monoN {K : PySem.W.Frag} {H H' : Hp} {a : Addr} {xs : List V} (h : Sq K H a xs) (e : LamX.ExtN H H') : Sq K H' a xs := h.imp (extN_l e) (extN_t e)
theorem Drw.monoN {H H' : Hp} {dr : Addr} (h : Drw H dr) (e : LamX.ExtN H H') : Drw H' dr := by
  obtain ⟨cl, ns, h1, h2⟩ := h
  refine ⟨cl, ns, e _ _ h1 (fun ps z => ?_), e _ _ h2 fun _ z => nomatch z⟩
  unfold DrawO at z
  cases z
mutual
theorem Dp.monoN {K : PySem.W.Frag} {H H' : Hp} (e : LamX.ExtN H H') : ∀ {v : V} {d : PyData}, Dp K H v d → Dp K H' v d
  | _, _, .non => .non
  | _, _, .bl b => .bl b
  | _, _, .int i => .int i
  | _, _, .str x => .str x
  | _, _, .lst h a => .lst (extN_l e h) (DpAll.monoN e a)
  | _, _, .tup h a => .tup (extN_t e h) (DpAll.monoN e a)
theorem DpAll.monoN {K : PySem.W.Frag} {H H' : Hp} (e : LamX.ExtN H H') : ∀ {vs : List V} {ds : List PyData}, DpAll K H vs ds → DpAll K H' vs ds
  | _, _, .nil => .nil
  | _, _, .cons h r => .cons (Dp.monoN e h) (DpAll.monoN e r)
end
theorem hp_monoL {H H' : Hp} {a : Addr} {xs : List V} (e : LamX.ExtN H H') (h : H a = some (.lst xs)) : H' a = some (.lst xs) := e _ _ h fun _ z => nomatch z
theorem hp_monoT {H H' : Hp} {a : Addr} {xs : List V} (e : LamX.ExtN H H') (h : H a = some (.tup xs)) : H' a = some (.tup xs) := e _ _ h fun _ z => nomatch z
theorem tabs_mono {L : List (Addr × Str)} {H H' : Hp} (h : LamX.Tabs L H) (e : L2.Same H H') : LamX.Tabs L H' := h.ext e

/-! ### range(n) as a thing, not in it -/
section
variable {X : Cx}
def rRangeV : List V → Hp → VK → Prop := fun vs H Q => ∃ j : Int, vs = [.int j] ∧ ∀ p, H p = none → Q (.ref p) (upd H p (.rng 0 j))
theorem cr_range1 : CallR X (.type "range") rRangeV := by
  intro pins s σ H vs us Q I r h
  obtain ⟨j, rfl, q⟩ := h
  obtain ⟨u1, rfl, rj⟩ := vals1 r
  obtain ⟨t, rfl⟩ := rj
  refine call_range_1 ⟨.ref s.heap.objs.size, upd H s.heap.objs.size (.rng 0 j), I.laid (t' := s.toks + 2) (fun b o e => Heap.get?_push_of_some _ e) (Nat.le_refl _) ?_, rfl, q _ (I.hok.fresh (Nat.le_refl _))⟩
  exact ⟨_, _, _, Heap.get?_push_size _ rfl⟩
def rNotInR : R2 := fun x y H Q => ∃ (i : Int) (a : Addr) (lo hi : Int), x = V.int i ∧ y = V.ref a ∧ H a = some (.rng lo hi) ∧ Q (.bl (!decide (lo ≤ i ∧ i < hi))) H
theorem op_notIn_rng : OpR X (compareOp .NotIn) rNotInR := by
  intro pins s σ H x y v u Q I rx ry h
  obtain ⟨i, a, lo, hi, rfl, rfl, ha, q⟩ := h
  obtain ⟨k, rfl⟩ := rx
  obtain rfl : u = Value.ref a := ry
  obtain ⟨t1, t2, t3, ho⟩ := I.hok a _ ha
  show wpAny _ _ (do return Value.bool (!(← contains (Value.ref a) (Value.int i k)))) _ _ s
  refine wpAny_bind (wpAny_contains_slot (T := "range") ⟨_, ho, rfl⟩ F.slot_range_contains (call_meets F.slot_range_contains ⟨_, ho, rfl⟩ F.entry_range_contains (F.args_range_contains_2 _ _) (q_contains a lo hi i t1 t2 t3 k)
    ⟨ho, wpAny_truthy_bool (wpAny_pure ⟨.bl _, H, I, rfl, ?_⟩)⟩))
  rw [place1]
  exact q
end
theorem g_rangeV {H : Hp} {Q : VK} {j : Int} (q : ∀ p H', H p = none → L2.Same H H' → H' p = some (.rng 0 j) → Q (.ref p) H') : rRangeV [.int j] H Q := ⟨j, rfl, fun p hp => q p _ hp (same_new hp) upd_same⟩
theorem g_notInR {H : Hp} {Q : VK} {i lo hi : Int} {a : Addr} (h : H a = some (.rng lo hi)) (q : Q (.bl (!decide (lo ≤ i ∧ i < hi))) H) : rNotInR (.int i) (.ref a) H Q := ⟨i, a, lo, hi, rfl, rfl, h, q⟩

/-! ### the end -/
theorem walk_W {l : PySem.W.OpenLaw} {n k : Nat} {q : Program} {loose : List Str} {XP : (Str → Option Value) → Heap → Prop} {YP : World → Heap → Prop} {d : DefRec} {K : Params → PySem.W.Frag} {CX : World → CXT} {x : Str}
    (hn : l.most = some n) (hn2 : n ≤ sizeLine) (hdf : d.params.defaults = []) (hr : Room k callerA) (hY : ∀ (w : World) (h : Heap), YP w h → (K w.params).In h)
    (F : ∀ (w : World) (mg : Str → Option Value) (fa : Addr) (h : Heap), (K w.params).In h → h.Ns mainGlobals mg → mg d.name = some (.ref fa) →
      (∀ (y : Str) (c P : Addr) (dr : DefRec), (recsOf q).find? (fun e => e.name == y) = some dr → PySem.W.tabIn (K w.params) y = some (c, P) → PySem.W.CodeHd h c P ∧ h.get? P = some { cls := .none, data := .fields #[] }) → LamX.LawAtS l w (K w.params) (CX w) k n x mg fa h)
    (hCX : ∀ (w : World) (H : Hp) (s : Shared) (e : Value) (s' : Shared), CX w [] H s (fun _ _ _ => False) e s' → False) :
    PySem.W.WalkO q loose XP YP l.row.toRowW d [] (fun f vs => PySem.call f vs) := by
  refine Att.attach_callB hn hdf fun w s0 s1 mg mb fa o pm cd doc a vs ns G Y ho hd hcd hmg hobj hints hlen hbits hg => ?_
  have KX := hY w _ Y
  obtain ⟨fd, cs, sp, hT, nT, C, hb, hsp, hF⟩ := F w mg fa _ KX G.T.g hmg (fun y c P dr h1 h2 => PySem.W.tab_of G.T KX h1 h2)
  exact LamX.law_callTs KX G.T.g G.T.b G.T.builtins G.T.nolimit hg hT nT C G.T.bmain hobj hints (Nat.le_trans hlen hn2) hr hF hb (fun H hH hS => hsp H a ns hlen hbits hH hS) fun H e s' => hCX w H s1 e s'
theorem binds_df {K : PySem.W.Frag} {fd : FuncData} {ps : List Str} {T : Addr} {o : Obj} {its : Array Value} {n : Nat} (lT : K.lookup T = some o) (oT : o.data = .seq its n)
    (h : ∀ us : List Value, us.length = ps.length → ∃ k, bindArgs fd ⟨us, []⟩ = seqItems? (.ref T) >>= k ∧ k (some its) = pure (ps.zip us)) : Binds K fd ps [] := fun s us X hl => by
  rw [List.append_nil] at hl ⊢
  obtain ⟨k, e1, e2⟩ := h us hl
  refine BindsTo.of_looks fun M => ?_
  rw [e1]
  exact looks_items X lT oT (.of_pure e2)
theorem kbn_of {K : PySem.W.Frag} {fd : FuncData} {ps ks : List Str} {n : Nat} (h : ∀ us ws : List Value, us.length = n → ws.length = ks.length → bindArgs fd ⟨us, ks.zip ws⟩ = pure (ps.zip (us ++ ws))) : KBn K fd ps n ks (fun us ws => us ++ ws) (fun vs zs => vs ++ zs) :=
  ⟨fun s us ws _ h1 h2 => .of_eq (h us ws h1 h2), fun r1 r2 => r1.append r2⟩
theorem funD_of {K : PySem.W.Frag} {x : Str} {st : Stmt} {f D : Addr} {kws : List (Str × V)} {oc : Value} {od an : Option Addr} {osl : Array (Option Value)} {doc pm cdv ct : Value}
    (l : K.lookup f = some ⟨oc, od, .func (PySem.W.fnOf x x (defArgs st) (defBody st) (defScope st) .none (.ref D) doc pm an cdv ct), osl⟩) (c : PySem.W.codeIn K cdv x = true) (k : PySem.W.keepIn K (.ref f) = true) (hk : ∀ q ∈ kws, ∃ u, PySem.W.nsIn K D q.1 = some (some u) ∧ RelV q.2 u) :
    FunD K x x (defArgs st) (defBody st) (defScope st) [] kws f (PySem.W.fnOf x x (defArgs st) (defBody st) (defScope st) .none (.ref D) doc pm an cdv ct) :=
  ⟨⟨oc, od, .none, .ref D, doc, pm, an, cdv, ct, osl, rfl, l, c, .inl ⟨rfl, rfl⟩, .inr ⟨D, rfl, hk⟩⟩, k⟩
theorem funA_of {K : PySem.W.Frag} {x qual : Str} {st : Stmt} {f : Addr} {oc : Value} {od an : Option Addr} {osl : Array (Option Value)} {dV kV doc pm cdv ct : Value}
    (l : K.lookup f = some ⟨oc, od, .func (PySem.W.fnOf x qual (defArgs st) (defBody st) (defScope st) dV kV doc pm an cdv ct), osl⟩) (c : PySem.W.codeIn K cdv qual = true) (k : PySem.W.keepIn K (.ref f) = true) :
    FunA K x qual st f (PySem.W.fnOf x qual (defArgs st) (defBody st) (defScope st) dV kV doc pm an cdv ct) := ⟨⟨oc, od, dV, kV, doc, pm, an, cdv, ct, osl, rfl, l, c⟩, k⟩
theorem funC_of {K : PySem.W.Frag} {x qual : Str} {st : Stmt} {f cc : Addr} {oc : Value} {od an : Option Addr} {osl : Array (Option Value)} {dV kV doc pm ct : Value}
    (l : K.lookup f = some ⟨oc, od, .func (PySem.W.fnOf x qual (defArgs st) (defBody st) (defScope st) dV kV doc pm an (.ref cc) ct), osl⟩) (c : PySem.W.codeIn K (.ref cc) qual = true) (k : PySem.W.keepIn K (.ref f) = true) :
    FunC K x qual st f (PySem.W.fnOf x qual (defArgs st) (defBody st) (defScope st) dV kV doc pm an (.ref cc) ct) cc := ⟨⟨oc, od, dV, kV, doc, pm, an, ct, osl, rfl, l, c⟩, k⟩
end Wk

set_option Elab.async false
set_option linter.all false
set_option maxRecDepth 100000
set_option maxHeartbeats 4000000
/-! WSeq: rows of numbers, loops by a measure, comprehensions whose items are drawn. -/
namespace Wk
open PySem PySem.Spec PyProof.Rows L2

/-! ### rows of ints -/
def intsOf : List V → Option (List Int)
  | [] => some []
  | .int n :: vs => match intsOf vs with
    | some ns => some (n :: ns)
    | none => none
  | _ :: _ => none
theorem intsOf_map : ∀ (ns : List Int), intsOf (ns.map V.int) = some ns
  | [] => rfl
  | n :: ns => by
    show (match intsOf (ns.map V.int) with | some ns => some (n :: ns) | none => none) = _
    rw [intsOf_map ns]
theorem intsOf_eq : ∀ {xs : List V} {ns : List Int}, intsOf xs = some ns → xs = ns.map V.int
  | [], _, h => by cases h; rfl
  | .int n :: vs, ns, h => by
    have h' : (match intsOf vs with | some ns => some (n :: ns) | none => none) = some ns := h
    cases e : intsOf vs with
    | none => rw [e] at h'; cases h'
    | some ms =>
      rw [e] at h'
      cases h'
      rw [intsOf_eq e]
      rfl
  | .non :: _, _, h => nomatch h
  | .bl _ :: _, _, h => nomatch h
  | .str _ :: _, _, h => nomatch h
  | .byt _ :: _, _, h => nomatch h
  | .flt _ :: _, _, h => nomatch h
  | .ref _ :: _, _, h => nomatch h
  | .ty _ :: _, _, h => nomatch h
/-- all of them rests -/
def Rests (p : Int) (ns : List Int) : Prop := ∀ n ∈ ns, 0 ≤ n ∧ n < p
instance {p : Int} {ns : List Int} : Decidable (Rests p ns) := by unfold Rests; infer_instance
theorem Rests.nil {p : Int} : Rests p [] := fun _ h => nomatch h
theorem Rests.cons {p n : Int} {ns : List Int} (h : 0 ≤ n ∧ n < p) (r : Rests p ns) : Rests p (n :: ns) := fun m hm => by
  rcases List.mem_cons.mp hm with rfl | hm
  · exact h
  · exact r m hm
theorem Rests.head {p n : Int} {ns : List Int} (h : Rests p (n :: ns)) : 0 ≤ n ∧ n < p := h n List.mem_cons_self
theorem Rests.tail {p n : Int} {ns : List Int} (h : Rests p (n :: ns)) : Rests p ns := fun m hm => h m (List.mem_cons_of_mem _ hm)
theorem Rests.at {p n : Int} {ns : List Int} {i : Nat} (h : Rests p ns) (e : ns[i]? = some n) : 0 ≤ n ∧ n < p := h n (List.mem_of_getElem? e)
theorem Rests.of {p : Int} {ns : List Int} (h : ∀ (i : Nat) n, ns[i]? = some n → 0 ≤ n ∧ n < p) : Rests p ns := fun n hn => by
  obtain ⟨i, hi, e⟩ := List.mem_iff_getElem.mp hn
  exact h i n (by rw [← e]; exact List.getElem?_eq_getElem hi)

theorem ixN_of {n : Nat} {i : Int} (h0 : 0 ≤ i) (h1 : i.toNat < n) : ixN n i = some i.toNat := by
  unfold ixN
  rw [if_pos h0, if_pos (by omega)]
/-! ### while -/
/-- .. a test of the slots alone -/
theorem wh_sig {tc : TT} {tb : TS} {D : Ends} {σ : L2.St} {H : Hp} (W : Nat → L2.St → Hp → Prop) (m : Nat) (w0 : W m σ H) (b : L2.St → Bool) (ht : ∀ m σ H, W m σ H → ∀ Q : Bool → Hp → Prop, Q (b σ) H → tc σ H Q)
    (hs : ∀ m σ H, W m σ H → b σ = true → tb ⟨fun σ' H' => ∃ m', m' < m ∧ W m' σ' H', D.rt, D.nx, fun σ' H' => ∃ m', m' < m ∧ W m' σ' H'⟩ σ H) (hd : ∀ m σ H, W m σ H → b σ = false → D.nx σ H) : tWhile tc tb D σ H := by
  refine ⟨W, ⟨m, w0⟩, fun m σ H w => ht m σ H w _ ?_⟩
  cases e : b σ with
  | false =>
    rw [if_neg Bool.false_ne_true]
    exact hd m σ H w e
  | true =>
    rw [if_pos rfl]
    exact ⟨_, fun _ _ n => n, hs m σ H w e⟩

/-! ### a, b, .. = a list or a tuple -/
def gSqs (K : PySem.W.Frag) (n : Nat) (t : TGs) : TG := fun v σ H Q => ∃ a xs, v = .ref a ∧ Sq K H a xs ∧ xs.length = n ∧ t xs σ H Q
theorem pg_sqsK {X : Cx} (K : PySem.W.Frag) (e : X.K = K) {es : List Expr} {k : Nat} {t : TGs} {n : Nat} {pos : Pos} (hc : X.calm = true) (h : PGs X es t)
    (hn : (assignEach es X.env).length = n := by rfl) (hst : (assignEach es X.env).findIdx? (·.1) = none := by rfl) : PG X (.Tuple es k pos) (gSqs K n t) := by
  subst e
  refine ⟨fun pins s σ H v u Q I r hw => ?_⟩
  obtain ⟨a, xs, e1, hq, hl, hw⟩ := hw
  rcases hq with hq | hq
  · exact (pg_lst hc h hn hst).run pins s σ H v u Q I r ⟨a, xs, e1, hq, hl, hw⟩
  · exact (pg_tup hc h hn hst).run pins s σ H v u Q I r ⟨a, xs, e1, hq, hl, hw⟩
section
variable {σ σ' : L2.St} {H : Hp} {K : PySem.W.Frag} {Q : L2.St → Hp → Prop} {g : TG} {gs : TGs} {te : TE} {D : Ends}
theorem g_sqs {n : Nat} {a : Addr} {xs : List V} (h : Sq K H a xs) (hl : xs.length = n) (q : gs xs σ H Q) : gSqs K n gs (.ref a) σ H Q := ⟨a, xs, rfl, h, hl, q⟩
instance {n : Nat} : Stp (tAsg te (gSqs K n gs) D σ H) (te σ H fun x H1 => gSqs K n gs x σ H1 fun σ H => NX D σ H) := ⟨fun h => h⟩
instance {v : V} {vs : List V} : Stp (gCons g gs (v :: vs) σ H Q) (g v σ H fun σ' H' => gs vs σ' H' Q) := ⟨fun h => ⟨v, vs, rfl, h⟩⟩
instance : Stp (gNil [] σ H Q) (Q σ H) := ⟨fun h => ⟨rfl, h⟩⟩
instance {i : Nat} {v : V} [s : SetL σ i (some v) σ'] : Stp (gName i v σ H Q) (Q σ' H) := ⟨fun h => by
  show Q (σ.set i (some v)) H
  rw [s.eq]
  exact h⟩
instance {i j : Nat} {tA : TA} : Stp (tPar i j tA D σ H) (tA σ H fun vs H1 => ∃ v w, vs = [v, w] ∧ NX D ((σ.set i (some v)).set j (some w)) H1) := ⟨fun h => h⟩
instance {v w : V} {p : V → V → Prop} : Stp (∃ v' w', [v, w] = [v', w'] ∧ p v' w') (p v w) := ⟨fun h => ⟨v, w, rfl, h⟩⟩
instance (priority := high) {a b c : L2.St → Hp → Prop} {rt : VK} {i j : Nat} {z y : Option V} {σ2 : L2.St} [h1 : SetL σ i z σ'] [h2 : SetL σ' j y σ2] : Stp (NX ⟨a, rt, b, c⟩ ((σ.set i z).set j y) H) (a σ2 H) := ⟨fun q => by unfold NX; rw [h1.eq, h2.eq]; exact q⟩
end
/-! ### abs -/
def rAbs : List V → Hp → VK → Prop := fun xs H Q => ∃ i, xs = [.int i] ∧ Q (.int (if i < 0 then -i else i)) H
theorem call_absI {X : Cx} : CallR X (.builtin "abs") rAbs := call_abs
instance {H : Hp} {Q : VK} {i : Int} : Stp (rAbs [.int i] H Q) (Q (.int (if i < 0 then -i else i)) H) := ⟨fun h => ⟨i, rfl, h⟩⟩

/-! ### a list that grows -/
section
variable {σ : L2.St} {H H0 H' : Hp} {Q : VK} {te : TE} {K : PySem.W.Frag} {p : Addr} {ds : List PyData}
theorem lcw_of {ys : List V} (n : H p = none) (s : L2.Same H H') (e : H' p = some (.lst ys)) (d : DpAll K H ys ds) : LcW K H p ds H' := by
  have sb : L2.Same H (hid H' p) := fun b o q => by
    rw [hid_ne (ne_of_none q n)]
    exact s b o q
  refine ⟨hid H' p, ys, ?_, hid_same, sb, DpAll.mono sb d⟩
  funext b
  by_cases hb : b = p
  · rw [hb, e, upd_same]
  · rw [upd_ne hb, hid_ne hb]
theorem LcW.same (w : LcW K H p ds H') : L2.Same H H' := by
  obtain ⟨B, ys, rfl, hB, sm, dp⟩ := w
  exact sm.trans (same_new hB)
theorem LcW.dpl (w : LcW K H p ds H') : Dp K H' (.ref p) (.list ds) := by
  obtain ⟨B, ys, rfl, hB, sm, dp⟩ := w
  exact .lst (.inl (.inl upd_same)) (DpAll.mono (same_new hB) dp)
/-- what stands behind an append -/
def AppN (p : Addr) (ys : List V) (Q : VK) : VK := fun v B' => B' p = none → rAppend (.ref p) [v] (upd B' p (.lst ys)) Q
theorem g_appW (w : LcW K H0 p ds H) (h : ∀ B ys, L2.Same H0 B → DpAll K B ys ds → te σ B (AppN p ys Q)) : tyV K "list" (.ref p) H ∧ tCons (tHid te) tNil σ H fun xs H2 => rAppend (.ref p) xs H2 Q := by
  obtain ⟨B, ys, rfl, hB, sm, dp⟩ := w
  refine ⟨.inl ⟨rfl, ys, .inl (.inl upd_same)⟩, p, ys, upd_same, ?_⟩
  rw [hid_upd hB]
  exact h B ys sm dp
theorem app_end {B B' : Hp} {ys : List V} {v : V} {d : PyData} (dp : DpAll K B ys ds) (sm : L2.Same H0 B) (sm' : L2.Same B B') (dv : Dp K B' v d) (hz : ds.length < 100000) (k : ∀ H', LcW K H0 p (ds ++ [d]) H' → Q .non H') : AppN p ys Q v B' := by
  intro hn
  refine ⟨p, ys, v, rfl, rfl, upd_same, ?_, k _ ⟨B', ys ++ [v], by rw [upd_upd], hn, sm.trans sm', DpAll.snoc (DpAll.mono sm' dp) dv⟩⟩
  rw [DpAll.len dp]
  exact Nat.lt_of_lt_of_le hz (by decide)
theorem pe_bmK {X : Cx} (K : PySem.W.Frag) (eK : X.K = K) {o e : Expr} {es : List Expr} {to : TE} {t : TA} {name : Str} {apos cpos : Pos} {T id : String} {r : V → List V → Hp → VK → Prop} (pa : PlainAttrs T) (slot : Slot T name id) (hty : typeOf (.builtin id) = pure (.type "method_descriptor")) (hm : MtR X id r) (ho : PE X o to) (ha : PA X (e :: es) t)
    (hbase : attributeBase o name X.env (eval o X.env) = eval o X.env := by rfl)
    (hfew : ((backTo cpos (starEach (e :: es) X.env)).all (fun x => !x.1) && (backToKw cpos (keywordEach [] X.env)).all (fun x => x.1.isSome)
      && decide ((e :: es).length + ([] : List Keyword).length + (if ([] : List Keyword).isEmpty then 0 else 1) < 30)) = true := by rfl)
    (hline : (apos.endLine == cpos.line) = true := by rfl) (hs : starEach (e :: es) X.env = (false, eval e X.env) :: starEach es X.env := by rfl) (hplain : (backTo cpos (starEach es X.env)).any (·.1) = false := by rfl) :
    PE X (.Call (.Attribute o name apos) (e :: es) [] cpos) (tBM K T r to t) := by
  subst eK
  exact pe_bm pa slot hty hm ho ha hbase hfew hline hs hplain
instance {T : String} {r : V → List V → Hp → VK → Prop} {ta : TE} {tA : TA} : Stp (tBM K T r ta tA σ H Q) (ta σ H fun x H1 => tyV K T x H1 ∧ tA σ H1 fun xs H2 => r x xs H2 Q) := ⟨fun h => h⟩
end

/-! ### comprehensions whose items are told by a word -/
section
variable {σ : L2.St} {H : Hp} {Q : VK} {te : TE} {K : PySem.W.Frag} {J : It} {n : Nat} {G : Hp → Prop} {vs : List Nat} {R : Nat → PyData → Prop}
def LcX (K : PySem.W.Frag) (H : Hp) (p : Addr) (n : Nat) (R : Nat → PyData → Prop) (H' : Hp) : Prop := ∃ es : List PyData, es.length = n ∧ (∀ k d, es[k]? = some d → R k d) ∧ LcW K H p es H'
theorem lcx_elt {p : Addr} {i : Nat} {H' : Hp} {σ2 : L2.St} (w : LcX K H p i R H') (hz : i < 100000) (he : ∀ B, L2.Same H B → ∀ q : VK, (∀ v d B', L2.Same B B' → Dp K B' v d → R i d → q v B') → te σ2 B q) {N : Hp → Prop} (hN : ∀ H'', LcX K H p (i + 1) R H'' → N H'') :
    tHid te σ2 H' fun y H4 => ∃ acc, H4 p = some (.lst acc) ∧ acc.length < sizeLine ∧ N (upd H4 p (.lst (acc ++ [y]))) := by
  obtain ⟨es, hl, hR, B, ys, rfl, hB, sm, dp⟩ := w
  refine ⟨p, ys, upd_same, ?_⟩
  rw [hid_upd hB]
  refine he B sm _ fun v d B' sm' dv hr hn => ⟨ys, upd_same, ?_, hN _ ⟨es ++ [d], by simp [hl], fun k d' e => ?_, B', ys ++ [v], ?_, hn, sm.trans sm', DpAll.snoc (DpAll.mono sm' dp) dv⟩⟩
  · rw [DpAll.len dp, hl]
    exact Nat.lt_of_lt_of_le hz (by decide)
  · by_cases hk : k < es.length
    · rw [List.getElem?_append_left hk] at e
      exact hR k d' e
    · have hk2 : k = i := by
        have h3 := (List.getElem?_eq_some_iff.mp e).1
        simp at h3
        omega
      subst hk2
      rw [List.getElem?_append_right (by omega), hl] at e
      simp at e
      subst e
      exact hr
  · rw [upd_upd]
theorem lcx_end {p : Addr} {H' : Hp} (w : LcX K H p n R H') (k : ∀ p H' ds, H p = none → L2.Same H H' → ds.length = n → (∀ k d, ds[k]? = some d → R k d) → (∃ ys, H' p = some (.lst ys) ∧ DpAll K H' ys ds) → Q (.ref p) H') : Q (.ref p) H' := by
  obtain ⟨es, hl, hR, w⟩ := w
  exact lcw_end w fun p H' h1 h2 h3 => k p H' es h1 h2 hl hR h3
theorem lcx_start {p : Addr} (h : H p = none) : LcX K H p 0 R (upd H p (.lst [])) := ⟨[], rfl, fun k d e => by simp at e, lcw_start h⟩
theorem lc_ex {xs : List V} {a : Addr} {j : Nat} (sg : V → L2.St) (R : Nat → PyData → Prop) (w : Walk J xs.length G (YAt xs)) (hG : ∀ H', (∀ o, H a = some o → H' a = some o) → G H') (hz : xs.length ≤ 100000) (hg : ∀ x, (wipe σ vs).set j (some x) = sg x) (hw : ∀ x, wipe (sg x) vs = wipe σ vs)
    (he : ∀ (i : Nat) (x : V) (B : Hp), xs[i]? = some x → L2.Same H B → ∀ q : VK, (∀ v d B', L2.Same B B' → Dp K B' v d → R i d → q v B') → te (sg x) B q)
    (k : ∀ p H' ds, H p = none → L2.Same H H' → ds.length = xs.length → (∀ k d, ds[k]? = some d → R k d) → (∃ ys, H' p = some (.lst ys) ∧ DpAll K H' ys ds) → Q (.ref p) H') : LC J (gName j) tYes (tHid te) vs σ Q H := by
  intro D hD
  refine lc_it (Qd := fun H' => Q (.ref D) H') w (fun i H' => LcX K H D i R H') (lcx_start hD) (fun i H' _ p => hG H' fun o e => ?_) (fun i x H1 H2 hi p y => ?_) (fun H' p => lcx_end p k)
  · obtain ⟨_, _, _, p⟩ := p
    exact lcw_same p e
  · obtain ⟨rfl, y⟩ := y
    show wipe ((wipe σ vs).set j (some x)) vs = wipe σ vs ∧ tYes ((wipe σ vs).set j (some x)) _ _
    rw [hg]
    refine ⟨hw x, ?_⟩
    refine g_yes (g_iteT ?_)
    exact lcx_elt p (by omega) (fun B sm q hq => he i x B y sm q hq) fun H'' p' => p'
theorem lc_exR {lo : Int} {j : Nat} (sg : V → L2.St) (R : Nat → PyData → Prop) (hz : n ≤ 100000) (hg : ∀ x, (wipe σ vs).set j (some x) = sg x) (hw : ∀ x, wipe (sg x) vs = wipe σ vs)
    (he : ∀ (i : Nat) (B : Hp), i < n → L2.Same H B → ∀ q : VK, (∀ v d B', L2.Same B B' → Dp K B' v d → R i d → q v B') → te (sg (.int (lo + i))) B q)
    (k : ∀ p H' ds, H p = none → L2.Same H H' → ds.length = n → (∀ k d, ds[k]? = some d → R k d) → (∃ ys, H' p = some (.lst ys) ∧ DpAll K H' ys ds) → Q (.ref p) H') : LC (Itr lo n) (gName j) tYes (tHid te) vs σ Q H := by
  intro D hD
  refine lc_it (Qd := fun H' => Q (.ref D) H') walk_range (fun i H' => LcX K H D i R H') (lcx_start hD) (fun i H' _ p => True.intro) (fun i x H1 H2 hi p y => ?_) (fun H' p => lcx_end p k)
  obtain ⟨rfl, rfl⟩ := y
  show wipe ((wipe σ vs).set j (some (.int (lo + i)))) vs = wipe σ vs ∧ tYes ((wipe σ vs).set j (some (.int (lo + i)))) _ _
  rw [hg]
  refine ⟨hw _, ?_⟩
  refine g_yes (g_iteT ?_)
  exact lcx_elt p (by omega) (fun B sm q hq => he i B hi sm q hq) fun H'' p' => p'
/-! .. all of them ints -/
theorem ints_ex {S : Nat → Int → Prop} {H : Hp} : ∀ {ys : List V} {ds : List PyData}, DpAll K H ys ds → (∀ k d, ds[k]? = some d → ∃ m, d = .int m ∧ S k m) → ∃ ns : List Int, ys = ns.map V.int ∧ ns.length = ds.length ∧ ∀ k m, ns[k]? = some m → S k m := by
  intro ys ds dp
  induction ds generalizing ys S with
  | nil =>
    intro _
    cases dp
    exact ⟨[], rfl, rfl, fun k m e => by simp at e⟩
  | cons d ds ih =>
    intro h
    cases dp with
    | @cons v _ vs _ h1 h2 =>
    obtain ⟨m, rfl, hm⟩ := h 0 _ rfl
    cases h1
    obtain ⟨ns, e1, e2, e3⟩ := ih (S := fun k m => S (k + 1) m) h2 fun k d e => h (k + 1) d (by simpa using e)
    refine ⟨m :: ns, by rw [e1]; rfl, by simp [e2], fun k x e => ?_⟩
    cases k with
    | zero =>
      simp at e
      subst e
      exact hm
    | succ k => exact e3 k x (by simpa using e)
theorem lc_int {xs : List V} {a : Addr} {j : Nat} (sg : V → L2.St) (S : Nat → Int → Prop) (w : Walk J xs.length G (YAt xs)) (hG : ∀ H', (∀ o, H a = some o → H' a = some o) → G H') (hz : xs.length ≤ 100000) (hg : ∀ x, (wipe σ vs).set j (some x) = sg x) (hw : ∀ x, wipe (sg x) vs = wipe σ vs)
    (he : ∀ (i : Nat) (x : V) (B : Hp), xs[i]? = some x → L2.Same H B → ∀ q : VK, (∀ m B', L2.Same B B' → S i m → q (.int m) B') → te (sg x) B q)
    (k : ∀ p H' (ns : List Int), H p = none → L2.Same H H' → ns.length = xs.length → (∀ k m, ns[k]? = some m → S k m) → H' p = some (.lst (ns.map V.int)) → Q (.ref p) H') : LC J (gName j) tYes (tHid te) vs σ Q H := by
  refine lc_ex (K := []) sg (fun i d => ∃ m, d = .int m ∧ S i m) w hG hz hg hw (fun i x B e sm q hq => he i x B e sm q fun m B' sm' hm => hq _ _ B' sm' (.int m) ⟨m, rfl, hm⟩) fun p H' ds h1 h2 h3 h4 h5 => ?_
  obtain ⟨ys, e, dp⟩ := h5
  obtain ⟨ns, rfl, e2, e3⟩ := ints_ex dp h4
  exact k p H' ns h1 h2 (by omega) e3 e
theorem lc_intR {lo : Int} {j : Nat} (sg : V → L2.St) (S : Nat → Int → Prop) (hz : n ≤ 100000) (hg : ∀ x, (wipe σ vs).set j (some x) = sg x) (hw : ∀ x, wipe (sg x) vs = wipe σ vs)
    (he : ∀ (i : Nat) (B : Hp), i < n → L2.Same H B → ∀ q : VK, (∀ m B', L2.Same B B' → S i m → q (.int m) B') → te (sg (.int (lo + i))) B q)
    (k : ∀ p H' (ns : List Int), H p = none → L2.Same H H' → ns.length = n → (∀ k m, ns[k]? = some m → S k m) → H' p = some (.lst (ns.map V.int)) → Q (.ref p) H') : LC (Itr lo n) (gName j) tYes (tHid te) vs σ Q H := by
  refine lc_exR (K := []) sg (fun i d => ∃ m, d = .int m ∧ S i m) hz hg hw (fun i B e sm q hq => he i B e sm q fun m B' sm' hm => hq _ _ B' sm' (.int m) ⟨m, rfl, hm⟩) fun p H' ds h1 h2 h3 h4 h5 => ?_
  obtain ⟨ys, e, dp⟩ := h5
  obtain ⟨ns, rfl, e2, e3⟩ := ints_ex dp h4
  exact k p H' ns h1 h2 (by omega) e3 e
/-! .. all of them truths -/
theorem lc_bool {xs : List V} {a : Addr} {j : Nat} (sg : V → L2.St) (bs : List Bool) (w : Walk J xs.length G (YAt xs)) (hG : ∀ H', (∀ o, H a = some o → H' a = some o) → G H') (hl : bs.length = xs.length) (hz : xs.length ≤ 100000) (hg : ∀ x, (wipe σ vs).set j (some x) = sg x) (hw : ∀ x, wipe (sg x) vs = wipe σ vs)
    (he : ∀ (i : Nat) (x : V) (b : Bool) (B : Hp), xs[i]? = some x → bs[i]? = some b → L2.Same H B → ∀ q : VK, (∀ B', L2.Same B B' → q (.bl b) B') → te (sg x) B q)
    (k : ∀ p H', H p = none → L2.Same H H' → H' p = some (.lst (bs.map V.bl)) → Q (.ref p) H') : LC J (gName j) tYes (tHid te) vs σ Q H := by
  refine lc_dp (K := []) sg (bs.map PyData.bool) w hG (by simpa using hl) (by simpa [hl] using hz) hg hw (fun i x d B e ed sm q hq => ?_) fun p H' h1 h2 h3 => ?_
  · obtain ⟨b, hb, rfl⟩ := Option.map_eq_some_iff.mp (by rw [← List.getElem?_map]; exact ed)
    exact he i x b B e hb sm q fun B' sm' => hq _ B' sm' (.bl b)
  · obtain ⟨ys, e, dp⟩ := h3
    have ey : ys = bs.map V.bl := by
      clear e hl hz he k
      induction bs generalizing ys with
      | nil => cases dp; rfl
      | cons b bs ih =>
        cases dp with
        | cons h r =>
          cases h
          rw [ih _ r]
          rfl
    rw [ey] at e
    exact k p H' h1 h2 e
end
end Wk

set_option Elab.async false
set_option linter.all false
set_option maxRecDepth 100000
set_option maxHeartbeats 4000000
/-! WNum: numbers, no program in sight. -/
namespace Wk
theorem emod_mul_l (a b p : Int) : (a % p * b) % p = (a * b) % p := by rw [Int.mul_emod, Int.emod_emod_of_dvd a (Int.dvd_refl p), ← Int.mul_emod]
theorem emod_mul_r (a b p : Int) : (a * (b % p)) % p = (a * b) % p := by rw [Int.mul_comm, emod_mul_l, Int.mul_comm]
theorem emod_pow (a p : Int) : ∀ n : Nat, (a % p) ^ n % p = a ^ n % p
  | 0 => by simp
  | n + 1 => by rw [Int.pow_succ, Int.pow_succ, Int.mul_emod, emod_pow a p n, emod_emod_of_self, ← Int.mul_emod]
where emod_emod_of_self {a p : Int} : a % p % p = a % p := Int.emod_emod_of_dvd a (Int.dvd_refl p)
theorem emod_self2 (a p : Int) : a % p % p = a % p := Int.emod_emod_of_dvd a (Int.dvd_refl p)
theorem pow_half (s : Int) (m : Nat) : s ^ m = (s * s) ^ (m / 2) * s ^ (m % 2) := by
  have h : m = 2 * (m / 2) + m % 2 := by omega
  conv => lhs; rw [h]
  rw [Int.pow_add, Int.pow_mul]
  congr 2
  rw [Int.pow_succ, Int.pow_succ, Int.pow_zero, Int.one_mul]
/-- one turn of the walk by halves -/
theorem pow_odd (f s p : Int) (m : Nat) (h : m % 2 = 1) : (f * s % p) * ((s * s) % p) ^ (m / 2) % p = f * s ^ m % p := by
  rw [pow_half s m, h, Int.pow_one, emod_mul_l, ← emod_mul_r, emod_pow, emod_mul_r]
  congr 1
  rw [Int.mul_assoc, Int.mul_comm s]
theorem pow_even (f s p : Int) (m : Nat) (h : m % 2 = 0) : f * ((s * s) % p) ^ (m / 2) % p = f * s ^ m % p := by
  rw [pow_half s m, h, Int.pow_zero, Int.mul_one, ← emod_mul_r, emod_pow, emod_mul_r]
theorem emod_lt' {a p : Int} (h : 0 < p) : 0 ≤ a % p ∧ a % p < p := ⟨Int.emod_nonneg a (by omega), Int.emod_lt_of_pos a h⟩
theorem primes_bd {p : Int} (h : p ∈ primesL) : 3 ≤ p ∧ p ≤ 61 := by
  unfold primesL at h
  simp only [List.mem_cons, List.not_mem_nil, or_false] at h
  omega
/-- the small law of these primes -/
theorem fermatN : ∀ p ∈ [3, 5, 7, 11, 13, 17, 19, 23, 29, 31, 37, 41, 43, 47, 53, 59, 61], ∀ u ∈ List.range p, u ^ p % p = u := by decide +kernel
theorem fermat {p u : Int} (hp : p ∈ primesL) (h0 : 0 ≤ u) (h1 : u < p) : u ^ p.toNat % p = u := by
  have hb := primes_bd hp
  obtain ⟨q, rfl⟩ := Int.eq_ofNat_of_zero_le (show 0 ≤ p by omega)
  obtain ⟨v, rfl⟩ := Int.eq_ofNat_of_zero_le h0
  have hq : q ∈ [3, 5, 7, 11, 13, 17, 19, 23, 29, 31, 37, 41, 43, 47, 53, 59, 61] := by
    unfold primesL at hp
    simp only [List.mem_cons, List.not_mem_nil, or_false] at hp ⊢
    omega
  have h := fermatN q hq v (List.mem_range.mpr (by omega))
  show (v : Int) ^ q % (q : Int) = v
  exact_mod_cast h
theorem fermat_step {p u : Int} (hp : p ∈ primesL) (h0 : 0 ≤ u) (h1 : u < p) (m : Nat) (hm : 1 ≤ m) : ∀ k : Nat, u ^ (m + k * (p.toNat - 1)) % p = u ^ m % p
  | 0 => by simp
  | k + 1 => by
    have hb := primes_bd hp
    have ih := fermat_step hp h0 h1 m hm k
    have e : m + (k + 1) * (p.toNat - 1) = (m + k * (p.toNat - 1) - 1) + p.toNat := by
      rw [Nat.add_mul, Nat.one_mul]
      omega
    rw [e, Int.pow_add, ← emod_mul_r, fermat hp h0 h1, ← Int.pow_succ, ← ih]
    congr 2
    omega
theorem fermat_big {p u : Int} (hp : p ∈ primesL) (h0 : 0 ≤ u) (h1 : u < p) (n : Int) (hn : 200 ≤ n) : u ^ n.toNat % p = u ^ (n % (p - 1) + p - 1).toNat % p := by
  have hb := primes_bd hp
  obtain ⟨c, rfl⟩ := Int.eq_ofNat_of_zero_le (show 0 ≤ n by omega)
  obtain ⟨q, rfl⟩ := Int.eq_ofNat_of_zero_le (show 0 ≤ p by omega)
  have hm : ((c : Int) % ((q : Int) - 1) + (q : Int) - 1).toNat = c % (q - 1) + (q - 1) := by
    have e : ((q : Int) - 1) = ((q - 1 : Nat) : Int) := by omega
    rw [e, ← Int.natCast_emod]
    omega
  rw [hm]
  have hk : 1 ≤ c / (q - 1) := (Nat.le_div_iff_mul_le (by omega)).mpr (by omega)
  have hs := fermat_step hp h0 h1 (c % (q - 1) + (q - 1)) (by omega) (c / (q - 1) - 1)
  rw [← hs]
  congr 2
  show c = c % (q - 1) + (q - 1) + (c / (q - 1) - 1) * (q - 1)
  have h3 := Nat.mod_add_div c (q - 1)
  rw [Nat.sub_mul, Nat.one_mul]
  have h4 : (q - 1) * (c / (q - 1)) = c / (q - 1) * (q - 1) := Nat.mul_comm _ _
  have h5 : 1 * (q - 1) ≤ c / (q - 1) * (q - 1) := Nat.mul_le_mul_right _ hk
  omega
theorem cdivw {i j : Int} (h0 : 0 < j) (h : j < 2 ^ 200) : L2.CDivW i j := by
  refine ⟨h0, ?_⟩
  have h2 : j.natAbs < 2 ^ 200 := by omega
  have h3 : j.natAbs.log2 < 200 := PySem.Flt.log2_lt_of (by decide) h2
  omega
/-- the back of a rest -/
def bck (p b : Int) : Int := b ^ (p - 2).toNat % p
theorem bckN : ∀ p ∈ [3, 5, 7, 11, 13, 17, 19, 23, 29, 31, 37, 41, 43, 47, 53, 59, 61], ∀ u ∈ List.range p, u = 0 ∨ (u ^ (p - 2) % p * u % p = 1 ∧ (u ^ (p - 2) % p) ^ (p - 2) % p = u ∧ 0 < u ^ (p - 2) % p) := by decide +kernel
theorem bck_ok {p u : Int} (hp : p ∈ primesL) (h0 : 0 < u) (h1 : u < p) : bck p u * u % p = 1 ∧ bck p (bck p u) = u ∧ 0 < bck p u ∧ bck p u < p := by
  have hb := primes_bd hp
  obtain ⟨q, rfl⟩ := Int.eq_ofNat_of_zero_le (show 0 ≤ p by omega)
  obtain ⟨v, rfl⟩ := Int.eq_ofNat_of_zero_le (show 0 ≤ u by omega)
  have hq : q ∈ [3, 5, 7, 11, 13, 17, 19, 23, 29, 31, 37, 41, 43, 47, 53, 59, 61] := by
    unfold primesL at hp
    simp only [List.mem_cons, List.not_mem_nil, or_false] at hp ⊢
    omega
  have h := bckN q hq v (List.mem_range.mpr (by omega))
  have hv : v ≠ 0 := by omega
  obtain ⟨a1, a2, a3⟩ := h.resolve_left hv
  have e : ((q : Int) - 2).toNat = q - 2 := by omega
  unfold bck
  rw [e]
  refine ⟨by exact_mod_cast a1, by exact_mod_cast a2, by exact_mod_cast a3, (emod_lt' (by omega)).2⟩
theorem gcd_step (a b : Int) (ha : 0 ≤ a) (hb : 0 < b) : Int.gcd b (a % b) = Int.gcd a b := by
  obtain ⟨m, rfl⟩ := Int.eq_ofNat_of_zero_le ha
  obtain ⟨n, rfl⟩ := Int.eq_ofNat_of_zero_le (show 0 ≤ b by omega)
  show Nat.gcd n (m % n) = Nat.gcd m n
  rw [Nat.gcd_comm m n, Nat.gcd_rec n m, Nat.gcd_comm]
/-! ### lines -/
/-- the worth of a line, from its end -/
def lineAt (p x : Int) (ns : List Int) : Int := ns.reverse.foldl (fun f a => (f * x + a) % p) 0
/-- .. by powers -/
def lineSum (p x : Int) : Nat → List Int → Int
  | _, [] => 0
  | k, n :: ns => n * (x ^ k % p) + lineSum p x (k + 1) ns
theorem lineSum_snoc (p x n : Int) : ∀ (ns : List Int) (k : Nat), lineSum p x k (ns ++ [n]) = lineSum p x k ns + n * (x ^ (k + ns.length) % p)
  | [], k => by simp [lineSum]
  | m :: ns, k => by
    rw [List.cons_append, lineSum, lineSum, lineSum_snoc p x n ns (k + 1), List.length_cons, Int.add_assoc, show k + 1 + ns.length = k + (ns.length + 1) by omega]
theorem lineAt_nil (p x : Int) : lineAt p x [] = 0 := rfl
theorem lineAt_cons (p x n : Int) (ns : List Int) : lineAt p x (n :: ns) = (lineAt p x ns * x + n) % p := by
  unfold lineAt
  rw [List.reverse_cons, List.foldl_append]
  rfl
theorem lineAt_bd {p x : Int} (hp : 0 < p) : ∀ ns : List Int, 0 ≤ lineAt p x ns ∧ lineAt p x ns < p
  | [] => by rw [lineAt_nil]; omega
  | n :: ns => by rw [lineAt_cons]; exact emod_lt' hp
theorem lineSum_at (p x : Int) : ∀ (ns : List Int) (k : Nat), lineSum p x k ns % p = x ^ k * lineAt p x ns % p
  | [], k => by simp [lineSum, lineAt_nil]
  | n :: ns, k => by
    rw [lineSum, lineAt_cons, emod_mul_r, Int.add_emod, emod_mul_r, lineSum_at p x ns (k + 1), ← Int.add_emod]
    congr 1
    rw [Int.mul_add, Int.pow_succ, Int.add_comm, Int.mul_comm n, Int.mul_assoc, Int.mul_comm x]
theorem lineSum_eq {p x : Int} (hp : 0 < p) (ns : List Int) : lineSum p x 0 ns % p = lineAt p x ns := by
  rw [lineSum_at, Int.pow_zero, Int.one_mul, Int.emod_eq_of_lt (lineAt_bd hp ns).1 (lineAt_bd hp ns).2]
end Wk

set_option Elab.async false
set_option linter.all false
set_option maxRecDepth 100000
set_option maxHeartbeats 4000000
/-! WLam: a lambda with one default (a number), handed to a def that tries it. -/
namespace Wk
open PySem PySem.Spec PyProof.Rows L2 LamX
/-- captured ones, globals, and a name that the maker does not have -/
structure LamD (N : List Str) (sc scope : Scope) : Prop where
  kind : scope.kind = .function
  co : scope.isCoroutine = false
  gen : scope.isGenerator = false
  own : ∀ y ∈ scope.names, (y.2 = .local → y.1 ∉ N) ∧ y.2 ≠ .cell
  free : ∀ y ∈ scope.names, y.2 = .free → sc.names.lookup y.1 = some .cell ∨ sc.names.lookup y.1 = some .free
def lamDB (N : List Str) (sc scope : Scope) : Bool :=
  decide (scope.kind = .function) && !scope.isCoroutine && !scope.isGenerator && scope.names.all fun y => (!decide (y.2 = .local) || decide (y.1 ∉ N)) && !decide (y.2 = .cell) && (!decide (y.2 = .free) || decide (sc.names.lookup y.1 = some .cell) || decide (sc.names.lookup y.1 = some .free))
theorem lamD_by {N : List Str} {sc scope : Scope} (h : lamDB N sc scope = true) : LamD N sc scope := by
  unfold lamDB at h
  simp only [Bool.and_eq_true, Bool.or_eq_true, Bool.not_eq_true', decide_eq_true_eq, decide_eq_false_iff_not, List.all_eq_true] at h
  obtain ⟨⟨⟨h1, h2⟩, h3⟩, h4⟩ := h
  refine ⟨h1, h2, h3, fun y hy => ⟨fun e => ?_, (h4 y hy).1.2⟩, fun y hy e => ?_⟩
  · rcases (h4 y hy).1.1 with z | z
    · exact absurd e z
    · exact z
  · rcases (h4 y hy).2 with (z | z) | z
    · exact absurd e z
    · exact .inl z
    · exact .inr z
theorem LamD.has {X : Cx} {scope : Scope} (L : LamD X.N X.env.scope scope) (ok : X.Ok) : ∀ y ∈ scope.names, y.2 = .free → ∃ c, X.env.cells.lookup y.1 = some c := fun y hy e => by
  rcases L.free y hy e with k | k
  · exact ok.has _ (.inl k)
  · exact ok.has _ (.inr k)
section
variable {X : Cx} {pins : List (Addr × Obj)} {σ : L2.St} {H HZ : Hp} {s s1 : Shared}
abbrev lamO (X : Cx) (params : Arguments) (body : Expr) (scope : Scope) (tp : Addr) (doc pm : Value) (c' : Addr) (ctv : Value) : Obj := PySem.W.kdv_obj "<lambda>" (X.env.qual ++ "<lambda>") params (.expr body) scope (cloFrom X.env.cells scope.names []) (.ref tp) doc pm c' ctv
/-- the lambda is made: its defaults lie at tp -/
theorem lam_makeD {T : List (Addr × Str)} {c P : Addr} {params : Arguments} {body : Expr} {scope : Scope} {pos : Pos} {d : Int} {kd : Nat} {pd : Pos} {Q : Value → Shared → Prop} (I : Inv X pins σ H s) (TB : TabB X.base X.mg c P) (hcode : X.env.code = .ref c)
    (hm : (P, X.env.qual ++ "<lambda>") ∈ T) (hu : ∀ p ∈ T, p.1 = P → p.2 = X.env.qual ++ "<lambda>") (hT : Tabs T H) (hdef : params.defaults = [.Constant (.int d) kd pd]) (hkd : params.kw_defaults = []) (hfree : ∀ y ∈ scope.names, y.2 = .free → ∃ c, X.env.cells.lookup y.1 = some c)
    (h : ∀ (f c' tp : Addr) (doc pm ctv : Value) (H1 : Hp) (s' : Shared), Inv X pins σ H1 s' → ExtN H H1 → Tabs T H1 → H1 tp = some (.tup [.int d]) →
      s'.heap.get? f = some (lamO X params body scope tp doc pm c' ctv) → H1 f = none → f ∉ frs X.stack → H1 c' = some (CodeO c' (X.env.qual ++ "<lambda>")) → Q (.ref f) s') :
    wpAny (model X.prog X.w) X.A (eval (.Lambda params body scope pos) X.env) Q X.xe s := by
  refine PySem.W.kdv_lam (by rw [hdef]; rfl) hkd ?_
  rw [hdef]
  refine PySem.W.kdv_all1 (thn ((pe_int (X := X)).run pins s σ H (fun v H1 => v = .int d ∧ H1 = H) I ⟨rfl, rfl⟩) fun u s0 ⟨v, H0, I0, r0, e0⟩ => PySem.W.kdv_all0 ?_)
  obtain ⟨e0, e1⟩ := e0
  subst e0
  subst e1
  rw [makeFunction_eq]
  simp only [List.zip_nil_right, List.filterMap_nil, List.isEmpty_nil, if_true, pure_bind, List.isEmpty_cons, Bool.false_eq_true, if_false]
  refine wpAny_bind (wpAny_newTextTuple ?_)
  have nT : H0 s0.heap.objs.size = none := I0.hok.fresh (Nat.le_refl _)
  have I2 : Inv X pins σ (upd H0 s0.heap.objs.size (.tup [.int d])) { s0 with heap := s0.heap.push (PySem.W.kdv_tup [u]), toks := s0.toks } :=
    I0.laid (t' := s0.toks) (fun b o e => Heap.get?_push_of_some _ e) (Nat.le_refl _) ⟨by show 1 ≤ sizeLine; decide, [u], .cons r0 .nil, ⟨_, Heap.get?_push_size _ rfl, rfl, _, rfl⟩⟩
  have sm0 : L2.Same H0 (upd H0 s0.heap.objs.size (.tup [.int d])) := same_new nT
  have hT2 : Tabs T (upd H0 s0.heap.objs.size (.tup [.int d])) := hT.ext sm0
  have eN0 : ExtN H0 (upd H0 s0.heap.objs.size (.tup [.int d])) := ExtN.of sm0
  have eT : upd H0 s0.heap.objs.size (.tup [.int d]) s0.heap.objs.size = some (.tup [.int d]) := upd_same
  generalize upd H0 s0.heap.objs.size (.tup [.int d]) = H2 at I2 hT2 eN0 eT
  generalize s0.heap.objs.size = tp at eT ⊢
  generalize ({ s0 with heap := s0.heap.push (PySem.W.kdv_tup [u]), toks := s0.toks } : Shared) = s2 at I2 ⊢
  obtain ⟨ps, hP, ht, ha⟩ := hT2 _ hm
  have bP : s2.heap.BuiltinsAt X.mg P := TB.bm.keeps I2.bk
  have hP' : s2.heap.get? P = some { cls := .none, data := .fields ps } := I2.hok P _ hP
  have nofr : ∀ f, s2.heap.objs.size ≤ f → f ∉ frs X.stack := fun f hf z => by
    rcases List.mem_cons.mp (I2.stkSub _ z) with e | e
    · have h1 := I2.lt
      rw [← e] at h1
      exact Nat.lt_irrefl _ (Nat.lt_of_lt_of_le h1 hf)
    · exact I2.nofs hf e
  cases hc : codeAmong pos ps.toList with
  | none =>
    refine PySem.W.kdv_makeTail (mg := X.mg) (c := c) (P := P) (ps := ps) (closure_ok hfree) I2.ok.glob (I2.mod.glob.keeps I2.bk) hcode (TB.code.keeps I2.bk) hP' ht hc TB.gP bP fun c' ctv doc h' tk hx hge hlt hrec htb => ?_
    obtain ⟨c2, oc, vs, t, e2, hoc, hd, hv⟩ := hrec
    cases e2
    have hsz : s2.heap.objs.size ≤ h'.objs.size := Nat.le_trans hge (Nat.le_of_lt hlt)
    have nC : H2 c' = none := I2.hok.fresh hge
    have I1 := inv_table (t' := tk) (more := #[rawInt pos.line, rawInt pos.col, .ref c']) (h' := h'.push (lamO X params body scope tp doc ((X.mg "__name__").getD .none) c' ctv)) I2 hP
      (fun b o hb e => Heap.get?_push_of_some _ (hx b o hb e)) (Heap.get?_push_of_some _ htb) hge ⟨oc, vs, t, Heap.get?_push_of_some _ hoc, hd, hv⟩
    have hE : ExtN H2 (upd (upd H2 P (.tbl (ps ++ #[rawInt pos.line, rawInt pos.col, .ref c']))) c' (CodeO c' (X.env.qual ++ "<lambda>"))) := fun b o e n => by
      rw [upd_ne (ne_of_none e nC), upd_ne (fun z => n ps (Option.some.inj (e.symm.trans (by rw [z]; exact hP))))]
      exact e
    have eL : (ps ++ #[rawInt pos.line, rawInt pos.col, .ref c']).toList = ps.toList ++ [rawInt pos.line, rawInt pos.col, .ref c'] := by simp
    refine h h'.objs.size c' tp doc ((X.mg "__name__").getD .none) ctv _ _ I1 (eN0.trans hE) (fun p hp => ?_) (hE _ _ eT fun _ z => nomatch z) (Heap.get?_push_size _ rfl) ?_ (nofr _ hsz) upd_same
    · by_cases hb : p.1 = P
      · rw [hu p hp hb, hb]
        refine ⟨_, by rw [upd_ne (ne_of_none hP nC), upd_same], by rw [eL]; exact PySem.TriplesOk_snoc _ _ _ _ ht, fun p' cv hcv => ?_⟩
        rw [eL] at hcv
        rcases among_app _ ht hcv with z | z
        · obtain ⟨c0, e1, e2⟩ := ha p' cv z
          exact ⟨c0, e1, hE _ _ e2 codeO_ne⟩
        · exact ⟨c', z, upd_same⟩
      · obtain ⟨ps', a1, a2, a3⟩ := hT2 p hp
        refine ⟨ps', by rw [upd_ne (ne_of_none a1 nC), upd_ne hb]; exact a1, a2, fun p' cv hcv => ?_⟩
        obtain ⟨c0, e1, e2⟩ := a3 p' cv hcv
        exact ⟨c0, e1, hE _ _ e2 codeO_ne⟩
    · have n1 : h'.objs.size ≠ c' := Nat.ne_of_gt hlt
      have n2 : h'.objs.size ≠ P := Nat.ne_of_gt (Nat.lt_of_lt_of_le (Heap.lt_size hP') hsz)
      rw [upd_ne n1, upd_ne n2]
      exact I2.hok.fresh hsz
  | some cv =>
    obtain ⟨c', e, hco⟩ := ha pos cv hc
    subst e
    refine PySem.W.kdv_makeTailHit (mg := X.mg) (c := c) (P := P) (ps := ps) (closure_ok hfree) I2.ok.glob (I2.mod.glob.keeps I2.bk) hcode (TB.code.keeps I2.bk) hP' ht hc bP fun ctv doc h' tk hx hsz => ?_
    have I1 : Inv X pins σ H2 { s2 with heap := h'.push (lamO X params body scope tp doc ((X.mg "__name__").getD .none) c' ctv), toks := tk } := I2.kept fun b o e => Heap.get?_push_of_some _ (hx b o e)
    exact h h'.objs.size c' tp doc ((X.mg "__name__").getD .none) ctv H2 _ I1 eN0 hT2 eT (Heap.get?_push_size _ rfl) (I2.hok.fresh hsz) (nofr _ hsz) hco
theorem lam_startD {A : Around} {outer : List Env} {E : XK} {scope : Scope} {f c' : Addr} {h₁ : Heap} {tk : Nat} {mm : Str → Option Value} (I : Inv X pins σ H s) (L : LamD X.N X.env.scope scope) (e0 : Env0 X.prog X.w X.K X.mg X.base A outer s1 HZ) (hd : A.handled = none)
    (un : Un (frs X.stack) [] H HZ s.heap s1.heap) (hns : h₁.Ns s1.heap.objs.size mm) (kp : ∀ b o, s1.heap.get? b = some o → h₁.get? b = some o) :
    Inv (lamCx X A outer s1 HZ E scope f c') [] σ HZ { s1 with heap := h₁, toks := tk } := by
  have hfree := L.has I.ok
  have cm : ∀ {y c}, (cloFrom X.env.cells scope.names []).lookup y = some c → X.env.cells.lookup y = some c := fun {y c} e => by
    rcases cloFrom_mem (PySem.mem_of_lookup e) with hm | ⟨h1, h2⟩
    · cases hm
    · obtain ⟨c1, hc⟩ := hfree _ h1 rfl
      have hc : X.env.cells.lookup y = some c1 := hc
      have e2 : c = c1 := by
        rw [h2, hc] <;> rfl
      rw [e2]
      exact hc
  have look : ∀ {y}, scope.names.lookup y = some .free → ∃ c, (cloFrom X.env.cells scope.names []).lookup y = some c := fun {y} hl => by
    have hy : (y, NameKind.free) ∈ scope.names := PySem.mem_of_lookup hl
    exact mem_lookup (cloFrom_has (cells := X.env.cells) (acc := []) hy)
  have cellK : ∀ {c : Addr} {v : Option Value}, H c = none → s.heap.IsCell c v → h₁.IsCell c v := fun {c v} n ⟨o, ho, hd⟩ => by
    obtain ⟨sl, q⟩ := un.any ho n (by simp)
    exact ⟨_, kp _ _ q, hd⟩
  have noA : ∀ b : Addr, b ∉ (lamCx X A outer s1 HZ E scope f c').ex := fun b z => absurd (show b ∈ ([] : List Addr) from z) (by simp)
  refine ⟨⟨e0.mod, L.kind, rfl, rfl, Nat.le_refl _, fun y z c e1 e2 => I.ok.inj y z c (cm e1) (cm e2), fun y hy => ?_, fun y c z _ => ?_, fun _ => hd, Around.frames_deeper e0.frames, .inr ⟨rfl, rfl⟩, fun b z => absurd z (noA b), e0.bs, e0.bsz, fun b _ _ => noA b,
      fun b z => absurd z (noA b), e0.funs, e0.frf⟩,
    rfl, e0.bare, Un.kept kp, ⟨_, hns, fun i y v e1 e2 e3 => ?_⟩, fun y c e => ?_, e0.hok.fresh (Nat.le_refl _), fun y c e => ?_, fun q hq => absurd (show q ∈ ([] : List (Addr × Obj)) ++ [] from hq) (by simp), e0.hok.kept kp, I.len⟩
  · have hy : scope.names.lookup y = some .cell ∨ scope.names.lookup y = some .free := hy
    rcases hy with hy | hy
    · exact absurd rfl (L.own _ (PySem.mem_of_lookup hy)).2
    · exact look hy
  · have z : false = true := z
    cases z
  · have e3 : Vis scope y := e3
    rcases e3 with k | k | k
    · exact absurd (List.mem_of_getElem? (show X.N[i]? = some y from e1)) ((L.own _ (PySem.mem_of_lookup k)).1 rfl)
    · exact absurd rfl (L.own _ (PySem.mem_of_lookup k)).2
    · obtain ⟨m, hn, hl⟩ := I.loc
      have hvis : Vis X.env.scope y := (L.free _ (PySem.mem_of_lookup k) rfl).elim (fun k => .inr (.inl k)) (fun k => .inr (.inr k))
      obtain ⟨w', r, q⟩ := hl i y v e1 e2 hvis
      obtain ⟨c2, h2⟩ := look k
      refine ⟨w', r, .inr ⟨.inr k, c2, h2, ?_⟩⟩
      have c1 := cm h2
      rcases q with ⟨k', _⟩ | ⟨_, c3, e', z⟩
      · have k' : X.env.scope.names.lookup y = some .local := k'
        rcases L.free _ (PySem.mem_of_lookup k) rfl with k2 | k2 <;> rw [show X.env.scope.names.lookup y = _ from k2] at k' <;> cases k'
      · rw [c1] at e'
        cases e'
        exact cellK (I.freeC y _ c1) z
  · obtain ⟨w', z⟩ := I.cell y c (cm e)
    exact ⟨w', cellK (I.freeC y c (cm e)) z⟩
  · obtain ⟨v, o, ho, hd⟩ := I.cell y c (cm e)
    exact un.free c o ho (I.freeC y c (cm e)) (by simp)
theorem pe_actD {CXg : CXT} {Eg : XK} {Ng : List Str} {qg : Str} {sg : Scope} {g f c' tp : Addr} {cdg doc pm ctv : Value} {params : Arguments} {body : Expr} {scope : Scope} {k i : Nat} {a b1 : Str} {d : Int} {pn : List (Addr × Obj)} {xe : Value → Shared → Prop} {W : WX} {tb : XK → TE} {p1 p2 : Pos}
    (I : Inv X pins σ H s) (L : LamD X.N X.env.scope scope) (hf : s.heap.get? f = some (lamO X params body scope tp doc pm c' ctv)) (hfn : H f = none) (hfr : f ∉ frs X.stack) (htp : H tp = some (.tup [.int d]))
    (hbind : ∀ fd : FuncData, fd = PySem.W.kdv_fn "<lambda>" (X.env.qual ++ "<lambda>") params (.expr body) scope (cloFrom X.env.cells scope.names []) (.ref tp) doc pm (.ref c') ctv → ∃ kk, bindArgs fd ⟨[], []⟩ = seqItems? fd.defaults >>= kk ∧ ∀ u : Value, kk (some #[u]) = pure [(b1, u)]) (hb1 : scope.names.lookup b1 = some .local)
    (tk : Takes ((cxOf CXg X.prog X.w X.K X.mg X.base Ng qg sg g cdg X.A X.stack s H Eg).tr pn xe) W) (hr : Room (k + 1) (X.A.deeper (envOfC qg sg s.heap.objs.size g cdg)))
    (hbody : ∀ (E : XK) (A : Around) (outer : List Env) (s : Shared) (H : Hp), Room k (A.deeper (lamEnv X scope s.heap.objs.size f c')) → PE (lamCx X A outer s H E scope f c') body (tb E))
    (hN : Ng[i]? = some a) (hv : Vis sg a) (hd : (a == ("__debug__" : Str)) = false := by decide) (hcd : (a == ("__classdict__" : Str)) = false := by decide) :
    PE ((cxOf CXg X.prog X.w X.K X.mg X.base Ng qg sg g cdg X.A X.stack s H Eg).tr pn xe) (.Call (.Name a p1) [] [] p2)
      (fun σZ HZ Q => σZ[i]? = some (some (.ref f)) ∧ HZ c' = some (CodeO c' (X.env.qual ++ "<lambda>")) ∧ tb (WE W σZ) σ HZ Q) := by
  refine ⟨fun pinsZ sZ σZ HZ Q IZ h => ?_⟩
  obtain ⟨hs, hc, ht⟩ := h
  refine wpAny_Call_Name_kw (thn ((pe_var (pos := p1) (i := i) hN hv hd hcd).run pinsZ sZ σZ HZ (fun v H1 => v = .ref f ∧ H1 = HZ) IZ ⟨.ref f, hs, rfl, rfl⟩) fun u s1 ⟨v, H1, I1, r1, q1⟩ => ?_)
  obtain ⟨ev, eH⟩ := q1
  subst ev
  rw [eH] at I1
  obtain rfl : u = Value.ref f := r1
  have of1 : s1.heap.get? f = some (lamO X params body scope tp doc pm c' ctv) := I1.base.keep f _ hf hfn hfr (fun z => nomatch (show f ∈ ([] : List Addr) from z))
  refine PySem.W.callWith_F0 ⟨_, _, _, _, of1⟩ ?_
  have un : Un (frs X.stack) [] H HZ s.heap s1.heap := I1.base
  have htp1 : HZ tp = some (.tup [.int d]) := un.tups tp _ htp
  obtain ⟨⟨oc, vs, t, hoc, hdc, hvc⟩, _, _⟩ := I1.hok c' _ hc
  obtain ⟨_, its, rv, ot, hot, hcl, nt, hdt⟩ := I1.hok tp _ htp1
  obtain ⟨w1, rfl, _⟩ := vals1 rv
  have rc : codeAny (model X.prog X.w) (X.A.deeper (envOfC qg sg s.heap.objs.size g cdg)) (.call (.ref f) ⟨[], []⟩) (CR (L2.CX X.prog X.w) (envOfC qg sg s.heap.objs.size g cdg :: X.stack) X.prog X.w HZ s1 Q (WE W σZ)) s1 := by
    obtain ⟨kk, hk1, hk2⟩ := hbind _ rfl
    refine PySem.W.kla_callFunE hr.depth of1 rfl L.co L.gen rfl ⟨c', oc, vs, t, rfl, hoc, hdc, hvc⟩ (BindsTo.of_defaults (T := tp) (items := #[w1]) rfl hot hdt hk1 (hk2 w1) _ _ _ _ ?_)
    refine wpAny_newFunctionEnv (fun y hy => (L.own y hy).2) (fun y hy => by rw [List.mem_singleton.mp hy]; exact hb1) (fun h1 hns hsb => ⟨I1.nolimit.fresh _ hsb, ?_⟩) L.kind
    show codeAny _ _ (.expr body (lamEnv X scope s1.heap.objs.size f c')) _ _
    have kp : ∀ b o, s1.heap.get? b = some o → h1.get? b = some o := fun b o e => hsb.extBut b o (Nat.ne_of_lt (Heap.lt_size e)) (Heap.get?_push_of_some _ e)
    have J := lam_startD (A := X.A.deeper (envOfC qg sg s.heap.objs.size g cdg)) (outer := envOfC qg sg s.heap.objs.size g cdg :: X.stack) (E := WE W σZ) (scope := scope) (f := f) (c' := c') (tk := s1.toks + ([(b1, w1)] : List (Str × Value)).length) I L I1.env0 hr.hd un hns kp
    refine PySem.W.kla_codeExpr (wpAny_mono ((hbody _ _ _ s1 HZ (hr.deeper _)).run [] _ _ HZ Q J ht) (fun v s' hq => ?_) fun e s' hq => hq)
    obtain ⟨w', H', J', rv, q⟩ := hq
    exact ⟨w', H', J'.os, J'.bare, J'.base, J'.hok, rv, q⟩
  refine wpAny_call (codeAny_mono rc fun r s' hq => ?_)
  cases r with
  | error e => exact passAt tk σZ pinsZ HZ s1 e s' I1 hq
  | ok fl =>
    cases fl with
    | ret u => exact I1.after hq
    | next => exact False.elim hq
    | brk => exact False.elim hq
    | cont => exact False.elim hq
theorem pe_lamD {T : List (Addr × Str)} {TT : (XK → Hp → VK → Prop) → Hp → VK → Prop} {x a b1 : Str} {g c P : Addr} {k : Nat} {stg : Stmt} {fdg : FuncData} {Ng : List Str} {d : Int} {kd : Nat} {pd : Pos}
    {params : Arguments} {body : Expr} {scope : Scope} {t : XK → TE} {p lpos pos : Pos} (hg : Gl X x) (hm : X.mg x = some (.ref g)) (Fg : Fun X.K x x stg g fdg) (hb : L2.Binds X.K fdg [a] []) (Sg : FnScope Ng [a] (defScope stg)) (hNg : Ng[0]? = some a) (hva : Vis (defScope stg) a)
    (hG : ∀ cdv, GivesS X Ng x (defScope stg) g cdv (defBody stg) a (X.env.qual ++ "<lambda>") TT)
    (TB : TabB X.base X.mg c P) (hcode : X.env.code = .ref c) (hmT : (P, X.env.qual ++ "<lambda>") ∈ T) (hu : ∀ p ∈ T, p.1 = P → p.2 = X.env.qual ++ "<lambda>") (hr : Room (k + 2) X.A) (L : LamD X.N X.env.scope scope) (hdef : params.defaults = [.Constant (.int d) kd pd]) (hkd : params.kw_defaults = [])
    (hb1 : scope.names.lookup b1 = some .local)
    (hbind : ∀ (q : Str) (cl : List (Str × Addr)) (tp : Addr) (doc pm cv ctv : Value), ∃ kk, bindArgs (PySem.W.kdv_fn "<lambda>" q params (.expr body) scope cl (.ref tp) doc pm cv ctv) ⟨[], []⟩ = seqItems? (.ref tp) >>= kk ∧ ∀ u : Value, kk (some #[u]) = pure [(b1, u)])
    (hbody : ∀ (E : XK) (A : Around) (outer : List Env) (s : Shared) (H : Hp) (f c' : Addr), Room k (A.deeper (lamEnv X scope s.heap.objs.size f c')) → PE (lamCx X A outer s H E scope f c') body (t E))
    (hdb : (x == ("__debug__" : Str)) = false := by decide) (hd : (a == ("__debug__" : Str)) = false := by decide) (hcd : (a == ("__classdict__" : Str)) = false := by decide) :
    PE X (.Call (.Name x p) [.Lambda params body scope lpos] [] pos) (tLam T TT t) := by
  obtain ⟨oc, od, kV, doc, pm, an, cdv, ct, osl, rfl, lk, hcg⟩ := Fg.ex
  have hk := Fg.kp
  refine ⟨fun pins s σ H Q I h => ?_⟩
  obtain ⟨hT, h⟩ := h
  refine wpAny_Call_Name_kw (ld_glob I hg hm ?_ hdb)
  refine PySem.W.callWith_K (h₀ := X.base) I.ok.mod.kin hk ?_ (by rfl) (by rfl)
  show wpAny _ _ (spliced ((false, eval (.Lambda params body scope lpos) X.env) :: backTo pos (starEach [] X.env))) _ _ s
  refine Calls.spliced_cons (lam_makeD I TB hcode hmT hu hT hdef hkd (L.has I.ok) fun f c' tp doc' pm' ctv H1 s' I1 eN T1 htp hf hfn hfr hco => ?_)
  refine Calls.spliced_nil ⟨I1.kIn, ?_⟩
  have rc : codeAny (model X.prog X.w) X.A (.call (.ref g) ⟨[.ref f], []⟩) (CR C8.CX0 X.stack X.prog X.w H1 s' Q C8.E0) s' := by
    refine run_ofS (N := Ng) (ps := [a]) (us := [.ref f]) (vs := [.ref f]) lk hcg Sg hr I1.env0 (hb s' [.ref f] I1.kIn rfl) (.cons rfl .nil) rfl fun hr' => ?_
    obtain ⟨t', ht', hq'⟩ := hG cdv f c' s' H1 Q (fun E H' Q' => t E σ H' Q') (fun W pn xe p1 p2 tk => pe_actD (i := 0) (b1 := b1) I1 L hf hfn hfr htp (fun fd e => by subst e; exact hbind _ _ _ _ _ _ _) hb1 tk hr' (fun E A outer s H hr2 => hbody E A outer s H f c' hr2) hNg hva hd hcd) hco (h H1 eN T1)
    exact ⟨t', ht'.nox, hq'⟩
  refine wpAny_call (codeAny_mono rc fun r s2 hq => ?_)
  cases r with
  | error e => exact (show False from hq).elim
  | ok fl =>
    cases fl with
    | ret u => exact I1.after hq
    | next => exact False.elim hq
    | brk => exact False.elim hq
    | cont => exact False.elim hq
end
/-! ### a list that grows by what was tried -/
section
variable {σ : L2.St} {H H0 H' : Hp} {Q : VK} {K : PySem.W.Frag} {p : Addr} {ds : List PyData} {L : List (Addr × Str)} {TT : (XK → Hp → VK → Prop) → Hp → VK → Prop} {t : XK → TE}
def LcN (K : PySem.W.Frag) (L : List (Addr × Str)) (H : Hp) (p : Addr) (ds : List PyData) (H' : Hp) : Prop := ∃ (B : Hp) (ys : List V), H' = upd B p (.lst ys) ∧ B p = none ∧ ExtN H B ∧ Tabs L B ∧ DpAll K B ys ds
theorem lcn_of (w : LcW K H p ds H') (hT : Tabs L H) : LcN K L H p ds H' := by
  obtain ⟨B, ys, rfl, hB, sm, dp⟩ := w
  exact ⟨B, ys, rfl, hB, ExtN.of sm, hT.ext sm, dp⟩
theorem LcN.ext (w : LcN K L H p ds H') : ExtN H H' := by
  obtain ⟨B, ys, rfl, hB, sm, _, dp⟩ := w
  exact sm.trans (ExtN.of (same_new hB))
theorem LcN.tabs (w : LcN K L H p ds H') : Tabs L H' := by
  obtain ⟨B, ys, rfl, hB, sm, hT, dp⟩ := w
  exact hT.ext (same_new hB)
theorem LcN.dpl (w : LcN K L H p ds H') : Dp K H' (.ref p) (.list ds) := by
  obtain ⟨B, ys, rfl, hB, sm, _, dp⟩ := w
  exact .lst (.inl (.inl upd_same)) (DpAll.mono (same_new hB) dp)
theorem g_appN (w : LcN K L H0 p ds H) (h : ∀ B ys, ExtN H0 B → Tabs L B → DpAll K B ys ds → LamX.tLam L TT t σ B (AppN p ys Q)) : tyV K "list" (.ref p) H ∧ tCons (tHid (LamX.tLam L TT t)) tNil σ H fun xs H2 => rAppend (.ref p) xs H2 Q := by
  obtain ⟨B, ys, rfl, hB, sm, hT, dp⟩ := w
  refine ⟨.inl ⟨rfl, ys, .inl (.inl upd_same)⟩, p, ys, upd_same, ?_⟩
  rw [hid_upd hB]
  exact h B ys sm hT dp
theorem app_endN {B B' : Hp} {ys : List V} {v : V} {d : PyData} (dp : DpAll K B ys ds) (sm : ExtN H0 B) (sm' : ExtN B B') (hT : Tabs L B') (dv : Dp K B' v d) (hz : ds.length < 100000) (k : ∀ H', LcN K L H0 p (ds ++ [d]) H' → Q .non H') : AppN p ys Q v B' := by
  intro hn
  refine ⟨p, ys, v, rfl, rfl, upd_same, ?_, k _ ⟨B', ys ++ [v], by rw [upd_upd], hn, sm.trans sm', hT, DpAll.snoc (DpAll.monoN sm' dp) dv⟩⟩
  rw [DpAll.len dp]
  exact Nat.lt_of_lt_of_le hz (by decide)
end
end Wk

set_option Elab.async false
set_option linter.all false
set_option maxRecDepth 100000
set_option maxHeartbeats 4000000
/-! WOps: == and != on data, rows turned about, put together, repeated. -/
namespace Wk
open PySem PySem.Spec PyProof.Rows L2
/-! ### == and != of data -/
section
variable {X : Cx} {H : Hp} {Q : VK} {K : PySem.W.Frag} {x y : V} {d e : PyData}
theorem op_eqDK (K : PySem.W.Frag) (eK : X.K = K) {k : Nat} (hr : Room k X.A) : OpR X (compareOp .Eq) (rEqD K) := by
  subst eK
  exact op_eqD (by have := hr.un; omega)
theorem op_neDK (K : PySem.W.Frag) (eK : X.K = K) {k : Nat} (hr : Room k X.A) : OpR X (compareOp .NotEq) (rNeD K) := by
  subst eK
  exact op_neD (by have := hr.un; omega)
theorem g_eqD (h1 : Dp K H x d) (h2 : Dp K H y e) (s1 : SeqAt.shaped d = true) (ed : d = e) (q : Q (.bl true) H) : rEqD K x y H Q := by
  subst ed
  refine ⟨d, d, h1, h2, s1, s1, ?_⟩
  rw [SeqAt.eqv_refl d (SeqAt.canLay_of_shaped s1)]
  exact q
theorem g_neD (h1 : Dp K H x d) (h2 : Dp K H y e) (s1 : SeqAt.shaped d = true) (ed : d = e) (q : Q (.bl false) H) : rNeD K x y H Q := by
  subst ed
  refine ⟨d, d, h1, h2, s1, s1, ?_⟩
  rw [SeqAt.eqv_refl d (SeqAt.canLay_of_shaped s1)]
  exact q
end
/-! ### min, max -/
def rMin : List V → Hp → VK → Prop := fun xs H Q => ∃ i j, xs = [.int i, .int j] ∧ Q (.int (if j < i then j else i)) H
theorem call_minI {X : Cx} (hc : X.calm = true) : CallR X (.builtin "min") rMin := call_min2 hc
instance {H : Hp} {Q : VK} {i j : Int} : Stp (rMin [.int i, .int j] H Q) (Q (.int (if j < i then j else i)) H) := ⟨fun h => ⟨i, j, rfl, h⟩⟩
/-! ### + and * of rows -/
section
variable {H : Hp} {Q : VK}
theorem g_cat {a b : Addr} {xs ys : List V} (h1 : H a = some (.lst xs)) (h2 : H b = some (.lst ys)) (hl : xs.length + ys.length ≤ 100000) (q : ∀ p H', H p = none → L2.Same H H' → H' p = some (.lst (xs ++ ys)) → Q (.ref p) H') : rCat (.ref a) (.ref b) H Q :=
  ⟨a, b, xs, ys, rfl, rfl, h1, h2, Nat.le_trans hl (by decide), fun p hp => q p _ hp (same_new hp) upd_same⟩
theorem g_rep {a : Addr} {k : Int} {xs : List V} (h1 : H a = some (.lst xs)) (hk : 0 ≤ k ∧ k ≤ 100000) (hl : xs.length * k.toNat ≤ 100000) (q : ∀ p H', H p = none → L2.Same H H' → H' p = some (.lst (List.replicate k.toNat xs).flatten) → Q (.ref p) H') : rRep (.ref a) (.int k) H Q :=
  ⟨a, k, xs, rfl, rfl, h1, by omega, by omega, Nat.le_trans hl (by decide), fun p hp => q p _ hp (same_new hp) upd_same⟩
end
/-! ### xs[::-1] -/
section
variable {prog : Program} {w : World} {A : Around} {E : Value → Shared → Prop} {s : Shared}
open HT
theorem fm_congr {α β : Type} {f g : α → Option β} : ∀ {l : List α}, (∀ x ∈ l, f x = g x) → l.filterMap f = l.filterMap g
  | [], _ => rfl
  | x :: l, h => by
    rw [List.filterMap_cons, List.filterMap_cons, h x List.mem_cons_self, fm_congr fun y hy => h y (List.mem_cons_of_mem _ hy)]
theorem pick_rev (xs : Array Value) : ((List.range xs.size).filterMap fun (m : Nat) => xs[((xs.size : Int) - 1 + (m : Int) * (-1)).toNat]?).toArray = xs.toList.reverse.toArray := by
  congr 1
  have e : ∀ m ∈ List.range xs.size, (fun (m : Nat) => xs[((xs.size : Int) - 1 + (m : Int) * (-1)).toNat]?) m = (fun m => xs.toList.reverse[m]?) m := fun m hm => by
    have hm := List.mem_range.mp hm
    have e1 : ((xs.size : Int) - 1 + (m : Int) * (-1)).toNat = xs.size - 1 - m := by omega
    show xs[((xs.size : Int) - 1 + (m : Int) * (-1)).toNat]? = xs.toList.reverse[m]?
    rw [e1, List.getElem?_reverse (by simpa using hm)]
    simp
  rw [fm_congr e]
  have h2 : xs.size = xs.toList.reverse.length := by simp
  rw [h2]
  generalize xs.toList.reverse = l
  induction l with
  | nil => rfl
  | cons a l ih =>
    rw [List.length_cons, List.range_succ_eq_map, List.filterMap_cons, List.filterMap_map]
    simp only [List.getElem?_cons_zero]
    congr 1
theorem sliceApplied_rev {sl : Addr} {vl vu vs : Value} {n : Nat} {Q : Int × Int × Nat → Shared → Prop} (hs : s.heap.IsSliceOf sl vl vu vs) (pl : IsPart vl none) (pu : IsPart vu none) (ps : IsPart vs (some (-1)))
    (h : Q ((n : Int) - 1, -1, n) s) : wpAny (model prog w) A (Builtin.Slice.sliceApplied (.ref sl) (pure (n : Int))) Q E s := by
  obtain ⟨os, hos, hcs, hds⟩ := id hs
  unfold Builtin.Slice.sliceApplied Builtin.Slice.sliceFields
  refine wpAny_bind (wpAny_bind (wpAny_field hos hds (x := vl) rfl (wpAny_bind (wpAny_field hos hds (x := vu) rfl (wpAny_bind (wpAny_field hos hds (x := vs) rfl (wpAny_pure ?_)))))))
  refine wpAny_bind (slicePart_ ps ?_)
  show wpAny _ _ (if ((-1 : Int) == 0) = true then _ else _) _ _ s
  rw [if_neg (by decide)]
  refine wpAny_bind (slicePart_ pl (wpAny_bind (slicePart_ pu (wpAny_bind (wpAny_pure ?_)))))
  have e1 : Builtin.Slice.sliceAdjust none none (-1) (n : Int) = ((n : Int) - 1, -1) := by
    unfold Builtin.Slice.sliceAdjust
    rfl
  have e2 : Builtin.Slice.slicePlaces ((n : Int) - 1) (-1) (-1) = n := by
    unfold Builtin.Slice.slicePlaces
    have h1 : ¬ ((-1 : Int) > 0) := by omega
    simp only [h1, if_false]
    split
    · rw [show (-(-1 : Int)) = 1 from rfl, Int.ediv_one]
      omega
    · omega
  show wpAny _ _ (match Builtin.Slice.sliceAdjust none none (-1) (n : Int) with | (lo, hi) => pure (lo, (-1 : Int), Builtin.Slice.slicePlaces lo hi (-1))) _ _ s
  rw [e1]
  show wpAny _ _ (pure ((n : Int) - 1, (-1 : Int), Builtin.Slice.slicePlaces ((n : Int) - 1) (-1) (-1))) _ _ s
  rw [e2]
  exact wpAny_pure h
theorem getItem_tuple_rev {t sl : Addr} {items : Array Value} {vl vu vs : Value} {Q : Value → Shared → Prop} (ht : IsTup s.heap t items) (hs : s.heap.IsSliceOf sl vl vu vs) (pl : IsPart vl none) (pu : IsPart vu none) (ps : IsPart vs (some (-1)))
    (h : Q (.ref s.heap.objs.size) { s with heap := s.heap.push { cls := .type "tuple", data := .seq items.toList.reverse.toArray } }) (hsz : items.size ≤ sizeLine) : wpAny (model prog w) A (getItem (.ref t) (.ref sl)) Q E s := by
  have htake : sizeOk (.seq items.toList.reverse.toArray) := by
    show items.toList.reverse.toArray.size ≤ sizeLine
    simpa using hsz
  obtain ⟨os, hos, hcs, hds⟩ := id hs
  have hTs : s.TypeIs (.ref sl) "slice" := ⟨os, hos, hcs⟩
  unfold getItem
  try with_reducible refine wpAny_holding ?_
  first | refine wpAny_bind (wpAny_pure ?_) | skip
  refine wpAny_bind (wpAny_sequenceKey ht.typeIs (by decide) ?_)
  refine wpAny_bind (wpAny_callSpecial?_slot (name := Str.ofString "__getitem__") ht.typeIs PyProof.Rows.slot_tuple_getitem
    (wpAny_call_entry PyProof.Rows.slot_tuple_getitem ht.typeIs entry_tuple_getitem ?_ (args_tuple_getitem _ _)))
  show wpAny _ _ (Builtin.Tuple.tupleItemsOf (.ref t) >>= _) _ _ s
  refine wpAny_bind (tupleItemsOf_ ht ?_)
  refine wpAny_bind (wpAny_typeOf hTs ?_)
  rw [if_pos (by decide)]
  refine wpAny_bind (sliceApplied_rev hs pl pu ps ?_)
  have hno : ¬ (((items.size : Int) - 1 == 0 && (-1 : Int) == 1 && items.size == items.size) = true) := by
    intro q
    rw [Bool.and_eq_true, Bool.and_eq_true] at q
    exact absurd q.1.2 (by decide)
  show wpAny _ _ (if (((items.size : Int) - 1 == 0 && (-1 : Int) == 1 && items.size == items.size) = true) then _ else _) _ _ s
  rw [if_neg hno, pick_rev]
  first
    | exact wpAny_bind (m := Builtin.Tuple.tupleExact _) (wpAny_newObj_type (wpAny_pure ⟨_, rfl, wpAny_pure h⟩) htake)
    | exact wpAny_bind (m := Builtin.Tuple.tupleExact _) (wpAny_newObj_type (wpAny_bind (wpAny_pure (wpAny_pure ⟨_, rfl, wpAny_pure h⟩))) htake)
    | exact wpAny_bind (wpAny_bind (m := Builtin.Tuple.tupleExact _) (wpAny_newObj_type (wpAny_pure (wpAny_pure ⟨_, rfl, wpAny_pure h⟩)) htake))
    | exact wpAny_bind (wpAny_bind (m := Builtin.Tuple.tupleExact _) (wpAny_newObj_type (wpAny_pure ⟨_, rfl, wpAny_pure h⟩) htake))
end
section
variable {X : Cx} {σ : L2.St} {H : Hp} {Q : VK}
/-- of a list or a tuple: a new one of the same kind -/
def rRevQ (K : PySem.W.Frag) (x : V) (H : Hp) (Q : VK) : Prop := ∃ a xs, x = .ref a ∧ Sq K H a xs ∧ ∀ p H', H p = none → L2.Same H H' → Sq K H' p xs.reverse → Q (.ref p) H'
def tRevQ (K : PySem.W.Frag) (te : TE) : TE := fun σ H Q => te σ H fun x H1 => rRevQ K x H1 Q
theorem pe_revQ (K : PySem.W.Frag) (eK : X.K = K) {e : Expr} {te : TE} {k : Nat} {p1 p2 p3 pos : Pos} (he : PE X e te) : PE X (.Subscript e (.Slice none none (some (.UnaryOp .USub (.Constant (.int 1) k p1) p2)) p3) pos) (tRevQ K te) := by
  subst eK
  refine ⟨fun pins s σ H Q I h => ?_⟩
  refine Subscript_ (thn (he.run pins s σ H _ I h) fun v s1 ⟨x, H1, I1, r1, q1⟩ => ?_)
  obtain ⟨a, xs, ex, hx, q⟩ := q1
  subst ex
  cases r1
  have hst : PO X (some (.UnaryOp .USub (.Constant (.int 1) k p1) p2)) (tPart (tUn (rU fun i => .int (-i)) (tC (.int 1)))) := po_some (pe_un un_neg pe_int)
  refine wpAny_Slice (thn (po_none.run pins s1 σ H1 (fun o H2 => o = none ∧ H2 = H1) I1 ⟨rfl, rfl⟩) fun vl s2 ⟨l, H2, I2, pl, el, e2⟩ => ?_)
  subst el e2
  refine thn (po_none.run pins s2 σ H2 (fun o H3 => o = none ∧ H3 = H2) I2 ⟨rfl, rfl⟩) fun vu s3 ⟨u, H3, I3, pu, eu, e3⟩ => ?_
  subst eu e3
  refine thn (hst.run pins s3 σ H3 (fun o H4 => o = some (-1) ∧ H4 = H3) I3 ⟨1, rfl, -1, rfl, rfl, rfl⟩) fun vs s4 ⟨o, H4, I4, ps, eo, e4⟩ => ?_
  subst eo e4
  have I5 : Inv X pins σ H4 { s4 with heap := s4.heap.push { cls := .type "slice", data := .fields #[vl, vu, vs] } } := I4.kept (t' := s4.toks) fun b ob q => Heap.get?_push_of_some _ q
  show wpAny (model X.prog X.w) X.A (subscriptTail e (.Slice none none (some (.UnaryOp .USub (.Constant (.int 1) k p1) p2)) p3) (.ref a) (.ref s4.heap.objs.size)) (EP X pins σ Q) X.xe { s4 with heap := s4.heap.push { cls := .type "slice", data := .fields #[vl, vu, vs] } }
  rcases hx with hx | hx
  · obtain ⟨its, r, ht, hz⟩ := I5.list hx
    have hlen := r.length
    refine tail_any (ops := [.ref a, .ref s4.heap.objs.size]) ht.isList.typeIs (PySem.slot_list_getitem.lookup) ?_ (by with_unfolding_all rfl)
    refine wpAny_getItem_list_slice ht.isList (Heap.IsSliceOf.new _ vl vu vs) pl pu ps (by decide) ?_ (by rw [List.size_toArray]; omega)
    rw [PySem.W.krv_pick]
    have n0 := I5.hok.fresh (Nat.le_refl _)
    refine ⟨.ref _, _, I5.laid (t' := s4.toks) (o := .lst xs.reverse) (fun b ob q => Heap.get?_push_of_some _ q) (Nat.le_refl _) ?_, rfl, q _ _ n0 (same_new n0) (sqL upd_same)⟩
    exact ⟨by rw [List.length_reverse]; exact hz, _, 0, r.reverse, Heap.get?_push_size _ rfl⟩
  · obtain ⟨its, r, ht, hz⟩ := I5.tuple hx
    have hlen := r.length
    refine tail_any (ops := [.ref a, .ref s4.heap.objs.size]) ht.typeIs (PyProof.Rows.slot_tuple_getitem.lookup) ?_ (by with_unfolding_all rfl)
    refine getItem_tuple_rev ht (Heap.IsSliceOf.new _ vl vu vs) pl pu ps ?_ (by rw [List.size_toArray]; omega)
    have n0 := I5.hok.fresh (Nat.le_refl _)
    refine ⟨.ref _, _, I5.laid (t' := s4.toks) (o := .tup xs.reverse) (fun b ob q => Heap.get?_push_of_some _ q) (Nat.le_refl _) ?_, rfl, q _ _ n0 (same_new n0) (sqT upd_same)⟩
    exact ⟨by rw [List.length_reverse]; exact hz, _, r.reverse, IsTup.new _ _⟩
instance {K : PySem.W.Frag} {te : TE} : Stp (tRevQ K te σ H Q) (te σ H fun x H1 => rRevQ K x H1 Q) := ⟨fun h => h⟩
theorem g_revQ {K : PySem.W.Frag} {a : Addr} {xs : List V} (h : Sq K H a xs) (q : ∀ p H', H p = none → L2.Same H H' → Sq K H' p xs.reverse → Q (.ref p) H') : rRevQ K (.ref a) H Q := ⟨a, xs, rfl, h, q⟩
end
/-! ### list(range(..)) -/
section
variable {σ : L2.St} {H : Hp} {Q : VK}
def rLstRg (a b : Int) (H : Hp) (Q : VK) : Prop := RgOk a b ∧ ∀ q, H q = none → Q (.ref q) (upd H q (.lst (rgV a b)))
theorem g_lstRg {a b : Int} (h : RgOk a b) (q : ∀ p H', H p = none → L2.Same H H' → H' p = some (.lst (rgV a b)) → Q (.ref p) H') : rLstRg a b H Q := ⟨h, fun p hp => q p _ hp (same_new hp) upd_same⟩
theorem rgV_ints (a b : Int) : rgV a b = ((List.range (b - a).toNat).map fun (i : Nat) => a + (i : Int)).map V.int := by
  unfold rgV
  rw [List.map_map]
  rfl
end
section
variable {σ : L2.St} {H : Hp} {Q : VK} {ta tb : TE} {R : Int → Int → Hp → Prop}
instance : Stp (tRg1 ta σ H R) (ta σ H fun x H1 => ∃ n, x = .int n ∧ R 0 n H1) := ⟨fun h => h⟩
instance {i : Int} {p : Int → Prop} : Stp (∃ n, V.int i = .int n ∧ p n) (p i) := ⟨fun h => ⟨i, rfl, h⟩⟩
instance : Stp (tRg2 ta tb σ H R) (ta σ H fun x H1 => tb σ H1 fun y H2 => ∃ i j, x = .int i ∧ y = .int j ∧ R i j H2) := ⟨fun h => h⟩
instance {i j : Int} {p : Int → Int → Prop} : Stp (∃ a b, V.int i = .int a ∧ V.int j = .int b ∧ p a b) (p i j) := ⟨fun h => ⟨i, j, rfl, rfl, h⟩⟩
instance {te : L2.St → Hp → (Int → Int → Hp → Prop) → Prop} : Stp (tLstRg te σ H Q) (te σ H fun a b H1 => rLstRg a b H1 Q) := ⟨fun h => h⟩
end
/-! ### the shape of data that == takes -/
def ShD (n : Nat) (d : PyData) : Prop := d.canLay0 = true ∧ d.depth ≤ n
theorem shaped_of {n : Nat} {d : PyData} (h : ShD n d) (hn : n ≤ 64) : SeqAt.shaped d = true := by
  unfold SeqAt.shaped
  rw [h.1, Bool.true_and]
  exact decide_eq_true (Nat.le_trans h.2 hn)
theorem ShD.int {n : Nat} (i : Int) : ShD n (.int i) := ⟨rfl, Nat.zero_le _⟩
theorem ShD.non {n : Nat} : ShD n .none := ⟨rfl, Nat.zero_le _⟩
theorem ShD.bool {n : Nat} (b : Bool) : ShD n (.bool b) := ⟨rfl, Nat.zero_le _⟩
theorem ShD.str {n : Nat} {x : Str} (h : PyData.canLay0 (.str x) = true) : ShD n (.str x) := ⟨h, Nat.zero_le _⟩
def ShA (n : Nat) (ds : List PyData) : Prop := PyData.canLayAll0 ds = true ∧ PyData.depthAll ds ≤ n
theorem ShA.nil {n : Nat} : ShA n [] := ⟨rfl, Nat.zero_le _⟩
theorem ShA.cons {n : Nat} {d : PyData} {ds : List PyData} (h : ShD n d) (r : ShA n ds) : ShA n (d :: ds) := by
  refine ⟨?_, Nat.max_le.mpr ⟨h.2, r.2⟩⟩
  show (PyData.canLay0 d && PyData.canLayAll0 ds) = true
  rw [h.1, r.1]
  rfl
theorem ShA.of {n : Nat} : ∀ {ds : List PyData}, (∀ d ∈ ds, ShD n d) → ShA n ds
  | [], _ => .nil
  | d :: ds, h => .cons (h d List.mem_cons_self) (ShA.of fun x hx => h x (List.mem_cons_of_mem _ hx))
theorem ShA.list {n : Nat} {ds : List PyData} (h : ShA n ds) : ShD (n + 1) (.list ds) := ⟨h.1, Nat.succ_le_succ h.2⟩
theorem ShA.tuple {n : Nat} {ds : List PyData} (h : ShA n ds) : ShD (n + 1) (.tuple ds) := ⟨h.1, Nat.succ_le_succ h.2⟩
theorem ShA.ints {n : Nat} (ns : List Int) : ShA n (ns.map PyData.int) := ShA.of fun d hd => by
  obtain ⟨i, _, rfl⟩ := List.mem_map.mp hd
  exact .int i
end Wk

set_option Elab.async false
set_option linter.all false
set_option maxRecDepth 100000
set_option maxHeartbeats 4000000
/-! WKw: calls with keywords in any order. -/
namespace Wk
open PySem PySem.Spec PyProof.Rows L2
/-- the parameters' values in their order: (false, i) the i-th positional one, (true, i) the i-th keyword's -/
def pickA {α : Type} (d : α) (ix : List (Bool × Nat)) (us ws : List α) : List α := ix.map fun q => if q.1 then ws.getD q.2 d else us.getD q.2 d
theorem vals_getD {vs : List V} {us : List Value} (r : Vals vs us) : ∀ i : Nat, RelV (vs.getD i .non) (us.getD i .none) := by
  induction r with
  | nil => intro i; rfl
  | cons h _ ih =>
    intro i
    cases i with
    | zero => exact h
    | succ i => exact ih i
theorem vals_pick {vs zs : List V} {us ws : List Value} (r1 : Vals vs us) (r2 : Vals zs ws) : ∀ ix : List (Bool × Nat), Vals (pickA .non ix vs zs) (pickA .none ix us ws)
  | [] => .nil
  | (true, i) :: ix => .cons (vals_getD r2 i) (vals_pick r1 r2 ix)
  | (false, i) :: ix => .cons (vals_getD r1 i) (vals_pick r1 r2 ix)
theorem kbn_pick {K : PySem.W.Frag} {fd : FuncData} {ps ks : List Str} {n : Nat} (ix : List (Bool × Nat)) (h : ∀ us ws : List Value, us.length = n → ws.length = ks.length → bindArgs fd ⟨us, ks.zip ws⟩ = pure (ps.zip (pickA .none ix us ws))) : KBn K fd ps n ks (pickA .none ix) (pickA .non ix) :=
  ⟨fun s us ws _ h1 h2 => .of_eq (h us ws h1 h2), fun r1 r2 => vals_pick r1 r2 ix⟩
def RP (n m : Nat) (ix : List (Bool × Nat)) (sp : Sp) (vs zs : List V) (H : Hp) (Q : VK) (E : XK) : Prop := vs.length = n ∧ zs.length = m ∧ sp (pickA .non ix vs zs) H Q E
instance {n m : Nat} {sp : Sp} {E : XK} {t tk : TA} {ix : List (Bool × Nat)} {σ : L2.St} {H : Hp} {Q : VK} : Stp (tCallN n m sp (pickA .non ix) E t tk σ H Q) (t σ H fun vs H1 => tk σ H1 fun zs H2 => RP n m ix sp vs zs H2 Q E) := ⟨fun h => h⟩
/-- f(k = v, ..) -/
theorem pe_callN0 {X : Cx} {CX : CXT} {k : Nat} {f : Addr} {fd : FuncData} {ps ks : List Str} {sp : Sp} {E : XK} {x : Str} {p pos : Pos} {kws : List Keyword} {tk : TA} {g : List Value → List Value → List Value} {gV : List V → List V → List V}
    (F : FnOk X.prog X.w X.K X.mg X.base CX k f fd ps sp) (hr : Room k X.A) (hg : Gl X x) (hm : X.mg x = some (.ref f)) (hk : PySem.W.keepIn X.K (.ref f) = true) (hb : KBn X.K fd ps 0 ks g gV) (hx : Passes CX X E)
    (hkw : PK X kws tk) (hall : (backToKw pos (keywordEach kws X.env)).all (·.1.isSome) = true := by rfl) (hks : (backToKw pos (keywordEach kws X.env)).filterMap (·.1) = ks := by rfl)
    (hdb : (x == ("__debug__" : Str)) = false := by decide)
    (hpl : ((backTo pos (starEach [] X.env)).any (·.1) || (backToKw pos (keywordEach kws X.env)).any (·.1.isNone)) = false := by rfl) :
    PE X (.Call (.Name x p) [] kws pos) (tCallN 0 ks.length sp gV E tNil tk) := by
  refine ⟨fun pins s σ H Q I h => ?_⟩
  refine wpAny_Call_Name_kw (ld_glob I hg hm ?_ hdb)
  refine PySem.W.callWith_KW0 (h₀ := X.base) I.ok.mod.kin hk hall ?_ hpl
  refine thn (hkw.run pos pins s σ H _ I h) fun ws s2 ⟨zs, H2, I2, rz, l1, l2, q2⟩ => ⟨I2.kIn, ?_⟩
  rw [hks]
  exact run_fnN (us := []) (vs := []) F hr hb hx I2 .nil rz l1 l2 q2
end Wk

set_option Elab.async false
set_option linter.all false
set_option maxRecDepth 100000
set_option maxHeartbeats 4000000
/-! WActs: lambdas kept in lists and tried in a comprehension. -/
namespace Wk
open PySem PySem.Spec PyProof.Rows L2 LamX
/-! ### where a lambda stands -/
def noE : Expr := .Constant .none 0 ⟨0, 0, 0, 0⟩
def sSub (n : Nat) : Stmt → Stmt
  | .FunctionDef _ _ b _ _ _ _ _ _ _ => b.getD n (.Pass ⟨0, 0, 0, 0⟩)
  | .For _ _ b _ _ => b.getD n (.Pass ⟨0, 0, 0, 0⟩)
  | .While _ b _ _ => b.getD n (.Pass ⟨0, 0, 0, 0⟩)
  | .If _ b o _ => (b ++ o).getD n (.Pass ⟨0, 0, 0, 0⟩)
  | s => s
def sVal : Stmt → Expr
  | .Assign _ v _ => v
  | .Expr v _ => v
  | .Return (some v) _ => v
  | _ => noE
def eSub (n : Nat) : Expr → Expr
  | .List es _ => es.getD n noE
  | .Call _ es _ _ => es.getD n noE
  | e => e
/-! ### a lambda that is kept -/
def LamF (f : Addr) (ob : Obj) : HO := .frz ob (.ext fun h => h.get? f = some ob)
theorem lamF_ne {f : Addr} {ob : Obj} (ps : Array Value) : LamF f ob ≠ .tbl ps := fun z => by
  unfold LamF at z
  cases z
/-- the lambda le lies at f -/
def LamAt (cells : List (Str × Addr)) (q : Str) (le : Expr) (f : Addr) (H : Hp) : Prop := ∃ (params : Arguments) (body : Expr) (scope : Scope) (pos : Pos) (pm : Value) (c' : Addr) (ctv : Value), le = .Lambda params body scope pos ∧
  H f = some (LamF f (PySem.W.kla_obj "<lambda>" q params body scope (cloFrom cells scope.names []) pm c' ctv)) ∧ H c' = some (CodeO c' q)
theorem LamAt.ext {cells : List (Str × Addr)} {q : Str} {le : Expr} {f : Addr} {H H' : Hp} (h : LamAt cells q le f H) (e : ExtN H H') : LamAt cells q le f H' := by
  obtain ⟨params, body, scope, pos, pm, c', ctv, e1, h1, h2⟩ := h
  exact ⟨params, body, scope, pos, pm, c', ctv, e1, e _ _ h1 lamF_ne, e _ _ h2 codeO_ne⟩
theorem LamAt.same {cells : List (Str × Addr)} {q : Str} {le : Expr} {f : Addr} {H H' : Hp} (h : LamAt cells q le f H) (e : L2.Same H H') : LamAt cells q le f H' := h.ext (ExtN.of e)
section
variable {X : Cx} {pins : List (Addr × Obj)} {σ : L2.St} {H : Hp} {s : Shared}
theorem Inv.track {f : Addr} {ob : Obj} (I : Inv X pins σ H s) (hf : s.heap.get? f = some ob) (F : FpOk X pins H f) : Inv X pins σ (upd H f (LamF f ob)) s := by
  obtain ⟨hn, hL, hfs, h0, hc, hp⟩ := F
  refine ⟨I.ok, I.os, I.bare, ⟨I.base.keep, I.base.slot, fun b o q m hx => ?_, I.base.there, fun b xs q => ?_, fun b o u q => ?_, fun b ps q => ?_⟩, I.loc, I.cell, ?_, fun x c e => ?_, fun p hq => ?_, ?_, I.len⟩
  · have hb : b ≠ f := fun z => by
      subst z
      rcases h0 with z | z
      · exact hx z
      · exact absurd (Heap.lt_size q) (Nat.not_lt.mpr z)
    rw [upd_ne hb]
    exact I.base.free b o q m hx
  · have z := I.base.tups b xs q
    rw [upd_ne (ne_of_none z hn)]
    exact z
  · have z := I.base.frzs b o u q
    rw [upd_ne (ne_of_none z hn)]
    exact z
  · obtain ⟨more, z⟩ := I.base.tbls b ps q
    exact ⟨more, by rw [upd_ne (ne_of_none z hn)]; exact z⟩
  · rw [upd_ne (Ne.symm hL)]
    exact I.free
  · rw [upd_ne (hc x c e)]
    exact I.freeC x c e
  · obtain ⟨h1, h2, h3⟩ := I.pin p hq
    exact ⟨h1, by rw [upd_ne (hp p hq)]; exact h2, h3⟩
  · intro b u q
    by_cases hb : b = f
    · subst hb
      rw [upd_same] at q
      cases q
      exact ⟨hf, hf, ⟨_, hf⟩, fun h1 h2 e st => st _ e⟩
    · rw [upd_ne hb] at q
      exact (I.hok b u q).stay (fun c v _ r => r) (fun c r => by rw [upd_ne (ne_of_none r hn)]; exact r) fun c ys r => by rw [upd_ne (ne_of_none r hn)]; exact r
theorem lam_make3 {T : List (Addr × Str)} {c P : Addr} {params : Arguments} {body : Expr} {scope : Scope} {pos : Pos} {E : Value → Shared → Prop} {Q : Value → Shared → Prop} (I : Inv X pins σ H s) (TB : TabB X.base X.mg c P) (hcode : X.env.code = .ref c)
    (hm : (P, X.env.qual ++ "<lambda>") ∈ T) (hu : ∀ p ∈ T, p.1 = P → p.2 = X.env.qual ++ "<lambda>") (hT : Tabs T H) (hdef : defaultsOf params X.env = ([], [])) (hfree : ∀ y ∈ scope.names, y.2 = .free → ∃ c, X.env.cells.lookup y.1 = some c)
    (h : ∀ (f : Addr) (H1 : Hp) (s' : Shared), Inv X pins σ H1 s' → ExtN H H1 → Tabs T H1 → H f = none → LamAt X.env.cells (X.env.qual ++ "<lambda>") (.Lambda params body scope pos) f H1 → Q (.ref f) s') :
    wpAny (model X.prog X.w) X.A (eval (.Lambda params body scope pos) X.env) Q E s := by
  obtain ⟨ps, hP, ht, ha⟩ := hT _ hm
  refine PySem.W.kla_eval hdef ?_
  have bP : s.heap.BuiltinsAt X.mg P := TB.bm.keeps I.bk
  have hP' : s.heap.get? P = some { cls := .none, data := .fields ps } := I.hok P _ hP
  cases hc : codeAmong pos ps.toList with
  | none =>
    refine PySem.W.kla_makeFunction (mg := X.mg) (c := c) (P := P) (ps := ps) (closure_ok hfree) I.ok.glob (I.mod.glob.keeps I.bk) hcode (TB.code.keeps I.bk) hP' ht hc TB.gP bP fun c' ctv h' tk hx hge hlt hrec htb => ?_
    obtain ⟨c2, oc, vs, t, e2, hoc, hd, hv⟩ := hrec
    cases e2
    have hsz : s.heap.objs.size ≤ h'.objs.size := Nat.le_trans hge (Nat.le_of_lt hlt)
    have nC : H c' = none := I.hok.fresh hge
    have I1 := inv_table (t' := tk) (more := #[rawInt pos.line, rawInt pos.col, .ref c']) (h' := h'.push (PySem.W.kla_obj "<lambda>" (X.env.qual ++ "<lambda>") params body scope (cloFrom X.env.cells scope.names []) ((X.mg "__name__").getD .none) c' ctv)) I hP
      (fun b o hb e => Heap.get?_push_of_some _ (hx b o hb e)) (Heap.get?_push_of_some _ htb) hge ⟨oc, vs, t, Heap.get?_push_of_some _ hoc, hd, hv⟩
    have hE : ExtN H (upd (upd H P (.tbl (ps ++ #[rawInt pos.line, rawInt pos.col, .ref c']))) c' (CodeO c' (X.env.qual ++ "<lambda>"))) := fun b o e n => by
      rw [upd_ne (ne_of_none e nC), upd_ne (fun z => n ps (Option.some.inj (e.symm.trans (by rw [z]; exact hP))))]
      exact e
    have eL : (ps ++ #[rawInt pos.line, rawInt pos.col, .ref c']).toList = ps.toList ++ [rawInt pos.line, rawInt pos.col, .ref c'] := by simp
    have nF : upd (upd H P (.tbl (ps ++ #[rawInt pos.line, rawInt pos.col, .ref c']))) c' (CodeO c' (X.env.qual ++ "<lambda>")) h'.objs.size = none := by
      have n1 : h'.objs.size ≠ c' := Nat.ne_of_gt hlt
      have n2 : h'.objs.size ≠ P := Nat.ne_of_gt (Nat.lt_of_lt_of_le (Heap.lt_size hP') hsz)
      rw [upd_ne n1, upd_ne n2]
      exact I.hok.fresh hsz
    have hT1 : Tabs T (upd (upd H P (.tbl (ps ++ #[rawInt pos.line, rawInt pos.col, .ref c']))) c' (CodeO c' (X.env.qual ++ "<lambda>"))) := fun p hp => by
      by_cases hb : p.1 = P
      · rw [hu p hp hb, hb]
        refine ⟨_, by rw [upd_ne (ne_of_none hP nC), upd_same], by rw [eL]; exact PySem.TriplesOk_snoc _ _ _ _ ht, fun p' cv hcv => ?_⟩
        rw [eL] at hcv
        rcases among_app _ ht hcv with z | z
        · obtain ⟨c0, e1, e2⟩ := ha p' cv z
          exact ⟨c0, e1, hE _ _ e2 codeO_ne⟩
        · exact ⟨c', z, upd_same⟩
      · obtain ⟨ps', a1, a2, a3⟩ := hT p hp
        refine ⟨ps', by rw [upd_ne (ne_of_none a1 nC), upd_ne hb]; exact a1, a2, fun p' cv hcv => ?_⟩
        obtain ⟨c0, e1, e2⟩ := a3 p' cv hcv
        exact ⟨c0, e1, hE _ _ e2 codeO_ne⟩
    have sm := same_new (o := LamF h'.objs.size (PySem.W.kla_obj "<lambda>" (X.env.qual ++ "<lambda>") params body scope (cloFrom X.env.cells scope.names []) ((X.mg "__name__").getD .none) c' ctv)) nF
    exact h h'.objs.size _ _ (Inv.track I1 (Heap.get?_push_size _ rfl) (I.fpOk hsz nF)) (hE.trans (ExtN.of sm)) (hT1.ext sm) (I.hok.fresh hsz) ⟨_, _, _, _, _, c', ctv, rfl, upd_same, sm _ _ upd_same⟩
  | some cv =>
    obtain ⟨c', e, hco⟩ := ha pos cv hc
    subst e
    refine PySem.W.kla_makeFunctionHit (mg := X.mg) (c := c) (P := P) (ps := ps) (closure_ok hfree) I.ok.glob (I.mod.glob.keeps I.bk) hcode (TB.code.keeps I.bk) hP' ht hc bP fun ctv h' tk hx hsz => ?_
    have I1 : Inv X pins σ H { s with heap := h'.push (PySem.W.kla_obj "<lambda>" (X.env.qual ++ "<lambda>") params body scope (cloFrom X.env.cells scope.names []) ((X.mg "__name__").getD .none) c' ctv), toks := tk } := I.kept fun b o e => Heap.get?_push_of_some _ (hx b o e)
    have nF : H h'.objs.size = none := I.hok.fresh hsz
    have sm := same_new (o := LamF h'.objs.size (PySem.W.kla_obj "<lambda>" (X.env.qual ++ "<lambda>") params body scope (cloFrom X.env.cells scope.names []) ((X.mg "__name__").getD .none) c' ctv)) nF
    exact h h'.objs.size _ _ (Inv.track I1 (Heap.get?_push_size _ rfl) (I.fpOk hsz nF)) (ExtN.of sm) (hT.ext sm) nF ⟨_, _, _, _, _, c', ctv, rfl, upd_same, sm _ _ hco⟩
end
def tLamV (T : List (Addr × Str)) (cells : List (Str × Addr)) (q : Str) (le : Expr) : TE := fun _ H Q => Tabs T H ∧ ∀ f H1, ExtN H H1 → Tabs T H1 → H f = none → LamAt cells q le f H1 → Q (.ref f) H1
theorem pe_lamV {X : Cx} {T : List (Addr × Str)} {c P : Addr} {params : Arguments} {body : Expr} {scope : Scope} {pos : Pos} (le : Expr) (TB : TabB X.base X.mg c P) (hcode : X.env.code = .ref c) (hm : (P, X.env.qual ++ "<lambda>") ∈ T) (hu : ∀ p ∈ T, p.1 = P → p.2 = X.env.qual ++ "<lambda>")
    (L : LamS X.env.scope scope) (hdef : defaultsOf params X.env = ([], [])) (el : le = .Lambda params body scope pos) : PE X (.Lambda params body scope pos) (tLamV T X.env.cells (X.env.qual ++ "<lambda>") le) :=
  ⟨fun pins s σ H Q I h => lam_make3 I TB hcode hm hu h.1 hdef (L.has I.ok) fun f H1 s' I1 eN T1 nf la => ⟨.ref f, H1, I1, rfl, h.2 f H1 eN T1 nf (by rw [el]; exact la)⟩⟩
section
variable {X : Cx} {pins : List (Addr × Obj)} {σ : L2.St} {H HZ : Hp} {s s1 : Shared}
/-- the cells stay -/
def CellsK (X : Cx) (s : Shared) (H1 : Hp) (s1 : Shared) : Prop := ∀ y c, X.env.cells.lookup y = some c → H1 c = none ∧ ∀ v, s.heap.IsCell c v → s1.heap.IsCell c v
theorem lam_start3 {A : Around} {outer : List Env} {E : XK} {scope : Scope} {f c' : Addr} {h₁ : Heap} {tk : Nat} (I : Inv X pins σ H s) (L : LamS X.env.scope scope) (e0 : Env0 X.prog X.w X.K X.mg X.base A outer s1 HZ) (hd : A.handled = none)
    (ck : CellsK X s HZ s1) (hns : h₁.Ns s1.heap.objs.size fun y => ([] : List (Str × Value)).reverse.lookup y) (kp : ∀ b o, s1.heap.get? b = some o → h₁.get? b = some o) :
    Inv (lamCx X A outer s1 HZ E scope f c') [] σ HZ { s1 with heap := h₁, toks := tk } := by
  have hfree := L.has I.ok
  have cm : ∀ {y c}, (cloFrom X.env.cells scope.names []).lookup y = some c → X.env.cells.lookup y = some c := fun {y c} e => by
    rcases cloFrom_mem (PySem.mem_of_lookup e) with hm | ⟨h1, h2⟩
    · cases hm
    · obtain ⟨c1, hc⟩ := hfree _ h1 rfl
      have hc : X.env.cells.lookup y = some c1 := hc
      have e2 : c = c1 := by
        rw [h2, hc] <;> rfl
      rw [e2]
      exact hc
  have look : ∀ {y}, scope.names.lookup y = some .free → ∃ c, (cloFrom X.env.cells scope.names []).lookup y = some c := fun {y} hl => by
    have hy : (y, NameKind.free) ∈ scope.names := PySem.mem_of_lookup hl
    exact mem_lookup (cloFrom_has (cells := X.env.cells) (acc := []) hy)
  have cellK : ∀ {y : Str} {c : Addr} {v : Option Value}, X.env.cells.lookup y = some c → s.heap.IsCell c v → h₁.IsCell c v := fun {y c v} n z => by
    obtain ⟨o, ho, hd⟩ := (ck y c n).2 v z
    exact ⟨_, kp _ _ ho, hd⟩
  have noA : ∀ b : Addr, b ∉ (lamCx X A outer s1 HZ E scope f c').ex := fun b z => absurd (show b ∈ ([] : List Addr) from z) (by simp)
  refine ⟨⟨e0.mod, L.kind, rfl, rfl, Nat.le_refl _, fun y z c e1 e2 => I.ok.inj y z c (cm e1) (cm e2), fun y hy => ?_, fun y c z _ => ?_, fun _ => hd, Around.frames_deeper e0.frames, .inr ⟨rfl, rfl⟩, fun b z => absurd z (noA b), e0.bs, e0.bsz, fun b _ _ => noA b,
      fun b z => absurd z (noA b), e0.funs, e0.frf⟩,
    rfl, e0.bare, Un.kept kp, ⟨_, hns, fun i y v e1 e2 e3 => ?_⟩, fun y c e => ?_, e0.hok.fresh (Nat.le_refl _), fun y c e => ?_, fun q hq => absurd (show q ∈ ([] : List (Addr × Obj)) ++ [] from hq) (by simp), e0.hok.kept kp, I.len⟩
  · have hy : scope.names.lookup y = some .cell ∨ scope.names.lookup y = some .free := hy
    rcases hy with hy | hy
    · exact absurd rfl (L.own _ (PySem.mem_of_lookup hy)).2
    · exact look hy
  · have z : false = true := z
    cases z
  · have e3 : Vis scope y := e3
    rcases e3 with k | k | k
    · exact absurd rfl (L.own _ (PySem.mem_of_lookup k)).1
    · exact absurd rfl (L.own _ (PySem.mem_of_lookup k)).2
    · obtain ⟨m, hn, hl⟩ := I.loc
      have hvis : Vis X.env.scope y := (L.free _ (PySem.mem_of_lookup k) rfl).elim (fun k => .inr (.inl k)) (fun k => .inr (.inr k))
      obtain ⟨w', r, q⟩ := hl i y v e1 e2 hvis
      obtain ⟨c2, h2⟩ := look k
      refine ⟨w', r, .inr ⟨.inr k, c2, h2, ?_⟩⟩
      have c1 := cm h2
      rcases q with ⟨k', _⟩ | ⟨_, c3, e', z⟩
      · have k' : X.env.scope.names.lookup y = some .local := k'
        rcases L.free _ (PySem.mem_of_lookup k) rfl with k2 | k2 <;> rw [show X.env.scope.names.lookup y = _ from k2] at k' <;> cases k'
      · rw [c1] at e'
        cases e'
        exact cellK c1 z
  · obtain ⟨w', z⟩ := I.cell y c (cm e)
    exact ⟨w', cellK (cm e) z⟩
  · exact (ck y c (cm e)).1
/-- x(), in the def that got the kept lambda: entered at s', the maker's word is of s -/
theorem pe_actT {CXg : CXT} {Eg : XK} {Ng : List Str} {qg : Str} {sg : Scope} {g f c' : Addr} {cdg pm ctv : Value} {params : Arguments} {body : Expr} {scope : Scope} {k i : Nat} {a : Str} {pn : List (Addr × Obj)} {xe : Value → Shared → Prop} {W : WX} {tb : XK → TE} {p1 p2 : Pos} {s' : Shared} {H' : Hp}
    (I : Inv X pins σ H s) (L : LamS X.env.scope scope) (ck : CellsK X s H' s') (hF : H' f = some (LamF f (PySem.W.kla_obj "<lambda>" (X.env.qual ++ "<lambda>") params body scope (cloFrom X.env.cells scope.names []) pm c' ctv)))
    (hbind : bindArgs (PySem.W.kla_fn "<lambda>" (X.env.qual ++ "<lambda>") params body scope (cloFrom X.env.cells scope.names []) pm (.ref c') ctv) ⟨[], []⟩ = pure [])
    (tk : Takes ((cxOf CXg X.prog X.w X.K X.mg X.base Ng qg sg g cdg X.A X.stack s' H' Eg).tr pn xe) W) (hr : Room (k + 1) (X.A.deeper (envOfC qg sg s'.heap.objs.size g cdg)))
    (hbody : ∀ (E : XK) (A : Around) (outer : List Env) (s : Shared) (H : Hp), Room k (A.deeper (lamEnv X scope s.heap.objs.size f c')) → PE (lamCx X A outer s H E scope f c') body (tb E))
    (hN : Ng[i]? = some a) (hv : Vis sg a) (hd : (a == ("__debug__" : Str)) = false := by decide) (hcd : (a == ("__classdict__" : Str)) = false := by decide) :
    PE ((cxOf CXg X.prog X.w X.K X.mg X.base Ng qg sg g cdg X.A X.stack s' H' Eg).tr pn xe) (.Call (.Name a p1) [] [] p2)
      (fun σZ HZ Q => σZ[i]? = some (some (.ref f)) ∧ HZ c' = some (CodeO c' (X.env.qual ++ "<lambda>")) ∧ tb (WE W σZ) σ HZ Q) := by
  refine ⟨fun pinsZ sZ σZ HZ Q IZ h => ?_⟩
  obtain ⟨hs, hc, ht⟩ := h
  refine wpAny_Call_Name_kw (thn ((pe_var (pos := p1) (i := i) hN hv hd hcd).run pinsZ sZ σZ HZ (fun v H1 => v = .ref f ∧ H1 = HZ) IZ ⟨.ref f, hs, rfl, rfl⟩) fun u s1 ⟨v, H1, I1, r1, q1⟩ => ?_)
  obtain ⟨ev, eH⟩ := q1
  subst ev
  rw [eH] at I1
  obtain rfl : u = Value.ref f := r1
  have un : Un (frs X.stack) [] H' HZ s'.heap s1.heap := I1.base
  have hFZ := un.frzs f _ _ hF
  have of1 : s1.heap.get? f = some (PySem.W.kla_obj "<lambda>" (X.env.qual ++ "<lambda>") params body scope (cloFrom X.env.cells scope.names []) pm c' ctv) := (I1.hok f _ hFZ).1
  refine PySem.W.callWith_F0 ⟨_, _, _, _, of1⟩ ?_
  have ck1 : CellsK X s HZ s1 := fun y c e => by
    obtain ⟨h1, h2⟩ := ck y c e
    obtain ⟨v0, z0⟩ := I.cell y c e
    refine ⟨?_, fun v z => ?_⟩
    · obtain ⟨o, ho, _⟩ := h2 v0 z0
      exact un.free c o ho h1 (by simp)
    · obtain ⟨o, ho, hd⟩ := h2 v z
      obtain ⟨sl, q⟩ := un.any ho h1 (by simp)
      exact ⟨_, q, hd⟩
  obtain ⟨⟨oc, vs, t, hoc, hdc, hvc⟩, _, _⟩ := I1.hok c' _ hc
  have rc : codeAny (model X.prog X.w) (X.A.deeper (envOfC qg sg s'.heap.objs.size g cdg)) (.call (.ref f) ⟨[], []⟩) (CR (L2.CX X.prog X.w) (envOfC qg sg s'.heap.objs.size g cdg :: X.stack) X.prog X.w HZ s1 Q (WE W σZ)) s1 := by
    refine PySem.W.kla_callFunE hr.depth of1 rfl L.co L.gen rfl ⟨c', oc, vs, t, rfl, hoc, hdc, hvc⟩ ?_
    rw [hbind]
    refine wpAny_pure (wpAny_newFunctionEnv (fun y hy => (L.own y hy).2) (fun y hy => absurd hy (by simp)) (fun h₁ hns hsb => ⟨I1.nolimit.fresh _ hsb, ?_⟩) L.kind)
    show codeAny _ _ (.expr body (lamEnv X scope s1.heap.objs.size f c')) _ _
    have kp : ∀ b o, s1.heap.get? b = some o → h₁.get? b = some o := fun b o e => hsb.extBut b o (Nat.ne_of_lt (Heap.lt_size e)) (Heap.get?_push_of_some _ e)
    have J : Inv (lamCx X (X.A.deeper (envOfC qg sg s'.heap.objs.size g cdg)) (envOfC qg sg s'.heap.objs.size g cdg :: X.stack) s1 HZ (WE W σZ) scope f c') [] σ HZ { s1 with heap := h₁, toks := s1.toks + ([] : List (Str × Value)).length } :=
      lam_start3 I L I1.env0 hr.hd ck1 hns kp
    refine PySem.W.kla_codeExpr (wpAny_mono ((hbody _ _ _ s1 HZ (hr.deeper _)).run [] _ _ HZ Q J ht) (fun v s' hq => ?_) fun e s' hq => hq)
    obtain ⟨w', H', J', rv, q⟩ := hq
    exact ⟨w', H', J'.os, J'.bare, J'.base, J'.hok, rv, q⟩
  refine wpAny_call (codeAny_mono rc fun r s' hq => ?_)
  cases r with
  | error e => exact passAt tk σZ pinsZ HZ s1 e s' I1 hq
  | ok fl =>
    cases fl with
    | ret u => exact I1.after hq
    | next => exact False.elim hq
    | brk => exact False.elim hq
    | cont => exact False.elim hq
end
/-- the lambdas of a list, by where they stand and what their bodies read as -/
inductive LamsK (X : Cx) (k : Nat) : List (Expr × (XK → TE)) → Prop
  | nil : LamsK X k []
  | cons {params : Arguments} {body : Expr} {scope : Scope} {pos : Pos} {t : XK → TE} {ls : List (Expr × (XK → TE))} (le : Expr) (e : le = .Lambda params body scope pos) (L : LamS X.env.scope scope)
      (hbind : ∀ (q : Str) (cl : List (Str × Addr)) (pm cv ctv : Value), bindArgs (PySem.W.kla_fn "<lambda>" q params body scope cl pm cv ctv) ⟨[], []⟩ = pure [])
      (hbody : ∀ (E : XK) (A : Around) (outer : List Env) (s : Shared) (H : Hp) (f c' : Addr), Room k (A.deeper (lamEnv X scope s.heap.objs.size f c')) → PE (lamCx X A outer s H E scope f c') body (t E)) (r : LamsK X k ls) : LamsK X k ((le, t) :: ls)
theorem LamsK.mem {X : Cx} {k : Nat} {ls : List (Expr × (XK → TE))} (h : LamsK X k ls) : ∀ p ∈ ls, ∃ (params : Arguments) (body : Expr) (scope : Scope) (pos : Pos), p.1 = .Lambda params body scope pos ∧ LamS X.env.scope scope ∧
    (∀ (q : Str) (cl : List (Str × Addr)) (pm cv ctv : Value), bindArgs (PySem.W.kla_fn "<lambda>" q params body scope cl pm cv ctv) ⟨[], []⟩ = pure []) ∧
    (∀ (E : XK) (A : Around) (outer : List Env) (s : Shared) (H : Hp) (f c' : Addr), Room k (A.deeper (lamEnv X scope s.heap.objs.size f c')) → PE (lamCx X A outer s H E scope f c') body (p.2 E)) := by
  induction h with
  | nil => intro p hp; cases hp
  | cons le e L hbind hbody r ih =>
    intro p hp
    rcases List.mem_cons.mp hp with rfl | hp
    · exact ⟨_, _, _, _, e, L, hbind, hbody⟩
    · exact ih p hp
def tTryV (cells : List (Str × Addr)) (q : Str) (ls : List (Expr × (XK → TE))) (TT : (XK → Hp → VK → Prop) → Hp → VK → Prop) (σ0 : L2.St) (te : TE) : TE := fun σ H Q => te σ H fun v H1 => ∃ (f : Addr) (p : Expr × (XK → TE)), v = .ref f ∧ p ∈ ls ∧ LamAt cells q p.1 f H1 ∧ TT (fun E H' Q' => p.2 E σ0 H' Q') H1 Q
theorem pe_tryV {X : Cx} {pins : List (Addr × Obj)} {σ : L2.St} {H : Hp} {s : Shared} {scope : Scope} {ce : Env} {fp : List Addr} {k : Nat} {ls : List (Expr × (XK → TE))} {TT : (XK → Hp → VK → Prop) → Hp → VK → Prop} {x a : Str} {g : Addr} {stg : Stmt} {fdg : FuncData} {Ng : List Str} {e : Expr} {te : TE} {p pos : Pos}
    (I : Inv X pins σ H s) (hfp : ∀ b ∈ fp, FpOk X pins H b) (hls : LamsK X k ls) (hg : Gl (X.blk s H scope ce fp) x) (hm : X.mg x = some (.ref g)) (Fg : Fun X.K x x stg g fdg) (hb : L2.Binds X.K fdg [a] []) (Sg : FnScope Ng [a] (defScope stg)) (hNg : Ng[0]? = some a) (hva : Vis (defScope stg) a)
    (hG : ∀ cdv, GivesS X Ng x (defScope stg) g cdv (defBody stg) a (X.env.qual ++ "<lambda>") TT) (hr : Room (k + 2) X.A) (he : PE (X.blk s H scope ce fp) e te)
    (hdb : (x == ("__debug__" : Str)) = false := by decide) (hd : (a == ("__debug__" : Str)) = false := by decide) (hcd : (a == ("__classdict__" : Str)) = false := by decide)
    (hst : starEach [e] (X.blk s H scope ce fp).env = (false, eval e (X.blk s H scope ce fp).env) :: starEach [] (X.blk s H scope ce fp).env := by rfl) :
    PE (X.blk s H scope ce fp) (.Call (.Name x p) [e] [] pos) (tTryV X.env.cells (X.env.qual ++ "<lambda>") ls TT σ te) := by
  obtain ⟨oc, od, kV, doc, pm, an, cdv, ct, osl, rfl, lk, hcg⟩ := Fg.ex
  have hk := Fg.kp
  refine ⟨fun pins' s' σ' H' Q I' h => ?_⟩
  refine wpAny_Call_Name_kw (ld_glob (X := X.blk s H scope ce fp) I' hg hm ?_ hdb)
  refine PySem.W.callWith_K (h₀ := X.base) I'.ok.mod.kin hk ?_ hst (by rfl)
  rw [hst]
  show wpAny _ _ (spliced ((false, eval e (X.blk s H scope ce fp).env) :: backTo pos (starEach [] (X.blk s H scope ce fp).env))) _ _ s'
  refine Calls.spliced_cons (thn (he.run pins' s' σ' H' _ I' h) fun u s1 ⟨v, H1, I1, r1, f, pl, ev, hpl, la, ht⟩ => ?_)
  subst ev
  obtain rfl : u = Value.ref f := r1
  refine Calls.spliced_nil ⟨I1.kIn, ?_⟩
  obtain ⟨params, body, sc2, pos2, el, L, hbind, hbody⟩ := hls.mem pl hpl
  obtain ⟨params', body', scope', pos', pm', c', ctv, el', hF, hco⟩ := la
  rw [el] at el'
  cases el'
  have ck : CellsK X s H1 s1 := fun y c e => by
    have un : Un (frs X.stack) fp H H1 s.heap s1.heap := I1.base
    have nf : c ∉ fp := fun z => (hfp c z).2.2.2.2.1 y c e rfl
    have hn := I.freeC y c e
    obtain ⟨v0, o0, z0, _⟩ := I.cell y c e
    refine ⟨un.free c o0 z0 hn nf, fun v ⟨o, ho, hd⟩ => ?_⟩
    obtain ⟨sl, q⟩ := un.any ho hn nf
    exact ⟨_, q, hd⟩
  have rc : codeAny (model X.prog X.w) X.A (.call (.ref g) ⟨[.ref f], []⟩) (CR C8.CX0 X.stack X.prog X.w H1 s1 Q C8.E0) s1 := by
    refine run_ofS (N := Ng) (ps := [a]) (us := [.ref f]) (vs := [.ref f]) lk hcg Sg hr I1.env0 (hb s1 [.ref f] I1.kIn rfl) (.cons rfl .nil) rfl fun hr' => ?_
    obtain ⟨t', ht', hq'⟩ := hG cdv f c' s1 H1 Q (fun E H' Q' => pl.2 E σ H' Q') (fun W pn xe p1 p2 tk => pe_actT (i := 0) I L ck hF (hbind _ _ _ _ _) tk hr' (fun E A outer s H hr2 => hbody E A outer s H f c' hr2) hNg hva hd hcd) hco ht
    exact ⟨t', ht'.nox, hq'⟩
  refine wpAny_call (codeAny_mono rc fun r s2 hq => ?_)
  cases r with
  | error e => exact (show False from hq).elim
  | ok fl =>
    cases fl with
    | ret u => exact I1.after hq
    | next => exact False.elim hq
    | brk => exact False.elim hq
    | cont => exact False.elim hq
/-! ### comprehensions that know their maker -/
section
variable {X : Cx}
theorem lc_coreM {pins : List (Addr × Obj)} {s : Shared} {σ : L2.St} {H : Hp} {Q : VK} {elt tg iter : Expr} {ifs : List Expr} {scope : Scope} {own : List (Str × Nat)} {pos pos' : Pos} {wi : TI} {g : TG} {tt : TT} {te : TE} {use : Option (Value → Sem Unit)} {Qf : Value → Shared → Prop}
    (hc : X.calm = true) (hN : X.N.Nodup) (I : Inv X pins σ H s) (hi : PI X tg iter wi) (ok : BlkOk X.N X.env.scope scope own)
    (hg : ∀ (s : Shared) (H : Hp) (C : Addr) (cl : List (Str × Addr)) (fp : List Addr), PG (X.blk s H scope (compEnvC scope cl C X.env) fp) tg g) (ht : ∀ (s : Shared) (H : Hp) (C : Addr) (cl : List (Str × Addr)) (fp : List Addr), PTs (X.blk s H scope (compEnvC scope cl C X.env) fp) ifs tt)
    (he : ∀ (pins : List (Addr × Obj)) (s : Shared) (H : Hp) (C : Addr) (cl : List (Str × Addr)) (fp : List Addr), Inv X pins σ H s → (∀ b ∈ fp, FpOk X pins H b) → PE (X.blk s H scope (compEnvC scope cl C X.env) fp) elt te) (hs : ∀ x, foldedSetIterable iter X.env x = pure x)
    (h : tLc wi g tt te (own.map (·.2)) σ H Q)
    (hRR : ∀ D C s' m H', Inv X pins σ H' s' → Q (.ref D) H' → s'.heap.Ns C m → FpOk X pins H' C → compPost (model X.prog X.w) X.A X.xe use Qf (.ref D) C (.ok .next) s') :
    wpAny (model X.prog X.w) X.A (comprehension (.ListComp elt [⟨tg, iter, ifs, 0⟩] scope pos) scope X.env pos' (newList []) false (eval iter X.env) use) Qf X.xe s := by
  have hfree : ∀ y ∈ scope.names, y.2 = .free → ∃ c, X.env.cells.lookup y.1 = some c := fun y hy e => by
    rcases ok.free y hy e with k | k
    · exact I.ok.has _ (.inl k)
    · exact I.ok.has _ (.inr k)
  refine wpAny_comprehension_free (use := use) rfl hs (closure_ok hfree) ok.kind (fun y hy e => by rw [ok.uniq y hy, e])
    (thn (hi.run pins s σ H _ I h) fun xv s1 hx => thn hx fun itv s2 h2 => ?_)
  obtain ⟨it, fp, tn, J, H2, e, I2, T, st2, f2, q⟩ := h2
  subst e
  refine wpAny_newObj_type (newEnv_comp ?_) (by show 0 ≤ sizeLine; decide)
  generalize hD : s2.heap.objs.size = D
  have hDn : H2 D = none := I2.hok.fresh (Nat.le_of_eq hD)
  obtain ⟨W, ⟨m0, w0⟩, turn⟩ := q D hDn
  generalize hs3 : ({ s2 with heap := s2.heap.push { cls := .type "list", data := .seq ([] : List Value).toArray } } : Shared) = s3
  have I3 : Inv X pins σ (upd H2 D (.lst [])) s3 := by
    rw [← hs3]
    refine I2.laid (t' := s2.toks) (fun b o e => Heap.get?_push_of_some _ e) (Nat.le_of_eq hD) ⟨Nat.zero_le _, [], 0, .nil, ?_⟩
    rw [← hD]
    exact Heap.get?_push_size _ rfl
  have h3 : s3.heap = s2.heap.push { cls := .type "list", data := .seq ([] : List Value).toArray } := by rw [← hs3]
  have sz : ∀ b ∈ fp, b < s2.heap.objs.size := fun b hb => by
    obtain ⟨o, e, _⟩ := T.obj _ _ st2 b hb
    exact Heap.lt_size e
  have f3 : ∀ b ∈ fp, FpOk X pins (upd H2 D (.lst [])) b ∧ b < s3.heap.objs.size := fun b hb => by
    have hlt := sz b hb
    refine ⟨⟨?_, (f2 b hb).2⟩, by rw [h3, Heap.size_push]; exact Nat.lt_succ_of_lt hlt⟩
    rw [upd_ne (by rw [← hD]; exact Nat.ne_of_lt hlt)]
    exact (f2 b hb).1
  have st3 : tn 0 s3.heap := T.keep _ _ _ st2 fun b _ o e => by rw [h3]; exact Heap.get?_push_of_some _ e
  have I4 := block_start I3 ok hN f3
  have pg := hg s3 (upd H2 D (.lst [])) s3.heap.objs.size (cellsFrom (s3.heap.objs.size + 1) scope.names (cloFrom X.env.cells scope.names [])) fp
  have pt := ht s3 (upd H2 D (.lst [])) s3.heap.objs.size (cellsFrom (s3.heap.objs.size + 1) scope.names (cloFrom X.env.cells scope.names [])) fp
  have pe := he pins s3 (upd H2 D (.lst [])) s3.heap.objs.size (cellsFrom (s3.heap.objs.size + 1) scope.names (cloFrom X.env.cells scope.names [])) fp I3 (fun b hb => (f3 b hb).1)
  show codeAny _ _ (.compStart (.ListComp elt [⟨tg, iter, ifs, 0⟩] scope pos) 0 (.ref it) (.ref D) (compEnvC scope (cellsFrom (s3.heap.objs.size + 1) scope.names (cloFrom X.env.cells scope.names [])) s3.heap.objs.size X.env)) (compPost (model X.prog X.w) X.A X.xe use Qf (.ref D) s3.heap.objs.size) { s3 with heap := pushCells (s3.heap.push { cls := .type "dict", data := .dict #[] }) scope.names }
  have nfp : ∀ b ∈ fp, (upd H2 D (.lst [])) b = none := fun b hb => (f3 b hb).1.1
  generalize hce : compEnvC scope (cellsFrom (s3.heap.objs.size + 1) scope.names (cloFrom X.env.cells scope.names [])) s3.heap.objs.size X.env = ce at I4 pg pt pe ⊢
  have cL : ce.locals = s3.heap.objs.size := by subst hce; rfl
  generalize hH3 : upd H2 D (.lst []) = H3 at I3 I4 pg pt pe w0 nfp f3
  generalize hs4 : ({ s3 with heap := pushCells (s3.heap.push { cls := .type "dict", data := .dict #[] }) scope.names } : Shared) = s4 at I4 ⊢
  have st4 : tn 0 s4.heap := T.keep _ _ _ st3 fun b _ o e => by rw [← hs4]; exact pushCells_keeps _ _ _ _ (Heap.get?_push_of_some _ e)
  have stat : ∀ {σ' : L2.St} {H' : Hp} {s' : Shared}, Inv (X.blk s3 H3 scope ce fp) [] σ' H' s' → (∀ b ∈ fp, H' b = none) → ∀ b ∈ fp, FpOk (X.blk s3 H3 scope ce fp) [] H' b := fun {σ' H' s'} I' hn b hb =>
    ⟨hn b hb, (I'.ok.exf b hb).1, I'.ok.exfs b hb, .inl hb, fun x c e => (I'.ok.exf b hb).2 x c e, fun p hp => absurd (show p ∈ ([] : List (Addr × Obj)) ++ [] from hp) (by simp)⟩
  have loop : codeAny (model X.prog X.w) X.A (.compLoop (.ListComp elt [⟨tg, iter, ifs, 0⟩] scope pos) 0 (.ref it) (.ref D) ce) (compPost (model X.prog X.w) X.A X.xe use Qf (.ref D) s3.heap.objs.size) s4 := by
    refine compLoop_any (fun n s' => ∃ i H', Inv (X.blk s3 H3 scope ce fp) [] (wipe σ (own.map (·.2))) H' s' ∧ tn i s'.heap ∧ (∀ b ∈ fp, H' b = none) ∧ W i n H') ?_ m0 ⟨0, H3, I4, st4, nfp, w0⟩
    rintro n s5 ⟨i, H5, I5, st5, n5, w5⟩
    rcases turn i n H5 w5 with ⟨stop, qq⟩ | ⟨go, Nx, hNx, step⟩
    · have td := T.done (X.blk s3 H3 scope ce fp) rfl rfl rfl hc i [] s5 _ H5 (fun _ _ => False) I5 (stat I5 n5) st5 stop
      refine thnF td fun r s6 ⟨hr, I6⟩ => ?_
      subst hr
      have I7 : Inv X pins σ H5 s6 := I3.call' (ch := fp) I6.os I6.base I6.hok I6.bare fun b hb => ⟨(f3 b hb).1.2.2.2.1, (f3 b hb).1.2.1, (f3 b hb).1.2.2.2.2.1, (f3 b hb).1.2.2.2.2.2⟩
      have nC : H5 s3.heap.objs.size = none := by
        have z : H5 ce.locals = none := I6.free
        rw [cL] at z
        exact z
      obtain ⟨m, hn, _⟩ := I6.loc
      have hn : s6.heap.Ns ce.locals m := hn
      rw [cL] at hn
      exact hRR D s3.heap.objs.size s6 m H5 I7 qq hn (I3.fpOk (Nat.le_refl _) nC)
    · have ti := T.item (X.blk s3 H3 scope ce fp) rfl rfl rfl hc i [] s5 _ H5 (fun _ _ => False) I5 (stat I5 n5) st5 go
      refine thnF ti fun r s6 ⟨u, hr, h6⟩ => ?_
      subst hr
      refine thnF h6 fun _ s7 ⟨x, H7, I7, r7, y7, st7, n7⟩ => ?_
      have I7' := I7.pinned (stat I7 n7) (T.obj _ _ st7)
      refine thnF (pg.run _ s7 _ H7 x u _ I7' r7 (step x H7 y7)) fun _ s8 ⟨σ8, H8, I8, hw8, q8⟩ => ?_
      refine thnF (pt.run _ s8 σ8 H8 _ I8 q8) fun b s9 ⟨H9, I9, q9⟩ => ?_
      have fin : ∀ {s' : Shared} {H' : Hp}, Inv (X.blk s3 H3 scope ce fp) ([] ++ pinsAt fp s7.heap) σ8 H' s' → Nx H' → ∃ m, m < n ∧ ∃ i H', Inv (X.blk s3 H3 scope ce fp) [] (wipe σ (own.map (·.2))) H' s' ∧ tn i s'.heap ∧ (∀ b ∈ fp, H' b = none) ∧ W i m H' := fun {s' H'} I' nx => by
        obtain ⟨m', hm, w'⟩ := hNx H' nx
        have pin' : ∀ b ∈ fp, ∀ o, s7.heap.get? b = some o → s'.heap.get? b = some o ∧ H' b = none := fun b hb o e =>
          let z := I'.pin (b, o) (List.mem_append_right _ (List.mem_append_right _ (mem_pinsAt hb e)))
          ⟨z.1, z.2.1⟩
        have hl : (wipe σ (own.map (·.2))).length = σ8.length := by rw [← hw8, wipe_length]
        refine ⟨m', hm, i + 1, H', (I'.unpinned (pins := [])).weak hl (fun j v e => ?_), T.keep _ _ _ st7 fun b hb o e => (pin' b hb o e).1, fun b hb => ?_, w'⟩
        · rw [← hw8] at e
          exact (wipe_some e).1
        · obtain ⟨o, e, _⟩ := T.obj _ _ st7 b hb
          exact (pin' b hb o e).2
      cases b with
      | false =>
        simp only [Bool.false_eq_true, if_false] at q9 ⊢
        exact fin I9 q9
      | true =>
        simp only [if_true] at q9 ⊢
        refine thnF (pe.run _ s9 σ8 H9 _ I9 q9) fun z s10 ⟨yv, H10, I10, r10, acc, hD10, hz10, nx⟩ => ?_
        exact app_ok (X := X.blk s3 H3 scope ce fp) I10 hD10 hz10 r10 fun s11 I11 => fin I11 nx
  exact codeAny_compStart_list loop (T.self X.A 0 _ _ _ st4 loop)
def tLcM (wi : TI) (g : TG) (tt : TT) (te : L2.St → TE) (vs : List Nat) : TE := fun σ H Q => tLc wi g tt (te σ) vs σ H Q
theorem pe_lcM {elt tg iter : Expr} {ifs : List Expr} {scope : Scope} {own : List (Str × Nat)} {pos : Pos} {wi : TI} {g : TG} {tt : TT} {te : L2.St → TE} (hc : X.calm = true) (hN : X.N.Nodup) (hi : PI X tg iter wi) (ok : BlkOk X.N X.env.scope scope own)
    (hg : ∀ (s : Shared) (H : Hp) (C : Addr) (cl : List (Str × Addr)) (fp : List Addr), PG (X.blk s H scope (compEnvC scope cl C X.env) fp) tg g) (ht : ∀ (s : Shared) (H : Hp) (C : Addr) (cl : List (Str × Addr)) (fp : List Addr), PTs (X.blk s H scope (compEnvC scope cl C X.env) fp) ifs tt)
    (he : ∀ (σ : L2.St) (pins : List (Addr × Obj)) (s : Shared) (H : Hp) (C : Addr) (cl : List (Str × Addr)) (fp : List Addr), Inv X pins σ H s → (∀ b ∈ fp, FpOk X pins H b) → PE (X.blk s H scope (compEnvC scope cl C X.env) fp) elt (te σ)) (hs : ∀ x, foldedSetIterable iter X.env x = pure x := by intro _; rfl) :
    PE X (.ListComp elt [⟨tg, iter, ifs, 0⟩] scope pos) (tLcM wi g tt te (own.map (·.2))) := by
  refine ⟨fun pins s σ H Q I h => ?_⟩
  rw [eval_ListComp]
  refine lc_coreM hc hN I hi ok hg ht (he σ) hs h fun D C s' m H' I' q hn f => ⟨m, hn, fun h'' sb => ?_⟩
  obtain ⟨f0, f1, f2, f3, f4, f5⟩ := f
  exact ⟨.ref D, H', I'.turned (t' := s'.toks) (fun b o hb e => (sb.2 b hb).trans e) f0 f1 f3 f4 f5, rfl, q⟩
end
theorem mem0 {α : Type} {a : α} {l : List α} : a ∈ a :: l := List.mem_cons_self
theorem mem1 {α : Type} {a b : α} {l : List α} : a ∈ b :: a :: l := List.mem_cons_of_mem _ mem0
theorem mem2 {α : Type} {a b c : α} {l : List α} : a ∈ b :: c :: a :: l := List.mem_cons_of_mem _ mem1
theorem mem3 {α : Type} {a b c d : α} {l : List α} : a ∈ b :: c :: d :: a :: l := List.mem_cons_of_mem _ mem2
theorem len_two {α : Type} {l : List α} (h : l.length = 2) : ∃ a b, l = [a, b] := by
  match l, h with
  | [a, b], _ => exact ⟨a, b, rfl⟩
/-! ### the walk's steps -/
section
variable {σ σ0 : L2.St} {H H0 H1 H' : Hp} {Q : VK} {K : PySem.W.Frag} {p f : Addr} {les : List Expr} {le : Expr} {L : List (Addr × Str)} {TT : (XK → Hp → VK → Prop) → Hp → VK → Prop} {t : XK → TE} {cells : List (Str × Addr)} {q : Str} {ls : List (Expr × (XK → TE))} {te : TE}
def LamsAt (cells : List (Str × Addr)) (q : Str) : List Expr → List V → Hp → Prop
  | [], [], _ => True
  | le :: les, v :: vs, H => (∃ f, v = .ref f ∧ LamAt cells q le f H) ∧ LamsAt cells q les vs H
  | _, _, _ => False
theorem LamsAt.ext : ∀ {les : List Expr} {vs : List V}, LamsAt cells q les vs H → ExtN H H' → LamsAt cells q les vs H'
  | [], [], _, _ => True.intro
  | _ :: _, _ :: _, ⟨⟨f, e, a⟩, r⟩, x => ⟨⟨f, e, a.ext x⟩, r.ext x⟩
  | [], _ :: _, h, _ => h.elim
  | _ :: _, [], h, _ => h.elim
theorem LamsAt.snoc : ∀ {les : List Expr} {vs : List V}, LamsAt cells q les vs H → LamAt cells q le f H → LamsAt cells q (les ++ [le]) (vs ++ [.ref f]) H
  | [], [], _, a => ⟨⟨f, rfl, a⟩, True.intro⟩
  | _ :: _, _ :: _, ⟨h, r⟩, a => ⟨h, r.snoc a⟩
  | [], _ :: _, h, _ => h.elim
  | _ :: _, [], h, _ => h.elim
theorem LamsAt.len : ∀ {les : List Expr} {vs : List V}, LamsAt cells q les vs H → vs.length = les.length
  | [], [], _ => rfl
  | _ :: _, _ :: _, ⟨_, r⟩ => congrArg Nat.succ r.len
  | [], _ :: _, h => h.elim
  | _ :: _, [], h => h.elim
theorem LamsAt.get : ∀ {les : List Expr} {vs : List V} {i : Nat} {x : V}, LamsAt cells q les vs H → vs[i]? = some x → ∃ f le, x = .ref f ∧ les[i]? = some le ∧ LamAt cells q le f H
  | le :: les, v :: vs, 0, x, ⟨⟨f, e, a⟩, _⟩, h => by
    cases h
    exact ⟨f, le, e, rfl, a⟩
  | _ :: _, _ :: _, i + 1, x, ⟨_, r⟩, h => r.get (i := i) h
  | [], [], _, _, _, h => by simp at h
  | [], _ :: _, _, _, h, _ => h.elim
  | _ :: _, [], _, _, h, _ => h.elim
def LcA (L : List (Addr × Str)) (cells : List (Str × Addr)) (q : Str) (H : Hp) (p : Addr) (les : List Expr) (H' : Hp) : Prop := ∃ (B : Hp) (vs : List V), H' = upd B p (.lst vs) ∧ B p = none ∧ ExtN H B ∧ Tabs L B ∧ LamsAt cells q les vs B ∧ les.length ≤ 1000
theorem LcA.ext (w : LcA L cells q H p les H') : ExtN H H' := by
  obtain ⟨B, ys, rfl, hB, sm, _⟩ := w
  exact sm.trans (ExtN.of (same_new hB))
theorem LcA.tabs (w : LcA L cells q H p les H') : Tabs L H' := by
  obtain ⟨B, ys, rfl, hB, sm, hT, _⟩ := w
  exact hT.ext (same_new hB)
theorem LcA.at (w : LcA L cells q H p les H') : ∃ vs, H' p = some (.lst vs) ∧ LamsAt cells q les vs H' := by
  obtain ⟨B, ys, rfl, hB, sm, hT, la, _⟩ := w
  exact ⟨ys, upd_same, la.ext (ExtN.of (same_new hB))⟩
theorem g_lamV (hT : Tabs L H) (k : ∀ f H1, ExtN H H1 → Tabs L H1 → H f = none → LamAt cells q le f H1 → Q (.ref f) H1) : tLamV L cells q le σ H Q := ⟨hT, k⟩
theorem lca_of (n : H p = none) (s : L2.Same H H') (e : H' p = some (.lst [.ref f])) (la : LamAt cells q le f H) (hT : Tabs L H) : LcA L cells q H p [le] H' := by
  have sb : L2.Same H (hid H' p) := fun b o q => by
    rw [hid_ne (ne_of_none q n)]
    exact s b o q
  refine ⟨hid H' p, [.ref f], ?_, hid_same, ExtN.of sb, hT.ext sb, ⟨⟨f, rfl, la.same sb⟩, True.intro⟩, by simp⟩
  funext b
  by_cases hb : b = p
  · rw [hb, e, upd_same]
  · rw [upd_ne hb, hid_ne hb]
theorem g_appA (w : LcA L cells q H0 p les H) (hz : les.length < 1000) (k : ∀ H', LcA L cells q H0 p (les ++ [le]) H' → Q .non H') : tyV K "list" (.ref p) H ∧ tCons (tHid (tLamV L cells q le)) tNil σ H fun xs H2 => rAppend (.ref p) xs H2 Q := by
  obtain ⟨B, ys, rfl, hB, sm, hT, la, hl⟩ := w
  refine ⟨.inl ⟨rfl, ys, .inl (.inl upd_same)⟩, p, ys, upd_same, ?_⟩
  rw [hid_upd hB]
  refine ⟨hT, fun f H1 eN T1 nf lf hn => ⟨p, ys, .ref f, rfl, rfl, upd_same, ?_, k _ ⟨H1, ys ++ [.ref f], by rw [upd_upd], hn, sm.trans eN, T1, (la.ext eN).snoc lf, by simp; omega⟩⟩⟩
  rw [la.len]
  exact Nat.lt_of_lt_of_le hz (by decide)
def rTry (cells : List (Str × Addr)) (q : Str) (ls : List (Expr × (XK → TE))) (TT : (XK → Hp → VK → Prop) → Hp → VK → Prop) (σ0 : L2.St) (v : V) (H : Hp) (Q : VK) : Prop := ∃ (f : Addr) (p : Expr × (XK → TE)), v = .ref f ∧ p ∈ ls ∧ LamAt cells q p.1 f H ∧ TT (fun E H' Q' => p.2 E σ0 H' Q') H Q
instance : Stp (tTryV cells q ls TT σ0 te σ H Q) (te σ H fun v H1 => rTry cells q ls TT σ0 v H1 Q) := ⟨fun h => h⟩
instance {wi : TI} {g : TG} {tt : L2.TT} {te : L2.St → TE} {vs : List Nat} : Stp (tLcM wi g tt te vs σ H Q) (wi σ H fun J H1 => LC J g tt (te σ) vs σ Q H1) := ⟨fun h => h⟩
theorem g_rTry (la : LamAt cells q le f H) (hm : (le, t) ∈ ls) (k : TT (fun E H' Q' => t E σ0 H' Q') H Q) : rTry cells q ls TT σ0 (.ref f) H Q := ⟨f, (le, t), rfl, hm, la, k⟩
/-- [try(x) for x in xs], xs the kept lambdas -/
theorem lc_acts {J : It} {G : Hp → Prop} {xs : List V} {a : Addr} {j : Nat} {vs : List Nat} (sg : V → L2.St) (ds : List PyData) (w : Walk J xs.length G (YAt xs)) (hG : ∀ H', (∀ o, H a = some o → H' a = some o) → G H') (la : LamsAt cells q les xs H) (hl : ds.length = les.length) (hz : ds.length ≤ 100000) (hg : ∀ x, (wipe σ vs).set j (some x) = sg x) (hw : ∀ x, wipe (sg x) vs = wipe σ vs)
    (he : ∀ (i : Nat) (f : Addr) (le : Expr) (d : PyData) (B : Hp), les[i]? = some le → ds[i]? = some d → L2.Same H B → LamAt cells q le f B → ∀ q : VK, (∀ v B', L2.Same B B' → Dp K B' v d → q v B') → te (sg (.ref f)) B q)
    (k : ∀ p H', H p = none → L2.Same H H' → (∃ ys, H' p = some (.lst ys) ∧ DpAll K H' ys ds) → Q (.ref p) H') : LC J (gName j) tYes (tHid te) vs σ Q H :=
  lc_dp sg ds w hG (hl.trans la.len.symm) hz hg hw (fun i x d B ex ed sm q hq => by
    obtain ⟨f, le, rfl, h1, h2⟩ := la.get ex
    exact he i f le d B h1 ed sm (h2.same sm) q hq) k
end
end Wk

set_option Elab.async false
set_option linter.all false
set_option maxRecDepth 100000
set_option maxHeartbeats 4000000
/-! WZip: zip of two sequences, each a list or a tuple. -/
namespace Wk
open PySem PySem.Spec PyProof.Rows L2
def SIt : Bool → Heap → Addr → Addr → Nat → Prop
  | true, h, it, l, i => h.IsTupleIter it l i
  | false, h, it, l, i => h.IsListIter it l i
def SIs : Bool → Heap → Addr → Array Value → Prop
  | true, h, l, its => h.IsTuple l its
  | false, h, l, its => h.IsList l its
def SqB (K : PySem.W.Frag) : Bool → Hp → Addr → List V → Prop
  | true, H, a, xs => SqT K H a xs
  | false, H, a, xs => SqL K H a xs
def itO : Bool → Addr → Obj
  | true, l => { cls := .type "tuple_iterator", data := .fields #[.ref l, .int 0 0] }
  | false, l => { cls := .type "list_iterator", data := .fields #[.ref l, .int 0 0] }
theorem drawsQ {prog : Program} {w : World} {A : Around} (hh : A.handled = none) : ∀ (t : Bool) (it l : Addr) (hne : l ≠ it) (items : Array Value), Draws prog w A it [it, l] items.size (fun i v => items[i]? = some v) (fun i h => SIt t h it l i ∧ SIs t h l items)
  | true, it, l, hne, items => Draws.tuple hh it l hne items
  | false, it, l, hne, items => Draws.list hh it l hne items
theorem beginsQ : ∀ (t : Bool) (l : Addr) (items : Array Value), Begins (.ref l) (itO t l) fun h => SIs t h l items
  | true, l, items => begins_tuple l items
  | false, l, items => begins_list l items
theorem SIt.obj : ∀ {t : Bool} {h : Heap} {it l : Addr} {i : Nat}, SIt t h it l i → ∃ o, h.get? it = some o ∧ ∀ v, o.data ≠ .cell v
  | true, _, _, _, _, ⟨o, e, _, d⟩ => ⟨o, e, fun v q => by rw [d] at q; cases q⟩
  | false, _, _, _, _, ⟨o, e, _, d⟩ => ⟨o, e, fun v q => by rw [d] at q; cases q⟩
theorem SIt.to : ∀ {t : Bool} {h h' : Heap} {it l : Addr} {i : Nat}, SIt t h it l i → (∀ o, h.get? it = some o → h'.get? it = some o) → SIt t h' it l i
  | true, _, _, _, _, _, z, k => Heap.IsTupleIter.at z k
  | false, _, _, _, _, _, z, k => Heap.IsListIter.at z k
theorem SIt.new : ∀ {t : Bool} {h : Heap} {it l : Addr}, h.get? it = some (itO t l) → SIt t h it l 0
  | true, _, _, _, e => ⟨_, e, rfl, rfl⟩
  | false, _, _, _, e => ⟨_, e, rfl, rfl⟩
theorem SqB.at {X : Cx} {pins : List (Addr × Obj)} {σ : L2.St} {H : Hp} {s : Shared} (I : Inv X pins σ H s) : ∀ {t : Bool} {a : Addr} {xs : List V}, SqB X.K t H a xs → ∃ its : List Value, Vals xs its ∧ SIs t s.heap a its.toArray ∧ a < s.heap.objs.size
  | true, a, xs, h => by
    obtain ⟨its, rv, p, _⟩ := I.tuple h
    obtain ⟨o, ho, _⟩ := id p
    exact ⟨its, rv, p, Heap.lt_size ho⟩
  | false, a, xs, h => by
    obtain ⟨its, rv, p, _⟩ := I.list h
    exact ⟨its, rv, p.isList, p.lt⟩
def ItZ (K : PySem.W.Frag) (ta tb : Bool) (a b : Addr) (xs ys : List V) : It :=
  ⟨fun i H => SqB K ta H a xs ∧ SqB K tb H b ys ∧ i < xs.length ∧ i < ys.length,
    fun i H v H' => ∃ T x y, v = .ref T ∧ H T = none ∧ H' = upd H T (.tup [x, y]) ∧ xs[i]? = some x ∧ ys[i]? = some y,
    fun i H => SqB K ta H a xs ∧ SqB K tb H b ys ∧ i ≤ xs.length ∧ i ≤ ys.length ∧ (i = xs.length ∨ i = ys.length)⟩
theorem turn_zipQ {P : Program} {w : World} {K : PySem.W.Frag} {elts : List Expr} {kk : Nat} {tpos : Pos} {ta tb : Bool} {a b z TI TO i1 i2 : Addr} {xs ys : List V} (S : ZipSep2 z TI TO i1 i2 [i1, a] [i2, b]) (n1 : a ≠ i1) (n2 : b ≠ i2) :
    Turn P w K (.Tuple elts kk tpos) (ItZ K ta tb a b xs ys) [z, TI, TO, i1, i2] z (fun i h => IsZip h z TI TO .none ∧ IsTupOf2 h TI (.ref i1) (.ref i2) ∧ (∃ x y, IsTupOf2 h TO x y) ∧ SIt ta h i1 a i ∧ SIt tb h i2 b i) where
  mem := by simp
  obj := fun i h st c hc => by
    obtain ⟨hz, hTI, ⟨x, y, hTO⟩, h1, h2⟩ := st
    have e' : c = z ∨ c = TI ∨ c = TO ∨ c = i1 ∨ c = i2 := by simpa using hc
    rcases e' with q | q | q | q | q
    · rw [q]; exact ⟨_, hz, fun v q => nomatch q⟩
    · rw [q]; exact ⟨_, hTI, fun v q => nomatch q⟩
    · rw [q]; exact ⟨_, hTO, fun v q => nomatch q⟩
    · rw [q]; exact h1.obj
    · rw [q]; exact h2.obj
  keep := fun i h h' st k => by
    obtain ⟨hz, hTI, ⟨x, y, hTO⟩, h1, h2⟩ := st
    exact ⟨k z (by simp) _ hz, k TI (by simp) _ hTI, ⟨x, y, k TO (by simp) _ hTO⟩, h1.to fun o q => k i1 (by simp) o q, h2.to fun o q => k i2 (by simp) o q⟩
  item := by
    intro X hP hw hK hc i pins s σ H E I hf st hg
    subst hP hw hK
    obtain ⟨hz, hTI, ⟨x0, y0, hTO⟩, h1, h2⟩ := st
    obtain ⟨hqx, hqy, hx, hy⟩ := hg
    obtain ⟨its, rv, p, _⟩ := hqx.at I
    obtain ⟨its2, rv2, p2, _⟩ := hqy.at I
    have l1 := rv.length
    have l2 := rv2.length
    have hzl : z < s.heap.objs.size := Heap.lt_size hz
    refine wpAny_pyNext_zipD2_item S (drawsQ (show X.A.in1.handled = none from I.ok.hd hc) ta i1 a n1 its.toArray) (drawsQ (show X.A.in1.handled = none from I.ok.hd hc) tb i2 b n2 its2.toArray) hz hTI hTO ⟨h1, p⟩ ⟨h2, p2⟩ (by simp; omega) (by simp; omega) fun u u2 h' tk hu hu2 z' TO' st1 st2 hT hsz hk => ?_
    refine ⟨_, rfl, wpAny_letOwnedTupleGo_zip (s := { s with heap := h', toks := tk }) z' fun h'' z'' sb => ?_⟩
    obtain ⟨v1, e1, r1⟩ : ∃ v, xs[i]? = some v ∧ RelV v u := by
      obtain ⟨w1, hw1, r1⟩ := rv.get (List.getElem?_eq_getElem hx)
      have hu' : its[i]? = some u := by simpa using hu
      rw [hw1] at hu'
      cases hu'
      exact ⟨_, List.getElem?_eq_getElem hx, r1⟩
    obtain ⟨v2, e2, r2⟩ : ∃ v, ys[i]? = some v ∧ RelV v u2 := by
      obtain ⟨w1, hw1, r1⟩ := rv2.get (List.getElem?_eq_getElem hy)
      have hu' : its2[i]? = some u2 := by simpa using hu2
      rw [hw1] at hu'
      cases hu'
      exact ⟨_, List.getElem?_eq_getElem hy, r1⟩
    have hT2 : h''.get? s.heap.objs.size = some { cls := .type "tuple", data := .seq #[u, u2] } := (sb.2 _ (Nat.ne_of_gt hzl)).trans hT
    have new : ObjOk X.prog X.w (upd H s.heap.objs.size (.tup [v1, v2])) h'' s.heap.objs.size (.tup [v1, v2]) :=
      ⟨by show 2 ≤ sizeLine; decide, [u, u2], .cons r1 (.cons r2 .nil), ⟨_, hT2, rfl, _, rfl⟩⟩
    have I1 : Inv X pins σ (upd H s.heap.objs.size (.tup [v1, v2])) { s with heap := h'', toks := tk } :=
      I.turnedNew (t' := tk) (ch := [z, TI, TO, i1, i2]) (fun c o hb q => (sb.2 c (fun q' => hb (by simp [q']))).trans (hk c o (fun q' => hb (by simp [q'])) (fun q' => hb (by simp [q'])) (fun q' => hb (by simp [q'])) (fun q' => hb (by simp [q'])) q)) hf (Nat.le_refl _) new
    refine ⟨.ref s.heap.objs.size, _, I1, rfl, ⟨_, v1, v2, rfl, I.hok.fresh (Nat.le_refl _), rfl, e1, e2⟩, ⟨z'', ?_, ⟨u, u2, ?_⟩, ?_, ?_⟩, fun c hcm => ?_⟩
    · exact (sb.2 _ S.TIz).trans (hk _ _ S.TIz S.TITO S.TIi1 S.TIi2 hTI)
    · exact (sb.2 _ S.TOz).trans TO'
    · exact st1.1.to fun o q => (sb.2 _ S.zi1.symm).trans q
    · exact st2.1.to fun o q => (sb.2 _ S.zi2.symm).trans q
    · have hlt : c < s.heap.objs.size := by
        have e' : c = z ∨ c = TI ∨ c = TO ∨ c = i1 ∨ c = i2 := by simpa using hcm
        rcases e' with q | q | q | q | q
        · rw [q]; exact hzl
        · rw [q]; exact Heap.lt_size hTI
        · rw [q]; exact Heap.lt_size hTO
        · rw [q]; obtain ⟨_, e1, _⟩ := h1.obj; exact Heap.lt_size e1
        · rw [q]; obtain ⟨_, e2, _⟩ := h2.obj; exact Heap.lt_size e2
      rw [upd_ne (Nat.ne_of_lt hlt)]
      exact (hf c hcm).1
  done := by
    intro X hP hw hK hc i pins s σ H E I hf st hg
    subst hP hw hK
    obtain ⟨hz, hTI, ⟨x0, y0, hTO⟩, h1, h2⟩ := st
    obtain ⟨hqx, hqy, hi1, hi2, hend⟩ := hg
    obtain ⟨its, rv, p, _⟩ := hqx.at I
    obtain ⟨its2, rv2, p2, _⟩ := hqy.at I
    have l1 := rv.length
    have l2 := rv2.length
    exact wpAny_pyNext_zipD2_end S (drawsQ (show X.A.in1.handled = none from I.ok.hd hc) ta i1 a n1 its.toArray) (drawsQ (show X.A.in1.handled = none from I.ok.hd hc) tb i2 b n2 its2.toArray) hz hTI hTO ⟨h1, p⟩ ⟨h2, p2⟩ (by simp; omega) (by simp; omega) (by simp; omega) fun h' tk hk => ⟨rfl, I.turnedL (t' := tk) (ch := [z, TI, TO, i1, i2]) (fun c o hb q =>
      hk c o (fun q' => hb (by simp [q'])) (fun q' => hb (by simp [q'])) (fun q' => hb (by simp [q'])) (fun q' => hb (by simp [q'])) q) hf⟩
  self := fun A i s Q E st h => wpAny_pyIter_zip st.1 h
theorem notIn2 {x a b : Nat} (h1 : x ≠ a) (h2 : x ≠ b) : x ∉ [a, b] := by simp [h1, h2]
theorem sep5 {n a b : Nat} (ha : a < n) (hb : b < n) : ZipSep2 (n + 4) (n + 2) (n + 3) n (n + 1) [n, a] [n + 1, b] where
  TIz := Nat.ne_of_lt (by omega)
  TOz := Nat.ne_of_lt (by omega)
  TITO := Nat.ne_of_lt (by omega)
  TIi1 := Nat.ne_of_gt (by omega)
  mem1 := List.mem_cons_self
  zf1 := notIn2 (Nat.ne_of_gt (by omega)) (Nat.ne_of_gt (by omega))
  Tf1 := notIn2 (Nat.ne_of_gt (by omega)) (Nat.ne_of_gt (by omega))
  TIi2 := Nat.ne_of_gt (by omega)
  mem2 := List.mem_cons_self
  zf2 := notIn2 (Nat.ne_of_gt (by omega)) (Nat.ne_of_gt (by omega))
  Tf2 := notIn2 (Nat.ne_of_gt (by omega)) (Nat.ne_of_gt (by omega))
  sep1_2 := notIn2 (Nat.ne_of_lt (by omega)) (Nat.ne_of_gt (by omega))
  sep2_1 := notIn2 (Nat.ne_of_gt (by omega)) (Nat.ne_of_gt (by omega))
def rZipQ (K : PySem.W.Frag) (vs : List V) (H : Hp) (R : It → Hp → Prop) : Prop := ∃ a b xs ys ta tb, vs = [.ref a, .ref b] ∧ SqB K ta H a xs ∧ SqB K tb H b ys ∧ R (ItZ K ta tb a b xs ys) H
def iZipQ (K : PySem.W.Frag) (tA : TA) : TI := fun σ H R => tA σ H fun vs H1 => rZipQ K vs H1 R
theorem pi_zipQ {X : Cx} (K : PySem.W.Frag) (eK : X.K = K) {e e2 : Expr} {tA : TA} {p pos tpos : Pos} {elts : List Expr} {kk : Nat} (hg : Gl X "zip") (hm : X.mg "zip" = none) (ha : PA X [e, e2] tA)
    (hs : starEach [e, e2] X.env = (false, eval e X.env) :: starEach [e2] X.env := by rfl) (hpl : (backTo pos (starEach [e2] X.env)).any (·.1) = false := by rfl) :
    PI X (.Tuple elts kk tpos) (.Call (.Name "zip" p) [e, e2] [] pos) (iZipQ K tA) := by
  subst eK
  refine ⟨fun pins s σ H R I h => ?_⟩
  refine Call_ (ld_blt I hg hm PyProof.Rows.boot_zip (PyProof.Rows.callWith_type1 (thn (ha.run pos pins s σ H _ I h) fun us s1 ⟨vs, H1, I1, r1, q1⟩ => ?_) hs hpl))
  obtain ⟨a, b, xs, ys, ta, tb, ex, hqx, hqy, q⟩ := q1
  subst ex
  cases r1 with
  | cons r rr =>
    cases rr with
    | cons r' rr =>
      cases rr
      cases r
      cases r'
      have fresh5 : ∀ c, c ∈ [s1.heap.objs.size + 4, s1.heap.objs.size + 2, s1.heap.objs.size + 3, s1.heap.objs.size, s1.heap.objs.size + 1] → FpOk X pins H1 c := fun c hcm => by
        have e' : c = s1.heap.objs.size + 4 ∨ c = s1.heap.objs.size + 2 ∨ c = s1.heap.objs.size + 3 ∨ c = s1.heap.objs.size ∨ c = s1.heap.objs.size + 1 := by simpa using hcm
        have hle : s1.heap.objs.size ≤ c := by omega
        exact I1.fpOk hle (I1.hok.fresh hle)
      obtain ⟨its, rv, p1, la⟩ := hqx.at I1
      obtain ⟨its2, rv2, p2, lb⟩ := hqy.at I1
      refine zip_begins2 (beginsQ ta a its.toArray) (beginsQ tb b its2.toArray) p1 p2 fun h' hz hTI hTO h1 h2 hsz hk => wpAny_pyIter_zip hz ?_
      have I2 : Inv X pins σ H1 { s1 with heap := h' } := I1.kept (t' := s1.toks) hk
      exact ⟨s1.heap.objs.size + 4, [s1.heap.objs.size + 4, s1.heap.objs.size + 2, s1.heap.objs.size + 3, s1.heap.objs.size, s1.heap.objs.size + 1], _, _, H1, rfl, I2, turn_zipQ (sep5 la lb) (Nat.ne_of_lt la) (Nat.ne_of_lt (Nat.lt_succ_of_lt lb)), ⟨hz, hTI, ⟨_, _, hTO⟩, SIt.new h1, SIt.new h2⟩, fresh5, q⟩
theorem SqB.of {K : PySem.W.Frag} {H : Hp} {a : Addr} {xs : List V} (h : Sq K H a xs) : ∃ t, SqB K t H a xs := by
  rcases h with h | h
  · exact ⟨false, h⟩
  · exact ⟨true, h⟩
theorem SqB.stays {K : PySem.W.Frag} {H H' : Hp} {a : Addr} {xs : List V} : ∀ {t : Bool}, SqB K t H a xs → (∀ o, H a = some o → H' a = some o) → SqB K t H' a xs
  | true, h, e => by
    rcases h with (h | ⟨o, h⟩) | h
    · exact .inl (.inl (e _ h))
    · exact .inl (.inr ⟨o, e _ h⟩)
    · exact .inr h
  | false, h, e => by
    rcases h with (h | ⟨o, h⟩) | h
    · exact .inl (.inl (e _ h))
    · exact .inl (.inr ⟨o, e _ h⟩)
    · exact .inr h
section
variable {σ : L2.St} {H : Hp} {K : PySem.W.Frag} {R : It → Hp → Prop} {tA : TA} {g : TG} {s1 : TS} {D : Ends}
instance : Stp (iZipQ K tA σ H R) (tA σ H fun vs H1 => rZipQ K vs H1 R) := ⟨fun h => h⟩
theorem g_zipQ {a b : Addr} {xs ys : List V} (hx : Sq K H a xs) (hy : Sq K H b ys) (hl : xs.length = ys.length)
    (h : ∀ (J : It) (G : Hp → Prop), Walk J xs.length G (YPair (fun i => xs[i]?) (fun i => ys[i]?)) → (∀ H', L2.Same H H' → G H') → R J H) : rZipQ K [.ref a, .ref b] H R := by
  obtain ⟨ta, ha⟩ := SqB.of hx
  obtain ⟨tb, hb⟩ := SqB.of hy
  refine ⟨a, b, xs, ys, ta, tb, rfl, ha, hb, h _ (fun H' => SqB K ta H' a xs ∧ SqB K tb H' b ys) ⟨fun i H' hi q => ⟨q.1, q.2, hi, by omega⟩, fun H' q => ⟨q.1, q.2, Nat.le_refl _, by omega, .inl rfl⟩, fun i H' x H'' hi q y => ?_⟩ fun H' sm => ⟨ha.stays fun o e => sm _ _ e, hb.stays fun o e => sm _ _ e⟩⟩
  obtain ⟨T, x, y, h1, h2, h3, h4, h5⟩ := y
  exact ⟨T, x, y, h1, h2, h3, h4, h5⟩
/-- a for over zip -/
theorem fl_pair {J : It} {n : Nat} {G : Hp → Prop} {xs ys : Nat → Option V} (w : Walk J n G (YPair xs ys)) (Pv : Nat → L2.St → Hp → Prop) (h0 : Pv 0 σ H) (hG : ∀ i σ H, i ≤ n → Pv i σ H → G H)
    (hs : ∀ (i : Nat) (x y : V) (T : Addr) σ H H', i < n → xs i = some x → ys i = some y → Pv i σ H → L2.Same H H' → H' T = some (.tup [x, y]) → g (.ref T) σ H' fun σ2 H2 => s1 ⟨Pv (i + 1), D.rt, D.nx, Pv (i + 1)⟩ σ2 H2) (hd : ∀ σ H, Pv n σ H → D.nx σ H) : FL J g s1 D σ H :=
  fl_walk w Pv h0 hG (fun i v σ H H' hi p y => by
    obtain ⟨T, x, y, rfl, h2, rfl, h4, h5⟩ := y
    exact hs i x y T σ H _ hi h4 h5 p (same_new h2) upd_same) hd
end
/-! ### comprehensions with two clauses, the second over a pair -/
section
variable {σ : L2.St} {H : Hp} {K : PySem.W.Frag} {Q : VK}
def LC2 (J : It) (g : TG) (tt : TT) (wi1 : TI) (g1 : TG) (tt1 : TT) (te : TE) (vs vs1 : List Nat) (σ : L2.St) (Q : VK) (H1 : Hp) : Prop := tLc2 (fun _ H R => R J H) g tt wi1 g1 tt1 te vs vs1 σ H1 Q
instance {wi wi1 : TI} {g g1 : TG} {tt tt1 : TT} {te : TE} {vs vs1 : List Nat} : Stp (tLc2 wi g tt wi1 g1 tt1 te vs vs1 σ H Q) (wi σ H fun J H1 => LC2 J g tt wi1 g1 tt1 te vs vs1 σ Q H1) := ⟨fun h => h⟩
theorem lc2_pair {J : It} {G : Hp → Prop} {ns : List Int} {a : Addr} {j j1 : Nat} {vs vs1 : List Nat} {ta tb te : TE} (sg : V → L2.St) (sg2 : V → V → L2.St) (u v : Int) (f : Int → Int → Int) (wk : Walk J (ns.map V.int).length G (YAt (ns.map V.int))) (hG : ∀ H', (∀ o, H a = some o → H' a = some o) → G H') (hz : ns.length ≤ 40000)
    (hg : ∀ x, (wipe σ vs).set j (some x) = sg x) (hw : ∀ x, wipe (sg x) vs = wipe σ vs) (hg1 : ∀ x y, (wipe (sg x) vs1).set j1 (some y) = sg2 x y) (hw1 : ∀ x y, wipe (sg2 x y) vs1 = wipe (sg x) vs1)
    (ha : ∀ n ∈ ns, ∀ B (q : VK), q (.int u) B → ta (sg (.int n)) B q) (hb : ∀ n ∈ ns, ∀ B (q : VK), q (.int v) B → tb (sg (.int n)) B q)
    (he : ∀ n ∈ ns, ∀ y, (y = u ∨ y = v) → ∀ B (q : VK), q (.int (f n y)) B → te (sg2 (.int n) (.int y)) B q)
    (k : ∀ p H', H p = none → L2.Same H H' → H' p = some (.lst ((ns.flatMap fun n => [f n u, f n v]).map V.int)) → Q (.ref p) H') :
    LC2 J (gName j) tYes (iSeq K (tTup (tCons ta (tCons tb tNil)))) (gName j1) tYes (tHid te) vs vs1 σ Q H := by
  rw [List.length_map] at wk
  intro D hD
  have hlen : ∀ l : List Int, ((l.flatMap fun n => [f n u, f n v]).map PyData.int).length = 2 * l.length := fun l => by
    induction l with
    | nil => rfl
    | cons x l ih =>
      rw [List.flatMap_cons, List.map_append, List.length_append, ih]
      simp
      omega
  refine ⟨fun i m H' => m = ns.length - i ∧ i ≤ ns.length ∧ LcW K H D (((ns.take i).flatMap fun n => [f n u, f n v]).map PyData.int) H', ⟨_, rfl, Nat.zero_le _, lcw_start hD⟩, fun i m H1 ⟨em, hi, w⟩ => ?_⟩
  have gH1 : G H1 := hG H1 (fun o e => lcw_same w e)
  by_cases hn : i = ns.length
  · left
    refine ⟨by rw [hn]; exact wk.stops H1 gH1, ?_⟩
    rw [hn, List.take_length] at w
    refine lcw_end w fun p H' h1 h2 h3 => ?_
    obtain ⟨ys, e, dp⟩ := h3
    rw [dpInts_inv dp] at e
    exact k p H' h1 h2 e
  · right
    have hi2 : i < ns.length := by omega
    refine ⟨wk.goes i H1 hi2 gH1, fun H' => LcW K H D (((ns.take (i + 1)).flatMap fun n => [f n u, f n v]).map PyData.int) H', fun H' w' => ⟨ns.length - (i + 1), by omega, rfl, hi2, w'⟩, fun x H' y => ?_⟩
    obtain ⟨rfl, hx⟩ := wk.yields i H1 x H' hi2 gH1 y
    rw [List.getElem?_map] at hx
    obtain ⟨n, hn', rfl⟩ := Option.map_eq_some_iff.mp hx
    have hmem : n ∈ ns := List.mem_of_getElem? hn'
    show wipe ((wipe σ vs).set j (some (.int n))) vs = wipe σ vs ∧ tYes ((wipe σ vs).set j (some (.int n))) _ _
    rw [hg]
    refine ⟨hw _, ?_⟩
    refine g_yes (g_iteT ?_)
    refine ha n hmem _ _ (hb n hmem _ _ ?_)
    refine ⟨by show 2 ≤ sizeLine; decide, fun T hT => ?_⟩
    obtain ⟨B, ys, rfl, hB, sm, dp⟩ := w
    have hTD : T ≠ D := fun z => by
      rw [z, upd_same] at hT
      cases hT
    have hBT : B T = none := by
      rw [upd_ne hTD] at hT
      exact hT
    have ec : upd (upd B D (.lst ys)) T (.tup [.int u, .int v]) = upd (upd B T (.tup [.int u, .int v])) D (.lst ys) := by
      funext c
      by_cases h1 : c = T
      · rw [h1, upd_same, upd_ne hTD, upd_same]
      · by_cases h2 : c = D
        · rw [h2, upd_ne (Ne.symm hTD), upd_same, upd_same]
        · rw [upd_ne h1, upd_ne h2, upd_ne h2, upd_ne h1]
    rw [ec]
    have sB : L2.Same B (upd B T (.tup [.int u, .int v])) := same_new hBT
    have eT : upd B T (.tup [.int u, .int v]) T = some (.tup [.int u, .int v]) := upd_same
    have hB4 : upd B T (.tup [.int u, .int v]) D = none := by
      rw [upd_ne (Ne.symm hTD)]
      exact hB
    generalize upd B T (.tup [.int u, .int v]) = B4 at sB eT hB4 ⊢
    have w0 : LcW K B4 D (((ns.take i).flatMap fun n => [f n u, f n v]).map PyData.int) (upd B4 D (.lst ys)) := ⟨B4, ys, rfl, hB4, L2.Same.refl _, DpAll.mono sB dp⟩
    refine ⟨T, rfl, .inr ⟨⟨[.int u, .int v], SqT.of (lcw_same w0 eT)⟩, ?_⟩⟩
    refine ⟨fun j1 k H' => k = 2 - j1 ∧ j1 ≤ 2 ∧ LcW K B4 D (((ns.take i).flatMap fun n => [f n u, f n v]).map PyData.int ++ [PyData.int (f n u), PyData.int (f n v)].take j1) H', ⟨2, rfl, by omega, by simpa using w0⟩, fun j2 k H' ⟨ek, hj, w'⟩ => ?_⟩
    have tT : SqT K H' T [.int u, .int v] := SqT.of (lcw_same w' eT)
    by_cases hj2 : j2 = 2
    · left
      subst hj2
      refine ⟨(walk_tup (xs := [V.int u, V.int v])).stops H' tT, ?_⟩
      obtain ⟨B5, ys5, rfl, h5, sm5, dp5⟩ := w'
      refine ⟨B5, ys5, rfl, h5, (sm.trans sB).trans sm5, ?_⟩
      rw [take_snoc hn', List.flatMap_append, List.map_append]
      exact dp5
    · right
      have hj3 : j2 < [V.int u, V.int v].length := by
        show j2 < 2
        omega
      refine ⟨(walk_tup (xs := [V.int u, V.int v])).goes j2 H' hj3 tT, fun H'' => LcW K B4 D (((ns.take i).flatMap fun n => [f n u, f n v]).map PyData.int ++ [PyData.int (f n u), PyData.int (f n v)].take (j2 + 1)) H'', fun H'' w'' => ⟨2 - (j2 + 1), by omega, rfl, by omega, w''⟩, fun y H'' hy => ?_⟩
      obtain ⟨rfl, hy2⟩ := (walk_tup (xs := [V.int u, V.int v])).yields j2 H' y H'' hj3 tT hy
      clear hy
      obtain ⟨m, rfl, hm, hd⟩ : ∃ m, y = .int m ∧ (m = u ∨ m = v) ∧ [PyData.int (f n u), PyData.int (f n v)][j2]? = some (.int (f n m)) := by
        match j2, hy2 with
        | 0, hy => exact ⟨u, (Option.some.inj hy).symm, .inl rfl, rfl⟩
        | 1, hy => exact ⟨v, (Option.some.inj hy).symm, .inr rfl, rfl⟩
        | q + 2, hy => simp at hy
      show wipe ((wipe (sg (.int n)) vs1).set j1 (some (.int m))) vs1 = wipe (sg (.int n)) vs1 ∧ tYes ((wipe (sg (.int n)) vs1).set j1 (some (.int m))) _ _
      rw [hg1]
      refine ⟨hw1 _ _, g_yes (g_iteT ?_)⟩
      refine lcw_elt w' (by rw [List.length_append, hlen, List.length_take, List.length_take]; show _ + min j2 2 < 100000; omega) (fun B' sm' q hq => he n hmem m hm B' q (hq _ B' (L2.Same.refl _) (.int _))) fun H3 w3 => ?_
      rw [take_snoc hd, ← List.append_assoc]
      exact w3
end
end Wk

set_option Elab.async false
set_option linter.all false
set_option maxRecDepth 100000
set_option maxHeartbeats 4000000
/-! WCor: corners and weights, in plain Lean; and by 1. -/
namespace Wk
open PySem PySem.Spec PyProof.Rows L2
/-- the k last halves of n, the highest first -/
def bt (n : Int) (k : Nat) : List Int := (List.range k).map fun i => n / 2 ^ (k - 1 - i) % 2
theorem bt_len (n : Int) (k : Nat) : (bt n k).length = k := by simp [bt]
theorem bt_succ (n : Int) (k : Nat) : bt n (k + 1) = (n / 2 ^ k % 2) :: bt n k := by
  unfold bt
  rw [List.range_succ_eq_map, List.map_cons, List.map_map]
  refine congr (congrArg _ (by simp)) (List.map_congr_left fun i hi => ?_)
  show n / 2 ^ (k + 1 - 1 - (i + 1)) % 2 = n / 2 ^ (k - 1 - i) % 2
  rw [show k + 1 - 1 - (i + 1) = k - 1 - i by omega]
theorem bt_bit {n : Int} {k i : Nat} {b : Int} (h : (bt n k)[i]? = some b) : b = 0 ∨ b = 1 := by
  unfold bt at h
  rw [List.getElem?_map] at h
  obtain ⟨j, _, rfl⟩ := Option.map_eq_some_iff.mp h
  omega
theorem bt_snoc (m b : Int) (hb : b = 0 ∨ b = 1) : ∀ k : Nat, bt (2 * m + b) (k + 1) = bt m k ++ [b]
  | 0 => by
    show [(2 * m + b) / 2 ^ 0 % 2] = [b]
    rw [Int.pow_zero, Int.ediv_one]
    congr 1
    omega
  | k + 1 => by
    rw [bt_succ (2 * m + b) (k + 1), bt_snoc m b hb k, bt_succ m k, List.cons_append]
    congr 2
    rw [Int.pow_succ, Int.mul_comm ((2 : Int) ^ k) 2, ← Int.ediv_ediv_of_nonneg (by omega)]
    congr 1
    omega
theorem bt_ext {n : Int} {k : Nat} {ns : List Int} (hl : ns.length = k) (h : ∀ i m, ns[i]? = some m → m = n / 2 ^ (k - 1 - i) % 2) : ns = bt n k := by
  refine List.ext_getElem? fun i => ?_
  unfold bt
  rw [List.getElem?_map]
  by_cases hi : i < k
  · rw [List.getElem?_eq_getElem (by omega), List.getElem?_range hi]
    exact congrArg some (h i _ (List.getElem?_eq_getElem (by omega)))
  · rw [List.getElem?_eq_none (by omega), List.getElem?_eq_none (by simp; omega)]
    rfl
theorem lcw_ints {K : PySem.W.Frag} {H H' : Hp} {p : Addr} {ns : List Int} {x : Int} (w : LcW K H p (ns.map PyData.int ++ [.int x]) H') : H' p = some (.lst ((ns ++ [x]).map V.int)) := by
  have e : ns.map PyData.int ++ [.int x] = (ns ++ [x]).map PyData.int := by simp
  rw [e] at w
  obtain ⟨B, ys, rfl, hB, sm, dp⟩ := w
  rw [dpInts_inv dp]
  exact upd_same
def pwS (w : Int) (q : Int × Int) : Int := w * (if q.1 = 1 then q.2 else 1 - q.2)
def pw (bs ns : List Int) : Int := (bs.zip ns).foldl pwS 1
theorem pw_snoc {bs ns : List Int} {b x : Int} (h : bs.length = ns.length) : pw (bs ++ [b]) (ns ++ [x]) = pwS (pw bs ns) (b, x) := by
  unfold pw
  rw [List.zip_append h, List.foldl_append]
  rfl
def lawW (p : Int) (ns : List Int) : List Int := (List.range (2 ^ ns.length)).map fun (m : Nat) => pw (bt (m : Int) ns.length) ns % p
def wStep (p : Int) (ws : List Int) (x : Int) : List Int := ws.flatMap fun w => [w * (1 - x) % p, w * x % p]
def wts (p : Int) (ns : List Int) : List Int := ns.foldl (wStep p) [1]
theorem range_dbl : ∀ n : Nat, List.range (2 * n) = (List.range n).flatMap fun m => [2 * m, 2 * m + 1]
  | 0 => rfl
  | n + 1 => by
    rw [show 2 * (n + 1) = 2 * n + 1 + 1 by omega, List.range_succ, List.range_succ, List.range_succ (n := n), List.flatMap_append, ← range_dbl n, List.append_assoc]
    rfl
theorem lawW_snoc (p : Int) (ns : List Int) (x : Int) : lawW p (ns ++ [x]) = wStep p (lawW p ns) x := by
  unfold lawW wStep
  rw [List.length_append, List.length_singleton, Nat.pow_succ, Nat.mul_comm, range_dbl, List.map_flatMap, List.flatMap_map]
  refine congrArg (fun f => (List.range (2 ^ ns.length)).flatMap f) (funext fun m => ?_)
  have e0 : ((2 * m : Nat) : Int) = 2 * (m : Int) + 0 := by omega
  have e1 : ((2 * m + 1 : Nat) : Int) = 2 * (m : Int) + 1 := by omega
  rw [List.map_cons, List.map_cons, List.map_nil, e0, e1, bt_snoc _ _ (.inl rfl), bt_snoc _ _ (.inr rfl), pw_snoc (bt_len _ _), pw_snoc (bt_len _ _)]
  unfold pwS
  rw [if_neg (show ¬ ((0 : Int) = 1) by decide), if_pos rfl, emod_mul_l, emod_mul_l]
theorem foldl_snoc_ind {α : Type} {P : List α → Prop} (h0 : P []) (h1 : ∀ l x, P l → P (l ++ [x])) : ∀ l, P l := fun l => by
  have : ∀ r : List α, P r.reverse := fun r => by
    induction r with
    | nil => exact h0
    | cons x r ih =>
      rw [List.reverse_cons]
      exact h1 _ _ ih
  have z := this l.reverse
  rw [List.reverse_reverse] at z
  exact z
theorem wts_law {p : Int} (hp : 2 ≤ p) (ns : List Int) : wts p ns = lawW p ns := by
  refine foldl_snoc_ind (P := fun ns => wts p ns = lawW p ns) ?_ (fun l x ih => ?_) ns
  · show [1] = [1 % p]
    rw [Int.emod_eq_of_lt (by omega) (by omega)]
  · rw [lawW_snoc, ← ih]
    unfold wts
    rw [List.foldl_append]
    rfl
theorem wts_len (p : Int) (ns : List Int) : (wts p ns).length = 2 ^ ns.length := by
  refine foldl_snoc_ind (P := fun ns => (wts p ns).length = 2 ^ ns.length) rfl (fun l x ih => ?_) ns
  unfold wts at ih ⊢
  rw [List.foldl_append, List.length_append]
  show (wStep p (l.foldl (wStep p) [1]) x).length = 2 ^ (l.length + 1)
  rw [Nat.pow_succ, ← ih]
  generalize l.foldl (wStep p) [1] = ws
  unfold wStep
  induction ws with
  | nil => rfl
  | cons w ws ih2 =>
    rw [List.flatMap_cons, List.length_append, ih2, List.length_cons]
    show 2 + ws.length * 2 = (ws.length + 1) * 2
    omega
theorem wStep_sum (p x : Int) (ws : List Int) : ∃ k : Int, (wStep p ws x).sum = ws.sum + p * k := by
  induction ws with
  | nil => exact ⟨0, by simp [wStep]⟩
  | cons w ws ih =>
    obtain ⟨k, ih⟩ := ih
    unfold wStep at ih ⊢
    rw [List.flatMap_cons, List.sum_append, ih]
    have e2 : (w :: ws).sum = w + ws.sum := List.sum_cons
    refine ⟨k - w * (1 - x) / p - w * x / p, ?_⟩
    show w * (1 - x) % p + (w * x % p + 0) + _ = _
    rw [Int.emod_def, Int.emod_def, Int.mul_sub p, Int.mul_sub p]
    have e : w * (1 - x) = w - w * x := by rw [Int.mul_sub, Int.mul_one]
    omega
theorem wts_sum {p : Int} (hp : 2 ≤ p) (ns : List Int) : (wts p ns).sum % p = 1 := by
  refine foldl_snoc_ind (P := fun ns => (wts p ns).sum % p = 1) ?_ (fun l x ih => ?_) ns
  · show (1 + 0) % p = 1
    rw [Int.emod_eq_of_lt (by omega) (by omega)]
    rfl
  · have e : wts p (l ++ [x]) = wStep p (wts p l) x := by
      unfold wts
      rw [List.foldl_append]
      rfl
    obtain ⟨k, hk⟩ := wStep_sum p x (wts p l)
    rw [e, hk, Int.add_mul_emod_self_left]
    exact ih
theorem wts_rest {p : Int} (hp : 2 ≤ p) (ns : List Int) : ∀ w ∈ wts p ns, 0 ≤ w ∧ w < p := by
  rw [wts_law hp]
  intro w hw
  unfold lawW at hw
  obtain ⟨m, _, rfl⟩ := List.mem_map.mp hw
  exact ⟨Int.emod_nonneg _ (by omega), Int.emod_lt_of_pos _ (by omega)⟩
section
variable {X : Cx} {H : Hp} {Q : VK}
def rAnd1 : R2 := fun x y H Q => ∃ i : Int, x = .int i ∧ y = .int 1 ∧ Q (.int (i % 2)) H
theorem op_and1 : OpR X (binaryOp .BitAnd) rAnd1 := fun pins s σ H x y v u Q I rx ry h => by
  obtain ⟨i, h1, h2, q⟩ := h
  exact L2.op_andM pins s σ H x y v u Q I rx ry ⟨i, 1, h1, h2, q⟩
instance {i : Int} : Stp (rAnd1 (.int i) (.int 1) H Q) (Q (.int (i % 2)) H) := ⟨fun h => ⟨i, rfl, rfl, h⟩⟩
end
theorem pe_bm0Q {X : Cx} (K : PySem.W.Frag) (eK : X.K = K) {o : Expr} {to : TE} {name : Str} {apos cpos : Pos} {T id : String} {r : V → List V → Hp → VK → Prop} (pa : PlainAttrs T) (slot : Slot T name id) (hty : typeOf (.builtin id) = pure (.type "method_descriptor")) (hm : MtR X id r) (ho : PE X o to)
    (hbase : attributeBase o name X.env (eval o X.env) = eval o X.env := by rfl) (hline : (apos.endLine == cpos.line) = true := by rfl) : PE X (.Call (.Attribute o name apos) [] [] cpos) (tBM0 K T r to) := by
  subst eK
  exact pe_bm0 pa slot hty hm ho hbase hline
section
variable {σ : L2.St} {H : Hp} {Q : VK} {K : PySem.W.Frag} {s1 s2 s3 s4 s5 rest : TS} {D : Ends}
instance {T : String} {r : V → List V → Hp → VK → Prop} {ta : TE} : Stp (tBM0 K T r ta σ H Q) (ta σ H fun x H1 => tyV K T x H1 ∧ r x [] H1 Q) := ⟨fun h => h⟩
theorem g_clear {l : Addr} {xs : List V} (h : H l = some (.lst xs)) (q : Q .non (upd H l (.lst []))) : tyV K "list" (.ref l) H ∧ rClear (.ref l) [] H Q := ⟨.inl ⟨rfl, xs, .inl (.inl h)⟩, l, xs, rfl, rfl, h, q⟩
/-- what follows the first statements is put away under a name -/
theorem g_cut2 (h : ∀ N : L2.St → Hp → Prop, (∀ σ H, rest D σ H → N σ H) → tSeq s1 s2 ⟨N, D.rt, D.bk, D.ct⟩ σ H) : tSeq s1 (tSeq s2 rest) D σ H := h _ fun _ _ q => q
theorem g_cut3 (h : ∀ N : L2.St → Hp → Prop, (∀ σ H, rest D σ H → N σ H) → tSeq s1 (tSeq s2 s3) ⟨N, D.rt, D.bk, D.ct⟩ σ H) : tSeq s1 (tSeq s2 (tSeq s3 rest)) D σ H := h _ fun _ _ q => q
theorem g_cut4 (h : ∀ N : L2.St → Hp → Prop, (∀ σ H, rest D σ H → N σ H) → tSeq s1 (tSeq s2 (tSeq s3 s4)) ⟨N, D.rt, D.bk, D.ct⟩ σ H) : tSeq s1 (tSeq s2 (tSeq s3 (tSeq s4 rest))) D σ H := h _ fun _ _ q => q
end
end Wk

namespace Wk
open PySem PySem.Spec PyProof.Rows L2
local macro_rules | `(tactic| walk_at "side") => `(tactic| first | assumption | decide | exact primes_pos (by assumption) | omega | (dsimp only [CDiv, CMul, CPow]; omega))
local macro_rules | `(tactic| walk_at "hp") => `(tactic| first | assumption | exact upd_same | ((refine' Eq.trans (upd_ne (by first | assumption | exact Ne.symm (by assumption))) ?m); (case m => walk_at "hp")) | ((refine' (show L2.Same _ _ by assumption) _ _ ?m); (case m => walk_at "hp")) | ((refine' hp_monoL (show LamX.ExtN _ _ by assumption) ?m); (case m => walk_at "hp")) | ((refine' hp_monoT (show LamX.ExtN _ _ by assumption) ?m); (case m => walk_at "hp")))
local macro_rules | `(tactic| walk_at "sq") => `(tactic| first | assumption | ((refine' sqL ?m); (case m => walk_at "hp")) | ((refine' sqT ?m); (case m => walk_at "hp")) | exact Or.inl (by assumption) | exact Or.inr (by assumption) | ((refine' Sq.mono ?m (show L2.Same _ _ by assumption)); (case m => walk_at "sq")) | ((refine' Sq.monoN ?m (show LamX.ExtN _ _ by assumption)); (case m => walk_at "sq")))
local macro_rules | `(tactic| walk_at "drw") => `(tactic| first | assumption | ((refine' Drw.mono ?m (show L2.Same _ _ by assumption)); (case m => walk_at "drw")) | ((refine' Drw.monoN ?m (show LamX.ExtN _ _ by assumption)); (case m => walk_at "drw")))
local macro_rules | `(tactic| walk_at "same") => `(tactic| first | assumption | exact L2.Same.refl _ | ((refine' L2.Same.trans ?m (show L2.Same _ _ by assumption)); (case m => walk_at "same")))
local macro_rules | `(tactic| walk_at "dp") => `(tactic| first | assumption | exact Dp.non | exact Dp.bl _ | exact Dp.int _ | exact Dp.str _ | ((refine' Dp.lst (SqL.of ?m1) ?m); (case m1 => walk_at "hp"); (case m => walk_at "dpa")) | ((refine' Dp.tup (SqT.of ?m1) ?m); (case m1 => walk_at "hp"); (case m => walk_at "dpa")) | ((refine' Dp.tup ?m1 ?m); (case m1 => assumption); (case m => walk_at "dpa")) | ((refine' Dp.mono (show L2.Same _ _ by assumption) ?m); (case m => walk_at "dp")) | ((refine' Dp.monoN (show LamX.ExtN _ _ by assumption) ?m); (case m => walk_at "dp")))
local macro_rules | `(tactic| walk_at "dpa") => `(tactic| first | assumption | exact DpAll.nil | exact dpInts _ | ((refine' DpAll.cons ?m1 ?m2); (case m1 => walk_at "dp"); (case m2 => walk_at "dpa")) | ((refine' DpAll.mono (show L2.Same _ _ by assumption) ?m); (case m => walk_at "dpa")) | ((refine' DpAll.monoN (show LamX.ExtN _ _ by assumption) ?m); (case m => walk_at "dpa")))
local macro_rules | `(tactic| walk_at "yes") => `(tactic| first | with_reducible rfl | assumption | omega)
local macro_rules | `(tactic| walk_at "no") => `(tactic| first | assumption | omega | (intro h'; cases h'; done))
local macro_rules | `(tactic| walk_at "ty") => `(tactic| first | assumption | exact .base .non | exact .base (.bl _) | exact .base (.int _) | exact .base (.str _) | exact tyL (by assumption) | exact tyT (by assumption) | exact .base (.lst (by walk_at "hp")) | exact .base (.tup (by walk_at "hp")) | ((refine' tyX_mono (show L2.Same _ _ by assumption) ?m); (case m => walk_at "ty")))
local macro_rules | `(tactic| walk_at "kit") => `(tactic| first | with_reducible exact kt_NoneType_bool | with_reducible exact kt_NoneType_int | with_reducible exact kt_NoneType_str | with_reducible exact kt_NoneType_list | with_reducible exact kt_NoneType_tuple | with_reducible exact kt_NoneType_is | with_reducible exact kt_bool_bool | with_reducible exact kt_bool_int | with_reducible exact kt_bool_str | with_reducible exact kt_bool_list | with_reducible exact kt_bool_tuple | with_reducible exact kt_bool_is | with_reducible exact kt_int_bool | with_reducible exact kt_int_int | with_reducible exact kt_int_str | with_reducible exact kt_int_list | with_reducible exact kt_int_tuple | with_reducible exact kt_int_is | with_reducible exact kt_str_bool | with_reducible exact kt_str_int | with_reducible exact kt_str_str | with_reducible exact kt_str_list | with_reducible exact kt_str_tuple | with_reducible exact kt_str_is | with_reducible exact kt_list_bool | with_reducible exact kt_list_int | with_reducible exact kt_list_str | with_reducible exact kt_list_list | with_reducible exact kt_list_tuple | with_reducible exact kt_list_is | with_reducible exact kt_tuple_bool | with_reducible exact kt_tuple_int | with_reducible exact kt_tuple_str | with_reducible exact kt_tuple_list | with_reducible exact kt_tuple_tuple | with_reducible exact kt_tuple_is)
local macro_rules | `(tactic| walk_at "py1s") => `(tactic| first
  | with_reducible apply stp1
  | (with_reducible refine g_useN (by with_reducible assumption) ?_)
  | ((with_reducible refine' g_eq ?e ?_); (case e => rfl))
  | ((with_reducible refine' g_ne ?e ?_); (case e => rfl))
  | ((with_reducible refine' g_I ?e ?_); (case e => walk_at "side"))
  | ((with_reducible refine' g_mk ?e ?_); (case e => first | exact Nat.le_of_ble_eq_true rfl | omega); intro p' H' n' s' e')
  | ((with_reducible refine' g_ixQ ?e1 ?e2 ?_); (case e1 => walk_at "sq"); (case e2 => first | rfl | assumption))
  | ((with_reducible refine' g_lenQ ?e1 ?_); (case e1 => walk_at "sq"))
  | ((with_reducible refine' g_listQ ?e1 ?_); (case e1 => walk_at "sq"); intro p' H' n' s' e')
  | ((with_reducible refine' g_tupQ ?e1 ?_); (case e1 => walk_at "sq"); intro p' H' s' e')
  | ((with_reducible refine' g_inQ ?e1 ?e2 ?e3 ?_); (case e1 => walk_at "sq"); (case e2 => rfl); (case e3 => rfl))
  | ((with_reducible refine' g_notInQ ?e1 ?e2 ?e3 ?_); (case e1 => walk_at "sq"); (case e2 => rfl); (case e3 => rfl))
  | ((with_reducible refine' g_setL ?e1 ?e2 ?_); (case e1 => walk_at "hp"); (case e2 => first | rfl | assumption))
  | ((with_reducible refine' g_rng1 ?e1 ?_); (case e1 => walk_at "side"))
  | ((with_reducible refine' g_rng2 ?e1 ?_); (case e1 => walk_at "side"))
  | ((with_reducible refine' g_isi ?e1 ?e2 ?e3 ?_); (case e1 => exact ClsV.ty _); (case e2 => walk_at "ty"); (case e3 => walk_at "kit"))
  | ((with_reducible refine' g_isiT ?e0 ?e1 ?e2 ?e3 ?_); (case e0 => walk_at "hp"); (case e1 => exact .cons (ClsV.ty _) (.cons (ClsV.ty _) .nil)); (case e2 => walk_at "ty"); (case e3 => walk_at "kit"))
  | ((with_reducible refine' g_iteY ?e ?_); (case e => walk_at "yes"))
  | ((with_reducible refine' g_iteN ?e ?_); (case e => walk_at "no"))
  | ((with_reducible refine' g_iteNY ?e ?_); (case e => walk_at "yes"))
  | ((with_reducible refine' g_iteNN ?e ?_); (case e => walk_at "no"))
  | walk_at "call1"
  | (with_reducible refine g_iteD (fun e' => ?_) (fun e' => ?_)) | (with_reducible refine g_iteND (fun e' => ?_) (fun e' => ?_)))
local macro_rules | `(tactic| walk_at "py1") => `(tactic| first | walk_at "py1s" | (with_reducible refine g_seqN (fun N' hN' => ?_)))
local macro_rules | `(tactic| walk_at "st") => `(tactic| ((with_reducible refine g_seqN (fun N' hN' => ?_)); repeat' (walk_at "py1s")))
local macro_rules | `(tactic| walk_at "py") => `(tactic| repeat' (walk_at "py1"))

local macro_rules | `(tactic| walk_at "tabs") => `(tactic| first | assumption | ((refine' tabs_mono ?m (show L2.Same _ _ by assumption)); (case m => walk_at "tabs")))
local macro_rules | `(tactic| walk_at "call1") => `(tactic| first
  | ((with_reducible refine' g_rangeV ?_); intro p' H' n' s' e')
  | ((with_reducible refine' g_notInR ?e1 ?_); (case e1 => walk_at "hp")))
local macro_rules | `(tactic| walk_at "lcw") => `(tactic| first | assumption | ((refine' lcw_of ?n ?s ?e ?d); (case n => assumption); (case s => walk_at "same"); (case e => walk_at "hp"); (case d => walk_at "dpa")))
local macro_rules | `(tactic| walk_at "rests") => `(tactic| first | assumption | exact Rests.nil | exact Rests.cons (by omega) (by walk_at "rests"))
local macro_rules | `(tactic| walk_at "ints") => `(tactic| first | rfl | exact intsOf_map _ | assumption)
local macro_rules | `(tactic| walk_at "call1") => `(tactic| first
  | ((with_reducible refine' g_sqs ?e1 ?e2 ?_); (case e1 => walk_at "sq"); (case e2 => first | rfl | assumption))
  | ((with_reducible refine' g_appN ?e1 ?_); (case e1 => first | assumption | exact lcn_of (by walk_at "lcw") (by walk_at "tabs")); intro B' y' s' t' d')
  | ((with_reducible refine' g_appW ?e1 ?_); (case e1 => walk_at "lcw"); intro B' y' s' d')
  | ((with_reducible refine' app_end ?e1 ?e2 ?e3 ?e4 ?e5 ?_); (case e1 => assumption); (case e2 => assumption); (case e3 => walk_at "same"); (case e4 => walk_at "dp"); (case e5 => first | assumption | exact Nat.le_of_ble_eq_true rfl | omega); intro H' w'; have s' := LcW.same w'; have d' := LcW.dpl w')
  | ((with_reducible refine' app_endN ?e1 ?e2 ?e3 ?e0 ?e4 ?e5 ?_); (case e1 => assumption); (case e2 => assumption); (case e3 => walk_at "extn"); (case e0 => walk_at "tabs"); (case e4 => walk_at "dp"); (case e5 => first | assumption | exact Nat.le_of_ble_eq_true rfl | omega); intro H' w'; have s' := LcN.ext w'; have t' := LcN.tabs w'; have d' := LcN.dpl w'))
local macro_rules | `(tactic| walk_at "extn") => `(tactic| first | assumption | exact LamX.ExtN.refl _ | ((refine' LamX.ExtN.trans ?m (show LamX.ExtN _ _ by assumption)); (case m => walk_at "extn")) | ((refine' LamX.ExtN.trans ?m (LamX.ExtN.of (show L2.Same _ _ by assumption))); (case m => walk_at "extn")))
local macro_rules | `(tactic| walk_at "shd") => `(tactic| first | assumption | exact ShD.int _ | exact ShD.non | exact ShD.bool _ | exact ShD.str (by decide +kernel) | exact ShA.list (ShA.ints _) | exact ShA.tuple (ShA.ints _) | (refine' ShA.list ?m; (case m => walk_at "sha")) | (refine' ShA.tuple ?m; (case m => walk_at "sha")))
local macro_rules | `(tactic| walk_at "sha") => `(tactic| first | assumption | exact ShA.nil | exact ShA.ints _ | (refine' ShA.cons ?m1 ?m2; (case m1 => walk_at "shd"); (case m2 => walk_at "sha")))
local macro_rules | `(tactic| walk_at "call1") => `(tactic| first
  | ((with_reducible refine' g_cat ?e1 ?e2 ?e3 ?_); (case e1 => walk_at "hp"); (case e2 => walk_at "hp"); (case e3 => first | assumption | exact Nat.le_of_ble_eq_true rfl | (simp; omega)); intro p' H' n' s' e')
  | ((with_reducible refine' g_rep ?e1 ?e2 ?e3 ?_); (case e1 => walk_at "hp"); (case e2 => first | assumption | omega); (case e3 => first | assumption | exact Nat.le_of_ble_eq_true rfl | (simp; omega)); intro p' H' n' s' e')
  | ((with_reducible refine' g_revQ ?e1 ?_); (case e1 => walk_at "sq"); intro p' H' n' s' e')
  | ((with_reducible refine' g_lstRg ?e1 ?_); (case e1 => first | assumption | exact RgOk.of_le (by omega) (by omega) (by omega) (by omega)); intro p' H' n' s' e')
  | ((with_reducible refine' g_eqD ?e1 ?e2 ?e3 ?e4 ?_); (case e1 => walk_at "dp"); (case e2 => walk_at "dp"); (case e4 => walk_at "eqd"); (case e3 => exact shaped_of (n := 20) (by walk_at "shd") (by decide)))
  | ((with_reducible refine' g_neD ?e1 ?e2 ?e3 ?e4 ?_); (case e1 => walk_at "dp"); (case e2 => walk_at "dp"); (case e4 => walk_at "eqd"); (case e3 => exact shaped_of (n := 20) (by walk_at "shd") (by decide))))
local macro_rules | `(tactic| walk_at "lam") => `(tactic| first | assumption | ((refine' LamAt.same ?m (show L2.Same _ _ by assumption)); (case m => walk_at "lam")) | ((refine' LamAt.ext ?m (show LamX.ExtN _ _ by assumption)); (case m => walk_at "lam")))
local macro_rules | `(tactic| walk_at "call1") => `(tactic| first
  | ((with_reducible refine' g_lamV ?e1 ?_); (case e1 => walk_at "tabs"); intro f' H' x' t' n' l')
  | ((with_reducible refine' g_appA ?e1 ?e2 ?_); (case e1 => first | assumption | exact lca_of (by assumption) (by assumption) (by assumption) (by walk_at "lam") (by walk_at "tabs")); (case e2 => exact Nat.lt_of_succ_le (Nat.le_of_ble_eq_true rfl)); intro H' w'; have s' := LcA.ext w'; have t' := LcA.tabs w')
  | ((with_reducible refine' g_rTry ?e1 ?e2 ?_); (case e1 => walk_at "lam"); (case e2 => first | with_reducible exact mem0 | with_reducible exact mem1 | with_reducible exact mem2 | with_reducible exact mem3)))
local macro_rules | `(tactic| walk_at "call1") => `(tactic| ((with_reducible refine' g_sum ?e1 ?_); (case e1 => first | exact SqL.of (by walk_at "hp"))))

def topS (i : Nat) : Stmt := PySem.Challenge.pw_weaklook_k10_corners_and_weights.main.body.getD i (.Pass ⟨0, 0, 0, 0⟩)
abbrev s_law_begin : Stmt := topS 18
theorem sc_law_begin : FnScope ["_law_script"] ["_law_script"] (defScope s_law_begin) := ⟨rfl, rfl, rfl, by decide +kernel, rfl, by decide +kernel, by decide +kernel⟩
abbrev s_law_same : Stmt := topS 24
theorem sc_law_same : FnScope ["_law_found", "_law_due", "_law_k"] ["_law_found", "_law_due"] (defScope s_law_same) := ⟨rfl, rfl, rfl, by decide +kernel, rfl, by decide +kernel, by decide +kernel⟩
abbrev s_law_pick : Stmt := topS 19
theorem sc_law_pick : FnScope ["_law_draw", "_law_many", "_law_cell", "_law_got"] ["_law_draw", "_law_many"] (defScope s_law_pick) := ⟨rfl, rfl, rfl, by decide +kernel, rfl, by decide +kernel, by decide +kernel⟩
abbrev s_law_one : Stmt := topS 20
theorem sc_law_one : FnScope ["_law_draw", "_law_some"] ["_law_draw", "_law_some"] (defScope s_law_one) := ⟨rfl, rfl, rfl, by decide +kernel, rfl, by decide +kernel, by decide +kernel⟩
abbrev s_law_primes : Stmt := topS 26
theorem sc_law_primes : FnScope [] [] (defScope s_law_primes) := ⟨rfl, rfl, rfl, by decide +kernel, rfl, by decide +kernel, by decide +kernel⟩
abbrev s_law_prime : Stmt := topS 27
theorem sc_law_prime : FnScope ["_law_draw"] ["_law_draw"] (defScope s_law_prime) := ⟨rfl, rfl, rfl, by decide +kernel, rfl, by decide +kernel, by decide +kernel⟩
abbrev s_law_rests : Stmt := topS 28
theorem sc_law_rests : FnScope ["_law_draw", "_law_many", "_law_mod", "_law_k"] ["_law_draw", "_law_many", "_law_mod"] (defScope s_law_rests) := ⟨rfl, rfl, rfl, by decide +kernel, rfl, by decide +kernel, by decide +kernel⟩
abbrev s_law_far : Stmt := topS 21
theorem sc_law_far : FnScope ["_law_draw", "_law_number"] ["_law_draw"] (defScope s_law_far) := ⟨rfl, rfl, rfl, by decide +kernel, rfl, by decide +kernel, by decide +kernel⟩
abbrev s_law_bent_rests : Stmt := topS 30
theorem sc_law_bent_rests : FnScope ["_law_draw", "_law_row", "_law_mod", "_law_found", "_law_odd"] ["_law_draw", "_law_row", "_law_mod"] (defScope s_law_bent_rests) := ⟨rfl, rfl, rfl, by decide +kernel, rfl, by decide +kernel, by decide +kernel⟩
abbrev s_look_prime : Stmt := topS 8
theorem sc_look_prime : FnScope ["prime"] ["prime"] (defScope s_look_prime) := ⟨rfl, rfl, rfl, by decide +kernel, rfl, by decide +kernel, by decide +kernel⟩
abbrev s_are_rests : Stmt := topS 9
theorem sc_are_rests : FnScope ["row", "prime", "one"] ["row", "prime"] (defScope s_are_rests) := ⟨rfl, rfl, rfl, by decide +kernel, rfl, by decide +kernel, by decide +kernel⟩
abbrev s_look_place : Stmt := topS 12
theorem sc_look_place : FnScope ["place", "letters", "prime"] ["place", "letters", "prime"] (defScope s_look_place) := ⟨rfl, rfl, rfl, by decide +kernel, rfl, by decide +kernel, by decide +kernel⟩
abbrev s_weights_at : Stmt := topS 15
theorem sc_weights_at : FnScope ["place", "prime", "found", "at", "one", "by"] ["place", "prime"] (defScope s_weights_at) := ⟨rfl, rfl, rfl, by decide +kernel, rfl, by decide +kernel, by decide +kernel⟩
abbrev s_weights : Stmt := topS 16
theorem sc_weights : FnScope ["place", "prime"] ["place", "prime"] (defScope s_weights) := ⟨rfl, rfl, rfl, by decide +kernel, rfl, by decide +kernel, by decide +kernel⟩
abbrev s_law_tried : Stmt := topS 25
theorem sc_law_tried : FnScope ["_law_ask", "_law_found", "_law_word", "e"] ["_law_ask"] (defScope s_law_tried) := ⟨rfl, rfl, rfl, by decide +kernel, rfl, by decide +kernel, by decide +kernel⟩
abbrev s_corner_of : Stmt := topS 13
theorem sc_corner_of : FnScope ["number", "letters", "at"] ["number", "letters"] (defScope s_corner_of) := ⟨rfl, rfl, rfl, by decide +kernel, rfl, by decide +kernel, by decide +kernel⟩
abbrev s_corner : Stmt := topS 14
theorem sc_corner : FnScope ["number", "letters"] ["number", "letters"] (defScope s_corner) := ⟨rfl, rfl, rfl, by decide +kernel, rfl, by decide +kernel, by decide +kernel⟩
abbrev s_law_power : Stmt := topS 22
theorem sc_law_power : FnScope ["_law_uno", "_law_many", "_law_mod", "_law_found", "_law_k"] ["_law_uno", "_law_many", "_law_mod"] (defScope s_law_power) := ⟨rfl, rfl, rfl, by decide +kernel, rfl, by decide +kernel, by decide +kernel⟩
abbrev s_law_bits : Stmt := topS 23
theorem sc_law_bits : FnScope ["_law_number", "_law_letters", "_law_found", "_law_k"] ["_law_number", "_law_letters"] (defScope s_law_bits) := ⟨rfl, rfl, rfl, by decide +kernel, rfl, by decide +kernel, by decide +kernel⟩
abbrev s_law_weights : Stmt := topS 29
theorem sc_law_weights : FnScope ["_law_place", "_law_mod", "_law_found", "_law_number", "_law_weight", "_law_bit", "_law_part_of"] ["_law_place", "_law_mod"] (defScope s_law_weights) := ⟨rfl, rfl, rfl, by decide +kernel, rfl, by decide +kernel, by decide +kernel⟩
abbrev s_law : Stmt := topS 31
theorem sc_law : FnScope ["_law_script", "_law_draw", "_law_turn", "_law_letters", "_law_number", "_law_good", "_law_want", "_law_mod", "_law_place", "_law_handed", "_law_again", "_law_found", "_law_bad"] ["_law_script"] (defScope s_law) := ⟨rfl, rfl, rfl, by decide +kernel, rfl, by decide +kernel, by decide +kernel⟩
abbrev s_LookError_init : Stmt := inClass (topS 1) 0
theorem sc_LookError_init : FnScope ["self", "word"] ["self", "word"] (defScope s_LookError_init) := ⟨rfl, rfl, rfl, by decide +kernel, rfl, by decide +kernel, by decide +kernel⟩
abbrev s_HallError_init : Stmt := inClass (topS 2) 0
theorem sc_HallError_init : FnScope ["self", "word"] ["self", "word"] (defScope s_HallError_init) := ⟨rfl, rfl, rfl, by decide +kernel, rfl, by decide +kernel, by decide +kernel⟩
abbrev s_BadPrime_init : Stmt := inClass (topS 3) 0
theorem sc_BadPrime_init : FnScope ["self"] ["self"] (defScope s_BadPrime_init) := ⟨rfl, rfl, rfl, by decide +kernel, rfl, by decide +kernel, by decide +kernel⟩
abbrev s_BadPlace_init : Stmt := inClass (topS 4) 0
theorem sc_BadPlace_init : FnScope ["self"] ["self"] (defScope s_BadPlace_init) := ⟨rfl, rfl, rfl, by decide +kernel, rfl, by decide +kernel, by decide +kernel⟩
structure Top (K : PySem.W.Frag) (mg : Str → Option Value) where
  law_begin : FnE K mg "_law_begin" s_law_begin ["_law_script"]
  law_same : FnE K mg "_law_same" s_law_same ["_law_found", "_law_due"]
  law_pick : FnE K mg "_law_pick" s_law_pick ["_law_draw", "_law_many"]
  law_one : FnE K mg "_law_one" s_law_one ["_law_draw", "_law_some"]
  law_primes : FnE K mg "_law_primes" s_law_primes []
  law_prime : FnE K mg "_law_prime" s_law_prime ["_law_draw"]
  law_rests : FnE K mg "_law_rests" s_law_rests ["_law_draw", "_law_many", "_law_mod"]
  law_far : FnE K mg "_law_far" s_law_far ["_law_draw"]
  law_bent_rests : FnE K mg "_law_bent_rests" s_law_bent_rests ["_law_draw", "_law_row", "_law_mod"]
  look_prime : FnE K mg "look_prime" s_look_prime ["prime"]
  are_rests : FnE K mg "are_rests" s_are_rests ["row", "prime"]
  look_place : FnE K mg "look_place" s_look_place ["place", "letters", "prime"]
  weights_at : FnE K mg "weights_at" s_weights_at ["place", "prime"]
  weights : FnK K mg "weights" s_weights ["place", "prime"] [.int 31] 1 ["prime"]
  law_tried : FnE K mg "_law_tried" s_law_tried ["_law_ask"]
  corner_of : FnE K mg "corner_of" s_corner_of ["number", "letters"]
  corner : FnE K mg "corner" s_corner ["number", "letters"]
  law_power : FnE K mg "_law_power" s_law_power ["_law_uno", "_law_many", "_law_mod"]
  law_bits : FnE K mg "_law_bits" s_law_bits ["_law_number", "_law_letters"]
  law_weights : FnE K mg "_law_weights" s_law_weights ["_law_place", "_law_mod"]
  law : FnL K mg "law" s_law ["_law_script"]
  x_LookError : XbE K mg "LookError" "LookError.__init__" s_LookError_init ["self", "word"]
  x_HallError : XbE K mg "HallError" "HallError.__init__" s_HallError_init ["self", "word"]
  x_BadPrime : XcE K mg "BadPrime" "BadPrime.__init__" s_BadPrime_init ["self"]
  up_BadPrime : PySem.W.exmOne K (.ref x_BadPrime.C) (.ref x_LookError.C) = some true
  x_BadPlace : XcE K mg "BadPlace" "BadPlace.__init__" s_BadPlace_init ["self"]
  up_BadPlace : PySem.W.exmOne K (.ref x_BadPlace.C) (.ref x_LookError.C) = some true
  z_all : mg "all" = none
  z_len : mg "len" = none
  z_tuple : mg "tuple" = none
  z_range : mg "range" = none
  z_min : mg "min" = none
  z_list : mg "list" = none
  z_isinstance : mg "isinstance" = none
  z_bool : mg "bool" = none
  z_int : mg "int" = none
  z_str : mg "str" = none
  z_zip : mg "zip" = none
  z_sum : mg "sum" = none
  a_PRIMES : Addr
  c_PRIMES : mg "PRIMES" = some (.ref a_PRIMES)
  q_PRIMES : ∀ H, SqT K H a_PRIMES [.int 3, .int 5, .int 7, .int 11, .int 13, .int 17, .int 19, .int 23, .int 29, .int 31, .int 37, .int 41, .int 43, .int 47, .int 53, .int 59, .int 61]
  c_PRIME : ∃ t, mg "PRIME" = some (.int 31 t)
  c_MOST_LETTERS : ∃ t, mg "MOST_LETTERS" = some (.int 6 t)
section
variable {P : Program} {w : World} {K : PySem.W.Frag} {mg : Str → Option Value} {base : Heap}
theorem ok_LookError_init (T : Top K mg) : FnOk P w K mg base (L2.CX P w) 1 T.x_LookError.fI T.x_LookError.fd ["self", "word"] (sp_init1 K) := by
  refine T.x_LookError.F.okX sc_LookError_init (fun vs H Q E h => ?_) (fun cdv A outer s H vs Q E hr h => ?_)
  · obtain ⟨a, C, v, rfl, _⟩ := h
    rfl
  · obtain ⟨a, C, v, rfl, ha, hC, hno, q⟩ := h
    exact ⟨_, pss_one (ps_ost (pv 0) (pv 1)), v, rfl, .ref a, rfl, a, C, rfl, hC, hno, .inl ⟨ha, q⟩⟩
/-! HallError is not raised -/
theorem ok_BadPrime_init (T : Top K mg) : FnOk P w K mg base (L2.CX P w) 2 T.x_BadPrime.fI T.x_BadPrime.fd ["self"] (sp_init0 K "BadPrime") := by
  refine T.x_BadPrime.F.okX sc_BadPrime_init (fun vs H Q E h => ?_) (fun cdv A outer s H vs Q E hr h => ?_)
  · obtain ⟨a, C, rfl, _⟩ := h
    rfl
  · obtain ⟨a, C, rfl, ha, hC, hno, q⟩ := h
    exact ⟨_, pss_one (ps_expr (pe_cfun rfl T.x_LookError.gC T.x_LookError.rd T.x_LookError.fc (ok_LookError_init T) hr T.x_LookError.F.kp T.x_LookError.b .nil passL (pa_cons (pv 0) (pa_cons pe_str pa_nil)))), .ref a, rfl, a, C, _, rfl, ha, hC, hno, q⟩
theorem ok_BadPlace_init (T : Top K mg) : FnOk P w K mg base (L2.CX P w) 2 T.x_BadPlace.fI T.x_BadPlace.fd ["self"] (sp_init0 K "BadPlace") := by
  refine T.x_BadPlace.F.okX sc_BadPlace_init (fun vs H Q E h => ?_) (fun cdv A outer s H vs Q E hr h => ?_)
  · obtain ⟨a, C, rfl, _⟩ := h
    rfl
  · obtain ⟨a, C, rfl, ha, hC, hno, q⟩ := h
    exact ⟨_, pss_one (ps_expr (pe_cfun rfl T.x_LookError.gC T.x_LookError.rd T.x_LookError.fc (ok_LookError_init T) hr T.x_LookError.F.kp T.x_LookError.b .nil passL (pa_cons (pv 0) (pa_cons pe_str pa_nil)))), .ref a, rfl, a, C, _, rfl, ha, hC, hno, q⟩
def lamQ_law : Str := (envOfC "law" (defScope s_law) 0 0 .none).qual ++ "<lambda>"
/-! ### _law_begin -/
def sp_begin (K : PySem.W.Frag) : Sp := fun vs H Q _ => ∃ (a : Addr) (ns : List Int), vs = [.ref a] ∧ SqL K H a (ns.map V.int) ∧ ∀ dr H', L2.Same H H' → Drw H' dr → Q (.ref dr) H'
def sp_begin0 (K : PySem.W.Frag) : Sp := fun vs H Q _ => ∃ (a : Addr) (ns : List Int), vs = [.ref a] ∧ SqL K H a (ns.map V.int) ∧ ∀ dr cl H' ms, H dr = none → L2.Same H H' → dr ≠ cl → H' dr = some (.lst (drawL cl 0 0 1 0)) → H' cl = some (.lst (List.map V.int ms)) → Q (.ref dr) H'
theorem cut_ints (ns : List Int) (lo hi : Option Int) : ∃ ms, cutV (ns.map V.int) lo hi = List.map V.int ms := by
  unfold cutV
  refine ⟨(ns.drop (HT.sIx ns.length 0 lo)).take (HT.sIx ns.length ns.length hi - HT.sIx ns.length 0 lo), ?_⟩
  rw [List.length_map, List.map_take, List.map_drop]
theorem ok_begin0 (T : Top K mg) : FnOk P w K mg base (L2.CX P w) 1 T.law_begin.a T.law_begin.fd ["_law_script"] (sp_begin0 K) := by
  refine T.law_begin.F.okX sc_law_begin (fun vs H Q E h => ?_) (fun cdv A outer s H vs Q E hr h => ?_)
  · obtain ⟨a, ns, rfl, _⟩ := h
    rfl
  · obtain ⟨a, ns, rfl, hS, q⟩ := h
    refine ⟨_, (pss_one (ps_ret (pe_lst (pa_cons (pe_callTy (call_listQK K rfl) (by rfl) T.z_list (by decide +kernel) (pa_cons (pe_slice (sl_listK K rfl) (pv 0) po_none (po_some pe_int)) pa_nil)) (pa_cons pe_int (pa_cons pe_int (pa_cons pe_int (pa_cons pe_int pa_nil)))))))), ?_⟩
    obtain ⟨ms, hm⟩ := cut_ints ns none (some 63)
    refine g_start (σ := [some (.ref a)]) rfl ?_
    walk_at "py"
    refine ⟨_, rfl, 63, rfl, a, _, rfl, hS, fun c nc => ?_⟩
    rw [hm]
    have s1 : L2.Same H (upd H c (.lst (ms.map V.int))) := same_new nc
    have e1 : (upd H c (.lst (ms.map V.int))) c = some (.lst (ms.map V.int)) := upd_same
    generalize upd H c (.lst (ms.map V.int)) = H1 at s1 e1 ⊢
    walk_at "py"
    rename_i l H2 n2 s2 e2 dr H3 n3 s3 e3
    exact q dr l H3 ms (s1.free (s2.free n3)) (by walk_at "same") (ne_of_none e2 n3).symm e3 (s3 _ _ e2)
theorem ok_law_begin (T : Top K mg) : FnOk P w K mg base (L2.CX P w) 1 T.law_begin.a T.law_begin.fd ["_law_script"] (sp_begin K) := by
  refine draw_made (ok_begin0 T) (fun vs H Q E h => ?_) (fun vs H Q E h => ?_)
  · obtain ⟨a, ns, rfl, _⟩ := h
    rfl
  · obtain ⟨a, ns, rfl, hS, q⟩ := h
    refine ⟨a, ns, rfl, hS, fun dr cl H' ms n sm hne e1 e2 => ⟨dr, cl, 0, 0, 1, 0, rfl, n, by unfold DrawR; omega, e1, q dr _ (same_mut sm n) ⟨cl, ms, upd_same, ?_⟩⟩⟩
    rw [upd_ne hne.symm]
    exact e2
theorem g_begin {H : Hp} {Q : VK} {E : XK} {a : Addr} {ns : List Int} (h : SqL K H a (ns.map V.int)) (k : ∀ dr H', L2.Same H H' → Drw H' dr → Q (.ref dr) H') : sp_begin K [.ref a] H Q E := ⟨a, ns, rfl, h, k⟩
local macro_rules | `(tactic| walk_at "call1") => `(tactic| ((with_reducible refine' g_begin ?e1 ?_); (case e1 => assumption); intro dr' H' s' d'))

/-! ### _law_same -/
def sp_same (K : PySem.W.Frag) (n : Nat) : Sp := fun vs H Q _ => ∃ (u v : V) (d : PyData), vs = [u, v] ∧ Dp K H u d ∧ Dp K H v d ∧ okD n d ∧ ∀ H', L2.Same H H' → Q (.bl true) H'
theorem ok_same_n (T : Top K mg) : ∀ n : Nat, FnOk P w K mg base (L2.CX P w) (n + 1) T.law_same.a T.law_same.fd ["_law_found", "_law_due"] (sp_same K n)
  | 0 => by
    refine T.law_same.F.okX sc_law_same (fun vs H Q E h => ?_) (fun cdv A outer s H vs Q E hr h => ?_)
    · obtain ⟨u, v, d, rfl, _⟩ := h
      rfl
    · obtain ⟨u, v, d, rfl, _, _, z, _⟩ := h
      exact z.elim
  | n + 1 => by
    have ih := ok_same_n T n
    refine T.law_same.F.okX sc_law_same (fun vs H Q E h => ?_) (fun cdv A outer s H vs Q E hr h => ?_)
    · obtain ⟨u, v, d, rfl, _⟩ := h
      rfl
    · obtain ⟨u, v, d, rfl, hu, hv, hd, q⟩ := h
      refine ⟨_, (pss_cons (ps_if (pt_cmpR op_isN2 (pv 1) pe_non (nomark _)) (pss_one (ps_ret (pe_cmpR op_isN2 (pv 0) pe_non (nomark _)))) pss_nil)
    (pss_cons (ps_if (PW.pt (pw_or (pt_val (pe_callB (call_isiK2 K rfl) (by rfl) T.z_isinstance (by decide +kernel) (pa_cons (pv 1) (pa_cons (pe_bltn (v := .ty "bool") (u := .type "bool") (by rfl) T.z_bool (by decide +kernel) rfl) pa_nil)))) (pw_or1 (pt_val (pe_callB (call_isiK2 K rfl) (by rfl) T.z_isinstance (by decide +kernel) (pa_cons (pv 0) (pa_cons (pe_bltn (v := .ty "bool") (u := .type "bool") (by rfl) T.z_bool (by decide +kernel) rfl) pa_nil))))))) (pss_one (ps_ret (pe_and (pe_callB (call_isiK2 K rfl) (by rfl) T.z_isinstance (by decide +kernel) (pa_cons (pv 1) (pa_cons (pe_bltn (v := .ty "bool") (u := .type "bool") (by rfl) T.z_bool (by decide +kernel) rfl) pa_nil))) (pe_and (pe_callB (call_isiK2 K rfl) (by rfl) T.z_isinstance (by decide +kernel) (pa_cons (pv 0) (pa_cons (pe_bltn (v := .ty "bool") (u := .type "bool") (by rfl) T.z_bool (by decide +kernel) rfl) pa_nil))) (pe_one (pe_cmpR op_eq (pv 0) (pv 1) (nomark _))))))) pss_nil)
    (pss_cons (ps_if (pt_val (pe_callB (call_isiTK K rfl) (by rfl) T.z_isinstance (by decide +kernel) (pa_cons (pv 1) (pa_cons (pe_tup (pa_cons (pe_bltn (v := .ty "int") (u := .type "int") (by rfl) T.z_int (by decide +kernel) rfl) (pa_cons (pe_bltn (v := .ty "str") (u := .type "str") (by rfl) T.z_str (by decide +kernel) rfl) pa_nil))) pa_nil)))) (pss_one (ps_ret (pe_and (pe_cmpR op_eq (pe_callB (call_isiK2 K rfl) (by rfl) T.z_isinstance (by decide +kernel) (pa_cons (pv 0) (pa_cons (pe_bltn (v := .ty "int") (u := .type "int") (by rfl) T.z_int (by decide +kernel) rfl) pa_nil))) (pe_callB (call_isiK2 K rfl) (by rfl) T.z_isinstance (by decide +kernel) (pa_cons (pv 1) (pa_cons (pe_bltn (v := .ty "int") (u := .type "int") (by rfl) T.z_int (by decide +kernel) rfl) pa_nil))) (nomark _)) (pe_and (pe_callB (call_isiTK K rfl) (by rfl) T.z_isinstance (by decide +kernel) (pa_cons (pv 0) (pa_cons (pe_tup (pa_cons (pe_bltn (v := .ty "int") (u := .type "int") (by rfl) T.z_int (by decide +kernel) rfl) (pa_cons (pe_bltn (v := .ty "str") (u := .type "str") (by rfl) T.z_str (by decide +kernel) rfl) pa_nil))) pa_nil))) (pe_one (pe_cmpR op_eq (pv 0) (pv 1) (nomark _))))))) pss_nil)
    (pss_cons (ps_if (PW.pt (pw_or (pt_cmpR op_ne (pe_callB (call_isiK2 K rfl) (by rfl) T.z_isinstance (by decide +kernel) (pa_cons (pv 0) (pa_cons (pe_bltn (v := .ty "list") (u := .type "list") (by rfl) T.z_list (by decide +kernel) rfl) pa_nil))) (pe_callB (call_isiK2 K rfl) (by rfl) T.z_isinstance (by decide +kernel) (pa_cons (pv 1) (pa_cons (pe_bltn (v := .ty "list") (u := .type "list") (by rfl) T.z_list (by decide +kernel) rfl) pa_nil))) (nomark _)) (pw_or1 (pt_cmpR op_ne (pe_callB (call_isiK2 K rfl) (by rfl) T.z_isinstance (by decide +kernel) (pa_cons (pv 0) (pa_cons (pe_bltn (v := .ty "tuple") (u := .type "tuple") (by rfl) T.z_tuple (by decide +kernel) rfl) pa_nil))) (pe_callB (call_isiK2 K rfl) (by rfl) T.z_isinstance (by decide +kernel) (pa_cons (pv 1) (pa_cons (pe_bltn (v := .ty "tuple") (u := .type "tuple") (by rfl) T.z_tuple (by decide +kernel) rfl) pa_nil))) (nomark _))))) (pss_one (ps_ret pe_bl)) pss_nil)
    (pss_one (ps_ret (pe_and (pe_cmpR op_eq (pe_callB (call_lenQK K rfl) (by rfl) T.z_len (by decide +kernel) (pa_cons (pv 0) pa_nil)) (pe_callB (call_lenQK K rfl) (by rfl) T.z_len (by decide +kernel) (pa_cons (pv 1) pa_nil)) (nomark _)) (pe_one (pe_callB (cr_allK K rfl rfl) (by rfl) T.z_all (by decide +kernel) (pa_cons (pe_lc (own := [("_law_k", 2)]) rfl sc_law_same.nd (pi_range1 (by rfl) T.z_range (pa_cons (pe_callB (call_lenQK K rfl) (by rfl) T.z_len (by decide +kernel) (pa_cons (pv 1) pa_nil)) pa_nil)) (blkOk_by (own := [("_law_k", 2)]) (N := ["_law_found", "_law_due", "_law_k"]) (sc := defScope s_law_same) (by decide +kernel)) (fun _ _ _ _ _ => (pg_name (i := 2) sc_law_same.nd rfl (Or.inl rfl))) (fun _ _ _ _ _ => pts_nil) (fun _ _ _ _ _ => (pe_hid (pe_call ih hr rfl T.law_same.g T.law_same.F.kp T.law_same.b .nil passL (pa_cons (pe_ix (ix_QK K rfl) (pv 0) (pv 2) (fun _ _ => rfl)) (pa_cons (pe_ix (ix_QK K rfl) (pv 1) (pv 2) (fun _ _ => rfl)) pa_nil)))))) pa_nil)))))))))), ?_⟩
      refine g_start (σ := [some u, some v, none]) rfl ?_
      cases d with
      | none =>
        cases hu
        cases hv
        walk_at "py"
        exact q H (L2.Same.refl H)
      | bool b =>
        cases hu
        cases hv
        walk_at "py"
        rw [decide_eq_true rfl]
        exact q _ (by walk_at "same")
      | int i =>
        cases hu
        cases hv
        walk_at "py"
        rw [decide_eq_true rfl]
        exact q _ (by walk_at "same")
      | str x =>
        cases hu
        cases hv
        walk_at "py"
        rw [decide_eq_true rfl]
        exact q _ (by walk_at "same")
      | list ds =>
        cases hu with
        | @lst a xs _ hu1 hu2 =>
        cases hv with
        | @lst b ys _ hv1 hv2 =>
        have l1 := DpAll.len hu2
        have l2 := DpAll.len hv2
        obtain ⟨hl, hd⟩ := hd
        walk_at "py"
        refine lc_dpR (K := K) (fun x => [some (.ref a), some (.ref b), some x]) (List.replicate ds.length (.bool true)) (by rw [List.length_replicate]; omega) (by rw [List.length_replicate]; omega) (fun _ => rfl) (fun _ => rfl) (fun i d B _ hi sm q' hq => ?_) (fun p H' n' s' hp => ?_)
        · have hi2 : i < ds.length := by simpa using (List.getElem?_eq_some_iff.mp hi).1
          obtain ⟨x, ex, dx⟩ := DpAll.get2 hu2 (List.getElem?_eq_getElem hi2)
          obtain ⟨y, ey, dy⟩ := DpAll.get2 hv2 (List.getElem?_eq_getElem hi2)
          have ax := atI_of ex (show (0 : Int) + (i : Int) = (i : Int) by omega)
          have ay := atI_of ey (show (0 : Int) + (i : Int) = (i : Int) by omega)
          have hr : (List.replicate ds.length (PyData.bool true))[i]? = some (.bool true) := by simp [hi2]
          have ed : d = .bool true := by
            rw [hi] at hr
            exact Option.some.inj hr
          subst ed
          walk_at "py"
          refine ⟨x, y, _, rfl, by walk_at "dp", by walk_at "dp", hd _ (List.getElem_mem hi2), fun B' sm' => hq _ B' sm' (.bl true)⟩
        · obtain ⟨zs, e, dp⟩ := hp
          rw [dp_bools dp] at e
          walk_at "py"
          refine g_all (SqL.of e) ?_
          rw [all_rep]
          exact q _ (by walk_at "same")
      | tuple ds =>
        cases hu with
        | @tup a xs _ hu1 hu2 =>
        cases hv with
        | @tup b ys _ hv1 hv2 =>
        have l1 := DpAll.len hu2
        have l2 := DpAll.len hv2
        obtain ⟨hl, hd⟩ := hd
        walk_at "py"
        refine lc_dpR (K := K) (fun x => [some (.ref a), some (.ref b), some x]) (List.replicate ds.length (.bool true)) (by rw [List.length_replicate]; omega) (by rw [List.length_replicate]; omega) (fun _ => rfl) (fun _ => rfl) (fun i d B _ hi sm q' hq => ?_) (fun p H' n' s' hp => ?_)
        · have hi2 : i < ds.length := by simpa using (List.getElem?_eq_some_iff.mp hi).1
          obtain ⟨x, ex, dx⟩ := DpAll.get2 hu2 (List.getElem?_eq_getElem hi2)
          obtain ⟨y, ey, dy⟩ := DpAll.get2 hv2 (List.getElem?_eq_getElem hi2)
          have ax := atI_of ex (show (0 : Int) + (i : Int) = (i : Int) by omega)
          have ay := atI_of ey (show (0 : Int) + (i : Int) = (i : Int) by omega)
          have hr : (List.replicate ds.length (PyData.bool true))[i]? = some (.bool true) := by simp [hi2]
          have ed : d = .bool true := by
            rw [hi] at hr
            exact Option.some.inj hr
          subst ed
          walk_at "py"
          refine ⟨x, y, _, rfl, by walk_at "dp", by walk_at "dp", hd _ (List.getElem_mem hi2), fun B' sm' => hq _ B' sm' (.bl true)⟩
        · obtain ⟨zs, e, dp⟩ := hp
          rw [dp_bools dp] at e
          walk_at "py"
          refine g_all (SqL.of e) ?_
          rw [all_rep]
          exact q _ (by walk_at "same")
      | dict ds => exact hd.elim
theorem ok_law_same (T : Top K mg) : FnOk P w K mg base (L2.CX P w) 9 T.law_same.a T.law_same.fd ["_law_found", "_law_due"] (sp_same K 8) := ok_same_n T 8
theorem g_same {n : Nat} {H : Hp} {Q : VK} {E : XK} {u v : V} {d d' : PyData} (h1 : Dp K H u d) (h2 : Dp K H v d') (e : d = d') (hd : okD n d) (k : ∀ H', L2.Same H H' → Q (.bl true) H') : sp_same K n [u, v] H Q E := ⟨u, v, d, rfl, h1, e ▸ h2, hd, k⟩
local macro_rules | `(tactic| walk_at "okd") => `(tactic| first | exact True.intro | assumption | exact okD_ints (by first | assumption | omega) | exact okD_intsT (by first | assumption | omega) | (refine okD_list (by first | exact Nat.le_of_ble_eq_true rfl | omega) ?_; walk_at "okd") | (refine okD_tuple (by first | exact Nat.le_of_ble_eq_true rfl | omega) ?_; walk_at "okd") | exact okD_nil | (refine okD_cons ?_ ?_ <;> walk_at "okd"))
local macro_rules | `(tactic| walk_at "eqd") => `(tactic| first | rfl | assumption)
local macro_rules | `(tactic| walk_at "call1") => `(tactic| ((with_reducible refine' g_same ?e1 ?e2 ?e3 ?e4 ?_); (case e1 => walk_at "dp"); (case e2 => walk_at "dp"); (case e3 => walk_at "eqd"); (case e4 => walk_at "okd"); intro H' s'))

/-! ### _law_pick -/
/-- the draw as a list -/
def sp_pick0 : Sp := fun vs H Q _ => ∃ (dr cl : Addr) (i g r c m : Int) (ns : List Int), vs = [.ref dr, .int m] ∧ dr ≠ cl ∧ H dr = some (.lst (drawL cl i g r c)) ∧ H cl = some (.lst (ns.map V.int)) ∧ DrawR i g r c ∧ 1 ≤ m ∧ m ≤ 1000000000 ∧
  ∀ i g r c x, DrawR i g r c → 0 ≤ x → x < m → Q (.int x) (upd H dr (.lst (drawL cl i g r c)))
theorem ok_pick0 (T : Top K mg) : FnOk P w K mg base (L2.CX P w) 1 T.law_pick.a T.law_pick.fd ["_law_draw", "_law_many"] sp_pick0 := by
  refine T.law_pick.F.okX sc_law_pick (fun vs H Q E h => ?_) (fun cdv A outer s H vs Q E hr h => ?_)
  · obtain ⟨dr, cl, i, g, r, c, m, ns, rfl, _⟩ := h
    rfl
  · obtain ⟨dr, cl, i, g, r, c, m, ns, rfl, hne, hd, hc, ⟨i0, g0, r0, r1, c0⟩, m1, m2, q⟩ := h
    have hR : ∀ {i g r c : Int}, 0 ≤ i → 0 ≤ g → 0 ≤ r → r < 1000000007 → 0 ≤ c → DrawR i g r c := fun h1 h2 h3 h4 h5 => ⟨h1, h2, h3, h4, h5⟩
    refine ⟨_, (pss_cons (ps_if (PW.pt (pw_and (pt_cmpR op_lt (pe_ix (ix_QK K rfl) (pv 0) pe_int (fun _ _ => rfl)) (pv 1) (nomark _)) (pw_and1 (pt_cmpR op_lt (pe_ix (ix_QK K rfl) (pv 0) pe_int (fun _ _ => rfl)) (pe_callB (call_lenQK K rfl) (by rfl) T.z_len (by decide +kernel) (pa_cons (pe_ix (ix_QK K rfl) (pv 0) pe_int (fun _ _ => rfl)) pa_nil)) (nomark _))))) (pss_cons (ps_set (i := 2) sc_law_pick.nd rfl (Or.inl rfl) (pe_ix (ix_QK K rfl) (pe_ix (ix_QK K rfl) (pv 0) pe_int (fun _ _ => rfl)) (pe_ix (ix_QK K rfl) (pv 0) pe_int (fun _ _ => rfl)) (fun _ _ => rfl)))
    (pss_cons (ps_asg (pe_op op_add (pe_ix (ix_QK K rfl) (pv 0) pe_int (fun _ _ => rfl)) pe_int) (pg_sub (pv 0) pe_int set_list))
    (pss_cons (ps_asg pe_int (pg_sub (pv 0) pe_int set_list))
    (pss_one (ps_if (pt_cmpR op_ge (pv 2) (pe_powC (n := 1000000000000000000) (by decide) (by decide)) (nomark _)) (pss_one (ps_asg (pv 2) (pg_sub (pv 0) pe_int set_list))) (pss_one (ps_asg (pe_op op_mod (pe_op op_add (pe_ix (ix_QK K rfl) (pv 0) pe_int (fun _ _ => rfl)) (pv 2)) pe_int) (pg_sub (pv 0) pe_int set_list)))))))) pss_nil)
    (pss_cons (ps_if (pt_cmpR op_ge (pe_ix (ix_QK K rfl) (pv 0) pe_int (fun _ _ => rfl)) (pv 1) (nomark _)) (pss_cons (ps_set (i := 3) sc_law_pick.nd rfl (Or.inl rfl) (pe_op op_mod (pe_ix (ix_QK K rfl) (pv 0) pe_int (fun _ _ => rfl)) (pv 1)))
    (pss_cons (ps_asg (pe_op op_fdiv (pe_ix (ix_QK K rfl) (pv 0) pe_int (fun _ _ => rfl)) (pv 1)) (pg_sub (pv 0) pe_int set_list))
    (pss_one (ps_ret (pv 3))))) pss_nil)
    (pss_cons (ps_asg (pe_op op_add (pe_ix (ix_QK K rfl) (pv 0) pe_int (fun _ _ => rfl)) pe_int) (pg_sub (pv 0) pe_int set_list))
    (pss_cons (ps_asg (pe_op op_mod (pe_op op_add (pe_op op_add (pe_op op_pow (pe_ix (ix_QK K rfl) (pv 0) pe_int (fun _ _ => rfl)) pe_int) (pe_op op_mul pe_int (pe_ix (ix_QK K rfl) (pv 0) pe_int (fun _ _ => rfl)))) pe_int) pe_int) (pg_sub (pv 0) pe_int set_list))
    (pss_one (ps_ret (pe_op op_mod (pe_op op_fdiv (pe_ix (ix_QK K rfl) (pv 0) pe_int (fun _ _ => rfl)) pe_int) (pv 1)))))))), ?_⟩
    refine g_start (σ := [some (.ref dr), some (.int m), none, none]) rfl ?_
    have fin : ∀ {H' : Hp} {i g r c : Int} (ls : List V), H' = upd H dr (.lst ls) → ls = drawL cl i g r c → 0 ≤ i → 0 ≤ g → 0 ≤ r → r < 1000000007 → 0 ≤ c →
        ∀ x, 0 ≤ x → x < m → Q (.int x) H' := fun {H' i g r c} ls e1 e2 h1 h2 h3 h4 h5 x x0 x1 => by
      rw [e1, e2]
      exact q i g r c x ⟨h1, h2, h3, h4, h5⟩ x0 x1
    have md : ∀ z : Int, 0 ≤ z % m ∧ z % m < m := fun z => ⟨Int.emod_nonneg z (by omega), Int.emod_lt_of_pos z (by omega)⟩
    have mp : ∀ z : Int, 0 ≤ z % 1000000007 ∧ z % 1000000007 < 1000000007 := fun z => ⟨Int.emod_nonneg z (by omega), Int.emod_lt_of_pos z (by omega)⟩
    have dv : ∀ z : Int, 0 ≤ z → 0 ≤ z / m := fun z hz => Int.ediv_nonneg hz (by omega)
    walk_at "py"
    · have e2 := ‹i < ((ns.map V.int).length : Int)›
      have hi : i.toNat < ns.length := by
        rw [List.length_map] at e2
        omega
      have ha : atI (ns.map V.int) i = some (.int ns[i.toNat]) := by
        have h := atI_nat (xs := ns.map V.int) (j := i.toNat) (v := .int ns[i.toNat]) (by rw [List.getElem?_map, List.getElem?_eq_getElem hi]; rfl)
        rw [Int.toNat_of_nonneg i0] at h
        exact h
      refine g_ixQ (sqL hc) ha ?_
      generalize ns[i.toNat] = z
      walk_at "py"
      all_goals first
        | exact fin (i := i + 1) (g := z / m) (r := r) (c := c) _ (by simp only [upd_upd]; rfl) rfl (by omega) (dv _ (Int.le_trans (by decide) (show (1000000000000000000 : Int) ≤ z by assumption))) r0 r1 c0 _ (md _).1 (md _).2
        | exact fin (i := i + 1) (c := c + 1) _ (by simp only [upd_upd]; rfl) rfl (by omega) (by first | omega | exact Int.le_trans (by decide) (show (1000000000000000000 : Int) ≤ z by assumption)) (mp _).1 (mp _).2 (by omega) _ (md _).1 (md _).2
    all_goals first | exact fin _ rfl rfl i0 (dv g g0) r0 r1 c0 _ (md g).1 (md g).2 | exact fin _ upd_upd rfl i0 g0 (mp _).1 (mp _).2 (by omega) _ (md _).1 (md _).2
def sp_pick : Sp := fun vs H Q _ => ∃ (dr : Addr) (m : Int), vs = [.ref dr, .int m] ∧ Drw H dr ∧ 1 ≤ m ∧ m ≤ 1000000000 ∧ ∀ x H', 0 ≤ x → x < m → L2.Same H H' → Q (.int x) H'
theorem ok_law_pick (T : Top K mg) : FnOk P w K mg base (L2.CX P w) 1 T.law_pick.a T.law_pick.fd ["_law_draw", "_law_many"] sp_pick := by
  refine draw_cast (ok_pick0 T) (fun vs H Q E h => ?_) (fun _ _ _ _ _ _ _ h => cx_false h) (fun vs H Q E h => ?_)
  · obtain ⟨dr, m, rfl, _⟩ := h
    rfl
  · obtain ⟨dr, m, rfl, ⟨cl, ns, hd, hc⟩, m1, m2, q⟩ := h
    have hne : dr ≠ cl := ne_of hd hc (fun z => by unfold DrawO at z; cases z)
    refine ⟨dr, cl, hd, fun i g r c hR => ⟨dr, cl, i, g, r, c, m, ns, rfl, hne, upd_same, by rw [upd_ne hne.symm]; exact hc, hR, m1, m2, fun i g r c x hR x0 x1 => ⟨i, g, r, c, hR, upd_same, q x _ x0 x1 fun b o e => ?_⟩⟩⟩
    by_cases hb : b = dr
    · subst hb
      rw [hd] at e
      cases e
      exact upd_same
    · rw [upd_ne hb, upd_ne hb, upd_ne hb]
      exact e
theorem g_pick {H : Hp} {Q : VK} {E : XK} {dr : Addr} {m : Int} (h : Drw H dr) (m1 : 1 ≤ m ∧ m ≤ 1000000000) (k : ∀ x H', 0 ≤ x → x < m → L2.Same H H' → Q (.int x) H') : sp_pick [.ref dr, .int m] H Q E := ⟨dr, m, rfl, h, m1.1, m1.2, k⟩
local macro_rules | `(tactic| walk_at "call1") => `(tactic| ((with_reducible refine' g_pick ?e1 ?e2 ?_); (case e1 => walk_at "drw"); (case e2 => walk_at "side"); intro r' H' b' c' s'))

/-! ### _law_one -/
def sp_one (K : PySem.W.Frag) : Sp := fun vs H Q _ => ∃ (dr a : Addr) (xs : List V), vs = [.ref dr, .ref a] ∧ Drw H dr ∧ Sq K H a xs ∧ (1 ≤ xs.length ∧ xs.length ≤ 1000000000) ∧ ∀ (i : Nat) v H', xs[i]? = some v → L2.Same H H' → Q v H'
theorem ok_law_one (T : Top K mg) : FnOk P w K mg base (L2.CX P w) 2 T.law_one.a T.law_one.fd ["_law_draw", "_law_some"] (sp_one K) := by
  refine T.law_one.F.okX sc_law_one (fun vs H Q E h => ?_) (fun cdv A outer s H vs Q E hr h => ?_)
  · obtain ⟨dr, a, xs, rfl, _⟩ := h
    rfl
  · obtain ⟨dr, a, xs, rfl, hd, hS, hl, q⟩ := h
    refine ⟨_, (pss_one (ps_ret (pe_ix (ix_QK K rfl) (pv 1) (pe_call (ok_law_pick T) (hr.mono (by decide)) rfl T.law_pick.g T.law_pick.F.kp T.law_pick.b .nil (passes_call (takes_of rfl rfl rfl rfl) (fun _ _ _ _ h => h)) (pa_cons (pv 0) (pa_cons (pe_callB (call_lenQK K rfl) (by rfl) T.z_len (by decide +kernel) (pa_cons (pv 1) pa_nil)) pa_nil))) (fun _ _ => rfl)))), ?_⟩
    refine g_start (σ := [some (.ref dr), some (.ref a)]) rfl ?_
    walk_at "py"
    rename_i r H1 r0 r1 s1
    obtain ⟨i, v, h1, h2⟩ := atI_ok r0 r1
    walk_at "py"
    exact q i v H1 h1 s1
theorem g_one {H : Hp} {Q : VK} {E : XK} {dr a : Addr} {xs : List V} (h : Drw H dr) (hS : Sq K H a xs) (hl : 1 ≤ xs.length ∧ xs.length ≤ 1000000000) (k : ∀ (i : Nat) v H', xs[i]? = some v → L2.Same H H' → Q v H') : sp_one K [.ref dr, .ref a] H Q E := ⟨dr, a, xs, rfl, h, hS, hl, k⟩
theorem g_oneI {H : Hp} {Q : VK} {E : XK} {dr a : Addr} {xs : List V} (h : Drw H dr) (hS : Sq K H a xs) (hl : 1 ≤ xs.length ∧ xs.length ≤ 1000000000) (hi : xs.all isIntV = true) (k : ∀ (n : Int) H', V.int n ∈ xs → L2.Same H H' → Q (.int n) H') : sp_one K [.ref dr, .ref a] H Q E :=
  ⟨dr, a, xs, rfl, h, hS, hl, fun i v H' e sm => by
    obtain ⟨n, rfl, hm⟩ := int_of hi e
    exact k n H' hm sm⟩
local macro_rules | `(tactic| walk_at "call1") => `(tactic| first
  | ((with_reducible refine' g_oneI ?e1 ?e2 ?e3 ?e4 ?_); (case e1 => walk_at "drw"); (case e2 => walk_at "sq"); (case e3 => first | exact ⟨Nat.le_of_ble_eq_true rfl, Nat.le_of_ble_eq_true rfl⟩ | omega); (case e4 => rfl); intro n' H' g' s')
  | ((with_reducible refine' g_one ?e1 ?e2 ?e3 ?_); (case e1 => walk_at "drw"); (case e2 => walk_at "sq"); (case e3 => first | exact ⟨Nat.le_of_ble_eq_true rfl, Nat.le_of_ble_eq_true rfl⟩ | omega); intro i' v' H' g' s'))

/-! ### _law_primes -/
def sp_primes : Sp := fun vs H Q _ => vs = [] ∧ ∀ p H', H p = none → L2.Same H H' → H' p = some (.lst (primesL.map V.int)) → Q (.ref p) H'
theorem ok_law_primes (T : Top K mg) : FnOk P w K mg base (L2.CX P w) 1 T.law_primes.a T.law_primes.fd [] sp_primes := by
  refine T.law_primes.F.okX sc_law_primes (fun vs H Q E h => ?_) (fun cdv A outer s H vs Q E hr h => ?_)
  · obtain ⟨rfl, _⟩ := h
    rfl
  · obtain ⟨rfl, q⟩ := h
    refine ⟨_, (pss_one (ps_ret (pe_lst (pa_cons pe_int (pa_cons pe_int (pa_cons pe_int (pa_cons pe_int (pa_cons pe_int (pa_cons pe_int (pa_cons pe_int (pa_cons pe_int (pa_cons pe_int (pa_cons pe_int (pa_cons pe_int (pa_cons pe_int (pa_cons pe_int (pa_cons pe_int (pa_cons pe_int (pa_cons pe_int (pa_cons pe_int pa_nil)))))))))))))))))))), ?_⟩
    refine g_start (σ := []) rfl ?_
    walk_at "py"
    rename_i p H1 n1 s1 e1
    exact q p H1 n1 s1 e1
theorem g_primes {H : Hp} {Q : VK} {E : XK} (k : ∀ p H', H p = none → L2.Same H H' → H' p = some (.lst (primesL.map V.int)) → Q (.ref p) H') : sp_primes [] H Q E := ⟨rfl, k⟩
local macro_rules | `(tactic| walk_at "call1") => `(tactic| ((with_reducible refine' g_primes ?_); intro p' H' n' s' e'))

/-! ### _law_prime -/
def sp_prime (K : PySem.W.Frag) : Sp := fun vs H Q _ => ∃ (dr : Addr), vs = [.ref dr] ∧ Drw H dr ∧ ∀ (n : Int) H', n ∈ primesL → L2.Same H H' → Q (.int n) H'
theorem ok_law_prime (T : Top K mg) : FnOk P w K mg base (L2.CX P w) 3 T.law_prime.a T.law_prime.fd ["_law_draw"] (sp_prime K) := by
  refine T.law_prime.F.okX sc_law_prime (fun vs H Q E h => ?_) (fun cdv A outer s H vs Q E hr h => ?_)
  · obtain ⟨dr, rfl, _⟩ := h
    rfl
  · obtain ⟨dr, rfl, hd, q⟩ := h
    refine ⟨_, (pss_one (ps_ret (pe_call (ok_law_one T) (hr.mono (by decide)) rfl T.law_one.g T.law_one.F.kp T.law_one.b .nil (passes_call (takes_of rfl rfl rfl rfl) (fun _ _ _ _ h => h)) (pa_cons (pv 0) (pa_cons (pe_lst (pa_cons pe_int (pa_cons pe_int (pa_cons pe_int (pa_cons (pe_call (ok_law_one T) (hr.mono (by decide)) rfl T.law_one.g T.law_one.F.kp T.law_one.b .nil (passes_call (takes_of rfl rfl rfl rfl) (fun _ _ _ _ h => h)) (pa_cons (pv 0) (pa_cons (pe_call0 (ok_law_primes T) (hr.mono (by decide)) rfl T.law_primes.g T.law_primes.F.kp T.law_primes.b .nil (passes_call (takes_of rfl rfl rfl rfl) (fun _ _ _ _ h => h))) pa_nil))) pa_nil))))) pa_nil))))), ?_⟩
    refine g_start (σ := [some (.ref dr)]) rfl ?_
    walk_at "py"
    rename_i p0 H0 n0 s0 e0 x H1 h1 s1 p2 H2 n2 s2 e2 n H3 h3 s3
    refine q n H3 ?_ (by walk_at "same")
    have hx : x ∈ primesL := by
      obtain ⟨y, hy, e⟩ := List.mem_map.mp h1
      cases e
      exact hy
    simp only [List.mem_cons, V.int.injEq, List.not_mem_nil, or_false] at h3
    rcases h3 with rfl | rfl | rfl | rfl
    · decide
    · decide
    · decide
    · exact hx
theorem g_prime {H : Hp} {Q : VK} {E : XK} {dr : Addr} (h : Drw H dr) (k : ∀ (n : Int) H', n ∈ primesL → L2.Same H H' → Q (.int n) H') : sp_prime K [.ref dr] H Q E := ⟨dr, rfl, h, k⟩
local macro_rules | `(tactic| walk_at "call1") => `(tactic| ((with_reducible refine' g_prime ?e1 ?_); (case e1 => walk_at "drw"); intro n' H' b' s'; have y' := primes_bd b'))

/-! ### _law_rests -/
def sp_law_rests : Sp := fun vs H Q _ => ∃ (dr : Addr) (n p : Int), vs = [.ref dr, .int n, .int p] ∧ Drw H dr ∧ (0 ≤ n ∧ n ≤ 100000) ∧ (2 ≤ p ∧ p ≤ 1000) ∧ ∀ (l : Addr) (ns : List Int) H', H l = none → ns.length = n.toNat → Rests p ns → L2.Same H H' → H' l = some (.lst (ns.map V.int)) → Q (.ref l) H'
theorem ok_law_rests (T : Top K mg) : FnOk P w K mg base (L2.CX P w) 4 T.law_rests.a T.law_rests.fd ["_law_draw", "_law_many", "_law_mod"] sp_law_rests := by
  refine T.law_rests.F.okX sc_law_rests (fun vs H Q E h => ?_) (fun cdv A outer s H vs Q E hr h => ?_)
  · obtain ⟨dr, n, p, rfl, _⟩ := h
    rfl
  · obtain ⟨dr, n, p, rfl, hd, hn, hp, q⟩ := h
    refine ⟨_, (pss_one (ps_ret (pe_lc (own := [("_law_k", 3)]) rfl sc_law_rests.nd (pi_range1 (by rfl) T.z_range (pa_cons (pv 1) pa_nil)) (blkOk_by (own := [("_law_k", 3)]) (N := ["_law_draw", "_law_many", "_law_mod", "_law_k"]) (sc := defScope s_law_rests) (by decide +kernel)) (fun _ _ _ _ _ => (pg_name (i := 3) sc_law_rests.nd rfl (Or.inl rfl))) (fun _ _ _ _ _ => pts_nil) (fun _ _ _ _ _ => (pe_hid (pe_call (ok_law_one T) (hr.mono (by decide)) rfl T.law_one.g T.law_one.F.kp T.law_one.b .nil passL (pa_cons (pv 0) (pa_cons (pe_lst (pa_cons pe_int (pa_cons pe_int (pa_cons (pe_op op_sub (pv 2) pe_int) (pa_cons (pe_call (ok_law_pick T) (hr.mono (by decide)) rfl T.law_pick.g T.law_pick.F.kp T.law_pick.b .nil passL (pa_cons (pv 0) (pa_cons (pv 2) pa_nil))) pa_nil))))) pa_nil)))))))), ?_⟩
    refine g_start (σ := [some (.ref dr), some (.int n), some (.int p), none]) rfl ?_
    walk_at "py"
    refine lc_intR (fun x => [some (.ref dr), some (.int n), some (.int p), some x]) (fun _ m => 0 ≤ m ∧ m < p) (by omega) (fun _ => rfl) (fun _ => rfl) (fun i B hi sm q' hq => ?_) (fun l H' ns n' s' hl hR e' => ?_)
    · walk_at "py"
      rename_i m B3 hm s3
      refine hq _ _ (by walk_at "same") ?_
      simp only [List.mem_cons, V.int.injEq, List.not_mem_nil, or_false] at hm
      omega
    · walk_at "py"
      exact q l ns H' n' hl (Rests.of hR) s' e'
theorem g_law_rests {H : Hp} {Q : VK} {E : XK} {dr : Addr} {n p : Int} (h : Drw H dr) (hn : 0 ≤ n ∧ n ≤ 100000) (hp : 2 ≤ p ∧ p ≤ 1000) (k : ∀ (l : Addr) (ns : List Int) H', H l = none → ns.length = n.toNat → Rests p ns → L2.Same H H' → H' l = some (.lst (ns.map V.int)) → Q (.ref l) H') : sp_law_rests [.ref dr, .int n, .int p] H Q E := ⟨dr, n, p, rfl, h, hn, hp, k⟩
local macro_rules | `(tactic| walk_at "call1") => `(tactic| ((with_reducible refine' g_law_rests ?e1 ?e2 ?e3 ?_); (case e1 => walk_at "drw"); (case e2 => first | assumption | omega); (case e3 => first | assumption | omega); intro l' r' H' n' h' k' s' e'))

/-! ### _law_far -/
def sp_far : Sp := fun vs H Q _ => ∃ (dr : Addr), vs = [.ref dr] ∧ Drw H dr ∧ ∀ (n : Int) H', 10000000 ≤ n.natAbs → n.natAbs < 2 ^ 100 → L2.Same H H' → Q (.int n) H'
theorem ok_law_far (T : Top K mg) : FnOk P w K mg base (L2.CX P w) 2 T.law_far.a T.law_far.fd ["_law_draw"] sp_far := by
  refine T.law_far.F.okX sc_law_far (fun vs H Q E h => ?_) (fun cdv A outer s H vs Q E hr h => ?_)
  · obtain ⟨dr, rfl, _⟩ := h
    rfl
  · obtain ⟨dr, rfl, hd, q⟩ := h
    refine ⟨_, (pss_cons (ps_set (i := 1) sc_law_far.nd rfl (Or.inl rfl) (pe_op op_add (pe_op op_add (pe_powC (n := 10000000) (by decide) (by decide)) (pe_call (ok_law_pick T) (hr.mono (by decide)) rfl T.law_pick.g T.law_pick.F.kp T.law_pick.b .nil (passes_call (takes_of rfl rfl rfl rfl) (fun _ _ _ _ h => h)) (pa_cons (pv 0) (pa_cons (pe_powC (n := 1000000000) (by decide) (by decide)) pa_nil)))) (pe_op op_mul (pe_powC (n := 10000000000000000000000000000) (by decide) (by decide)) (pe_call (ok_law_pick T) (hr.mono (by decide)) rfl T.law_pick.g T.law_pick.F.kp T.law_pick.b .nil (passes_call (takes_of rfl rfl rfl rfl) (fun _ _ _ _ h => h)) (pa_cons (pv 0) (pa_cons pe_int pa_nil))))))
    (pss_one (ps_ret (pe_ix (ix_QK K rfl) (pe_tup (pa_cons (pv 1) (pa_cons (pe_op op_sub pe_int (pv 1)) pa_nil))) (pe_call (ok_law_pick T) (hr.mono (by decide)) rfl T.law_pick.g T.law_pick.F.kp T.law_pick.b .nil (passes_call (takes_of rfl rfl rfl rfl) (fun _ _ _ _ h => h)) (pa_cons (pv 0) (pa_cons pe_int pa_nil))) (fun _ _ => rfl))))), ?_⟩
    refine g_start (σ := [some (.ref dr), none]) rfl ?_
    walk_at "py"
    rename_i x H1 x0 x1 s1 y H2 y0 y1 s2 p H3 n3 s3 e3 z H4 z0 z1 s4
    generalize hn : (10000000 : Int) + x + 10000000000000000000000000000 * y = n at e3
    have b1 : 10000000 ≤ n ∧ n < 2 ^ 99 := by
      rw [← hn]
      omega
    obtain ⟨i, v, h1, h2⟩ := atI_ok (xs := [.int n, .int (0 - n)]) z0 (by simpa using z1)
    walk_at "py"
    match i, h1 with
    | 0, h1 =>
      cases h1
      exact q _ _ (by omega) (by omega) (by walk_at "same")
    | 1, h1 =>
      cases h1
      exact q _ _ (by omega) (by omega) (by walk_at "same")
theorem g_far {H : Hp} {Q : VK} {E : XK} {dr : Addr} (h : Drw H dr) (k : ∀ (n : Int) H', 10000000 ≤ n.natAbs → n.natAbs < 2 ^ 100 → L2.Same H H' → Q (.int n) H') : sp_far [.ref dr] H Q E := ⟨dr, rfl, h, k⟩
local macro_rules | `(tactic| walk_at "call1") => `(tactic| ((with_reducible refine' g_far ?e1 ?_); (case e1 => walk_at "drw"); intro n' H' b' c' s'))

/-! ### _law_bent_rests -/
def sp_law_bent_rests (K : PySem.W.Frag) : Sp := fun vs H Q _ => ∃ (dr a : Addr) (xs : List V) (ns : List Int) (p : Int), vs = [.ref dr, .ref a, .int p] ∧ Drw H dr ∧ Sq K H a xs ∧ intsOf xs = some ns ∧ (1 ≤ xs.length ∧ xs.length ≤ 100000) ∧ (2 ≤ p ∧ p ≤ 1000) ∧
  ∀ (l : Addr) (i : Nat) (o : Int) H', H l = none → i < ns.length → ¬ (0 ≤ o ∧ o < p) → o.natAbs < 2 ^ 100 → L2.Same H H' → H' l = some (.lst ((ns.set i o).map V.int)) → Q (.ref l) H'
theorem ok_law_bent_rests (T : Top K mg) : FnOk P w K mg base (L2.CX P w) 4 T.law_bent_rests.a T.law_bent_rests.fd ["_law_draw", "_law_row", "_law_mod"] (sp_law_bent_rests K) := by
  refine T.law_bent_rests.F.okX sc_law_bent_rests (fun vs H Q E h => ?_) (fun cdv A outer s H vs Q E hr h => ?_)
  · obtain ⟨dr, a, xs, ns, p, rfl, _⟩ := h
    rfl
  · obtain ⟨dr, a, xs, ns, p, rfl, hd, hS, hi, hl, hp, q⟩ := h
    obtain rfl := intsOf_eq hi
    have hl2 : 1 ≤ ns.length ∧ ns.length ≤ 100000 := by simpa using hl
    refine ⟨_, (pss_cons (ps_set (i := 3) sc_law_bent_rests.nd rfl (Or.inl rfl) (pe_callTy (call_listQK K rfl) (by rfl) T.z_list (by decide +kernel) (pa_cons (pv 1) pa_nil)))
    (pss_cons (ps_set (i := 4) sc_law_bent_rests.nd rfl (Or.inl rfl) (pe_call (ok_law_one T) (hr.mono (by decide)) rfl T.law_one.g T.law_one.F.kp T.law_one.b .nil (passes_call (takes_of rfl rfl rfl rfl) (fun _ _ _ _ h => h)) (pa_cons (pv 0) (pa_cons (pe_lst (pa_cons (pe_un un_neg pe_int) (pa_cons (pv 2) (pa_cons (pe_op op_add (pv 2) pe_int) (pa_cons (pe_op op_sub pe_int (pv 2)) (pa_cons (pe_call (ok_law_far T) (hr.mono (by decide)) rfl T.law_far.g T.law_far.F.kp T.law_far.b .nil (passes_call (takes_of rfl rfl rfl rfl) (fun _ _ _ _ h => h)) (pa_cons (pv 0) pa_nil)) pa_nil)))))) pa_nil))))
    (pss_cons (ps_asg (pv 4) (pg_sub (pv 3) (pe_call (ok_law_pick T) (hr.mono (by decide)) rfl T.law_pick.g T.law_pick.F.kp T.law_pick.b .nil (passes_call (takes_of rfl rfl rfl rfl) (fun _ _ _ _ h => h)) (pa_cons (pv 0) (pa_cons (pe_callB (call_lenQK K rfl) (by rfl) T.z_len (by decide +kernel) (pa_cons (pv 3) pa_nil)) pa_nil))) set_list))
    (pss_one (ps_ret (pv 3)))))), ?_⟩
    refine g_start (σ := [some (.ref dr), some (.ref a), some (.int p), none, none]) rfl ?_
    walk_at "py"
    rename_i l H1 n1 s1 e1 _ _ f H2 f0 f1 s2 l2 H3 n3 s3 e3 o H4 ho s4 _ _ j H5 j0 j1 s5
    have hj : j.toNat < ns.length := by
      have : j < (ns.map V.int).length := j1
      rw [List.length_map] at this
      omega
    have hb : ¬ (0 ≤ o ∧ o < p) ∧ o.natAbs < 2 ^ 100 := by
      simp only [List.mem_cons, V.int.injEq, List.not_mem_nil, or_false] at ho
      omega
    have e5 : H5 l = some (.lst (ns.map V.int)) := by walk_at "hp"
    refine g_setL (j := j.toNat) e5 ?_ ?_
    · rw [List.length_map]
      exact ixN_of j0 (by omega)
    · walk_at "py"
      refine q l j.toNat o _ n1 hj hb.1 hb.2 (same_mut (by walk_at "same") n1) ?_
      rw [upd_same, List.map_set]
theorem g_law_bent_rests {H : Hp} {Q : VK} {E : XK} {dr a : Addr} {xs : List V} {ns : List Int} {p : Int} (h : Drw H dr) (hS : Sq K H a xs) (hi : intsOf xs = some ns) (hl : 1 ≤ xs.length ∧ xs.length ≤ 100000) (hp : 2 ≤ p ∧ p ≤ 1000)
    (k : ∀ (l : Addr) (i : Nat) (o : Int) H', H l = none → i < ns.length → ¬ (0 ≤ o ∧ o < p) → o.natAbs < 2 ^ 100 → L2.Same H H' → H' l = some (.lst ((ns.set i o).map V.int)) → Q (.ref l) H') : sp_law_bent_rests K [.ref dr, .ref a, .int p] H Q E := ⟨dr, a, xs, ns, p, rfl, h, hS, hi, hl, hp, k⟩
local macro_rules | `(tactic| walk_at "call1") => `(tactic| ((with_reducible refine' g_law_bent_rests ?e1 ?e2 ?e3 ?e4 ?e5 ?_); (case e1 => walk_at "drw"); (case e2 => walk_at "sq"); (case e3 => walk_at "ints"); (case e4 => first | assumption | exact ⟨Nat.le_of_ble_eq_true rfl, Nat.le_of_ble_eq_true rfl⟩ | (simp; omega)); (case e5 => first | assumption | omega); intro l' i' o' H' n' h' b' c' s' e'))

/-! ### look_prime -/
def sp_look_prime (T : Top K mg) : Sp := fun vs H Q E => ∃ p : Int, vs = [.int p] ∧ (p ∈ primesL → Q .non H) ∧ (p ∉ primesL → Rz E T.x_BadPrime.C "BadPrime" H)
theorem ok_look_prime (T : Top K mg) : FnOk P w K mg base (L2.CX P w) 4 T.look_prime.a T.look_prime.fd ["prime"] (sp_look_prime T) := by
  refine T.look_prime.F.okX sc_look_prime (fun vs H Q E h => ?_) (fun cdv A outer s H vs Q E hr h => ?_)
  · obtain ⟨p, rfl, _⟩ := h
    rfl
  · obtain ⟨p, rfl, q, r⟩ := h
    refine ⟨_, (pss_one (ps_if (pt_cmpR (op_notInQK K rfl) (pv 0) (pe_glob (v := .ref T.a_PRIMES) rfl T.c_PRIMES rfl) (by rfl)) (pss_one (ps_raise rfl (takes_of rfl rfl rfl rfl) (pmk_oex0 T.x_BadPrime.oex T.x_BadPrime.iC T.x_BadPrime.tI (ok_BadPrime_init T) (hr.mono (by decide)) T.x_BadPrime.b .nil passL rfl T.x_BadPrime.gC))) pss_nil)), ?_⟩
    refine g_start (σ := [some (.int p)]) rfl ?_
    have hq := T.q_PRIMES H
    walk_at "py"
    rw [show inV (.int p) [.int 3, .int 5, .int 7, .int 11, .int 13, .int 17, .int 19, .int 23, .int 29, .int 31, .int 37, .int 41, .int 43, .int 47, .int 53, .int 59, .int 61] = decide (p ∈ primesL) from inV_int primesL]
    walk_at "py"
    · refine g_raise0 (W := fun cls d _ H => E cls d H) T.x_BadPrime.oex T.x_BadPrime.no ?_
      exact r ‹_›
    · exact q ‹_›
theorem g_look_prime {T : Top K mg} {H : Hp} {Q : VK} {E : XK} {p : Int} (h : p ∈ primesL) (k : Q .non H) : sp_look_prime T [.int p] H Q E := ⟨p, rfl, fun _ => k, fun z => absurd h z⟩
theorem g_look_primeB {T : Top K mg} {H : Hp} {Q : VK} {E : XK} {p : Int} (h : p ∉ primesL) (k : Rz E T.x_BadPrime.C "BadPrime" H) : sp_look_prime T [.int p] H Q E := ⟨p, rfl, fun z => absurd z h, fun _ => k⟩
local macro_rules | `(tactic| walk_at "call1") => `(tactic| first
  | ((with_reducible refine' g_look_prime ?e1 ?_); (case e1 => assumption))
  | ((with_reducible refine' g_look_primeB ?e1 ?_); (case e1 => assumption)))

/-! ### are_rests -/
def sp_are_rests (K : PySem.W.Frag) : Sp := fun vs H Q _ => ∃ (a : Addr) (xs : List V) (ns : List Int) (p : Int), vs = [.ref a, .int p] ∧ Sq K H a xs ∧ intsOf xs = some ns ∧ xs.length ≤ 100000 ∧ ∀ H', L2.Same H H' → Q (.bl (decide (Rests p ns))) H'
theorem rests_all (p : Int) : ∀ ns : List Int, (ns.map fun n => decide (0 ≤ n ∧ n < p)).all id = decide (Rests p ns)
  | [] => by simp [Rests]
  | n :: ns => by
    rw [List.map_cons, List.all_cons, rests_all p ns]
    simp only [id, Rests, List.forall_mem_cons, Bool.decide_and]
theorem ok_are_rests (T : Top K mg) : FnOk P w K mg base (L2.CX P w) 1 T.are_rests.a T.are_rests.fd ["row", "prime"] (sp_are_rests K) := by
  refine T.are_rests.F.okX sc_are_rests (fun vs H Q E h => ?_) (fun cdv A outer s H vs Q E hr h => ?_)
  · obtain ⟨a, xs, ns, p, rfl, _⟩ := h
    rfl
  · obtain ⟨a, xs, ns, p, rfl, hS, hi, hl, q⟩ := h
    obtain rfl := intsOf_eq hi
    refine ⟨_, (pss_one (ps_ret (pe_callB (cr_allK K rfl rfl) (by rfl) T.z_all (by decide +kernel) (pa_cons (pe_lc (own := [("one", 2)]) rfl sc_are_rests.nd (pi_seqK K rfl (pv 0)) (blkOk_by (own := [("one", 2)]) (N := ["row", "prime", "one"]) (sc := defScope s_are_rests) (by decide +kernel)) (fun _ _ _ _ _ => (pg_name (i := 2) sc_are_rests.nd rfl (Or.inl rfl))) (fun _ _ _ _ _ => pts_nil) (fun _ _ _ _ _ => (pe_hid (pe_chain op_le op_lt pe_int (pv 2) (pv 1))))) pa_nil)))), ?_⟩
    refine g_start (σ := [some (.ref a), some (.int p), none]) rfl ?_
    walk_at "py"
    refine g_rSeq hS fun J G wk hG => ?_
    refine lc_bool (fun x => [some (.ref a), some (.int p), some x]) (ns.map fun n => decide (0 ≤ n ∧ n < p)) wk hG (by simp) hl (fun _ => rfl) (fun _ => rfl) (fun i x b B ex eb sm q' hq => ?_) (fun p' H' n' s' hp => ?_)
    · rw [List.getElem?_map] at ex eb
      obtain ⟨n, hn, rfl⟩ := Option.map_eq_some_iff.mp ex
      rw [hn] at eb
      cases eb
      walk_at "py"
      · have e2 : decide (0 ≤ n ∧ n < p) = decide (n < p) := by simp [*]
        rw [← e2]
        exact hq _ (L2.Same.refl _)
      · have e2 : decide (0 ≤ n ∧ n < p) = false := by simp [*]
        rw [← e2]
        exact hq _ (L2.Same.refl _)
    · walk_at "py"
      refine g_all (SqL.of hp) ?_
      rw [rests_all]
      exact q _ s'
theorem g_are_rests {H : Hp} {Q : VK} {E : XK} {a : Addr} {xs : List V} {ns : List Int} {p : Int} (hS : Sq K H a xs) (hi : intsOf xs = some ns) (hl : xs.length ≤ 100000) (k : ∀ H', L2.Same H H' → Q (.bl (decide (Rests p ns))) H') : sp_are_rests K [.ref a, .int p] H Q E := ⟨a, xs, ns, p, rfl, hS, hi, hl, k⟩
local macro_rules | `(tactic| walk_at "call1") => `(tactic| ((with_reducible refine' g_are_rests ?e1 ?e2 ?e3 ?_); (case e1 => walk_at "sq"); (case e2 => walk_at "ints"); (case e3 => first | assumption | exact Nat.le_of_ble_eq_true rfl | (simp; omega)); intro H' s'))

/-! ### look_place -/
def PlaceOk (p l : Int) (ns : List Int) : Prop := (ns.length : Int) = l ∧ Rests p ns
def sp_look_place (T : Top K mg) : Sp := fun vs H Q E => ∃ (a : Addr) (xs : List V) (ns : List Int) (l p : Int), vs = [.ref a, .int l, .int p] ∧ Sq K H a xs ∧ intsOf xs = some ns ∧ xs.length ≤ 100000 ∧ (PlaceOk p l ns → ∀ H', L2.Same H H' → Q .non H') ∧ (¬ PlaceOk p l ns → Rz E T.x_BadPlace.C "BadPlace" H)
theorem ok_look_place (T : Top K mg) : FnOk P w K mg base (L2.CX P w) 5 T.look_place.a T.look_place.fd ["place", "letters", "prime"] (sp_look_place T) := by
  refine T.look_place.F.okX sc_look_place (fun vs H Q E h => ?_) (fun cdv A outer s H vs Q E hr h => ?_)
  · obtain ⟨a, xs, ns, l, p, rfl, _⟩ := h
    rfl
  · obtain ⟨a, xs, ns, l, p, rfl, hS, hi, hl, q, r⟩ := h
    have el : (xs.length : Int) = ns.length := by
      obtain rfl := intsOf_eq hi
      rw [List.length_map]
    refine ⟨_, (pss_one (ps_if (PW.pt (pw_or (pt_cmpR op_ne (pe_callB (call_lenQK K rfl) (by rfl) T.z_len (by decide +kernel) (pa_cons (pv 0) pa_nil)) (pv 1) (nomark _)) (pw_or1 (pt_not (pt_val (pe_call (ok_are_rests T) (hr.mono (by decide)) rfl T.are_rests.g T.are_rests.F.kp T.are_rests.b .nil (passes_call (takes_of rfl rfl rfl rfl) (fun _ _ _ _ h => h)) (pa_cons (pv 0) (pa_cons (pv 2) pa_nil)))))))) (pss_one (ps_raise rfl (takes_of rfl rfl rfl rfl) (pmk_oex0 T.x_BadPlace.oex T.x_BadPlace.iC T.x_BadPlace.tI (ok_BadPlace_init T) (hr.mono (by decide)) T.x_BadPlace.b .nil passL rfl T.x_BadPlace.gC))) pss_nil)), ?_⟩
    refine g_start (σ := [some (.ref a), some (.int l), some (.int p)]) rfl ?_
    by_cases hk : (xs.length : Int) = l
    · by_cases hn : Rests p ns
      · walk_at "py"
        exact q ⟨by omega, hn⟩ _ (by walk_at "same")
      · walk_at "py"
        exact g_raise0 (W := fun cls d _ H => E cls d H) T.x_BadPlace.oex T.x_BadPlace.no ((r fun z => hn z.2).mono (by walk_at "same"))
    · walk_at "py"
      exact g_raise0 (W := fun cls d _ H => E cls d H) T.x_BadPlace.oex T.x_BadPlace.no ((r fun z => hk (by have := z.1; omega)).mono (by walk_at "same"))
theorem g_look_place {T : Top K mg} {H : Hp} {Q : VK} {E : XK} {a : Addr} {xs : List V} {ns : List Int} {l p : Int} (hS : Sq K H a xs) (hi : intsOf xs = some ns) (hl : xs.length ≤ 100000) (hn : PlaceOk p l ns) (k : ∀ H', L2.Same H H' → Q .non H') : sp_look_place T [.ref a, .int l, .int p] H Q E := ⟨a, xs, ns, l, p, rfl, hS, hi, hl, fun _ => k, fun z => absurd hn z⟩
theorem g_look_placeP {T : Top K mg} {H : Hp} {Q : VK} {E : XK} {a : Addr} {xs : List V} {ns : List Int} {l p : Int} (hS : Sq K H a xs) (hi : intsOf xs = some ns) (hl : xs.length ≤ 100000) (hn : ¬ PlaceOk p l ns) (k : Rz E T.x_BadPlace.C "BadPlace" H) : sp_look_place T [.ref a, .int l, .int p] H Q E := ⟨a, xs, ns, l, p, rfl, hS, hi, hl, fun z => absurd z hn, fun _ => k⟩
local macro_rules | `(tactic| walk_at "call1") => `(tactic| first
  | ((with_reducible refine' g_look_place ?e1 ?e2 ?e3 ?e4 ?_); (case e1 => walk_at "sq"); (case e2 => walk_at "ints"); (case e3 => first | assumption | exact Nat.le_of_ble_eq_true rfl | (simp; omega)); (case e4 => assumption); intro H' s')
  | ((with_reducible refine' g_look_placeP ?e1 ?e2 ?e3 ?e4 ?_); (case e1 => walk_at "sq"); (case e2 => walk_at "ints"); (case e3 => first | assumption | exact Nat.le_of_ble_eq_true rfl | (simp; omega)); (case e4 => assumption)))

/-! ### weights_at -/
def sp_weights_at (K : PySem.W.Frag) : Sp := fun vs H Q _ => ∃ (a : Addr) (xs : List V) (ns : List Int) (p : Int), vs = [.ref a, .int p] ∧ Sq K H a xs ∧ intsOf xs = some ns ∧ ns.length ≤ 12 ∧ (2 ≤ p ∧ p ≤ 1000) ∧ ∀ l H', H l = none → L2.Same H H' → H' l = some (.lst ((wts p ns).map V.int)) → Q (.ref l) H'
theorem ok_weights_at (T : Top K mg) : FnOk P w K mg base (L2.CX P w) 1 T.weights_at.a T.weights_at.fd ["place", "prime"] (sp_weights_at K) := by
  refine T.weights_at.F.okX sc_weights_at (fun vs H Q E h => ?_) (fun cdv A outer s H vs Q E hr h => ?_)
  · obtain ⟨a, xs, ns, p, rfl, _⟩ := h
    rfl
  · obtain ⟨a, xs, ns, p, rfl, hS, hi, hl, hp, q⟩ := h
    obtain rfl := intsOf_eq hi
    refine ⟨_, (pss_cons (ps_set (i := 2) sc_weights_at.nd rfl (Or.inl rfl) (pe_lst (pa_cons pe_int pa_nil)))
    (pss_cons (ps_for (passes_of rfl) rfl (pi_seqK K rfl (pv 0)) (pg_name (i := 3) sc_weights_at.nd rfl (Or.inr rfl)) (pss_one (ps_setLc2 (i := 2) (own := [("one", 4), ("by", 5)]) (vs1 := [5]) rfl sc_weights_at.nd rfl rfl (sw_true rfl rfl rfl (by decide +kernel)) (pi_seqK K rfl (pv 2)) (blkOk_by (own := [("one", 4), ("by", 5)]) (N := ["place", "prime", "found", "at", "one", "by"]) (sc := defScope s_weights_at) (by decide +kernel)) (by decide) (fun _ _ _ _ _ => (pg_name (i := 4) sc_weights_at.nd rfl (Or.inl rfl))) (fun _ _ _ _ _ => pts_nil) (fun _ _ _ _ _ => (pi_seqK K rfl (pe_tup (pa_cons (pe_op op_sub pe_int (pv 3)) (pa_cons (pv 3) pa_nil))))) (fun _ _ _ _ _ => (pg_name (i := 5) sc_weights_at.nd rfl (Or.inl rfl))) (fun _ _ _ _ _ => pts_nil) (fun _ _ _ _ _ => (pe_hid (pe_op op_mod (pe_op op_mul (pv 4) (pv 5)) (pv 1)))))))
    (pss_one (ps_ret (pv 2))))), ?_⟩
    refine g_start (σ := [some (.ref a), some (.int p), none, none, none, none]) rfl ?_
    walk_at "py"
    rename_i l1 H1 n1 s1 e1 _ _
    refine g_rSeq (hS.mono s1) fun J G wk hG => ?_
    refine fl_seq (H0 := H1) (a := a) wk hG (fun i σ H' => ∃ y l, σ = [some (.ref a), some (.int p), some (.ref l), y, none, none] ∧ L2.Same H1 H' ∧ H l = none ∧ H' l = some (.lst ((wts p (ns.take i)).map V.int))) ⟨_, _, rfl, L2.Same.refl _, n1, e1⟩ (fun i σ H' hP o e => by obtain ⟨_, _, _, sm, _⟩ := hP; exact sm _ _ e) (fun i v σ H' hv hP => ?_) (fun σ H' hP => ?_)
    · obtain ⟨y, l, rfl, sm, nl, el⟩ := hP
      rw [List.getElem?_map] at hv
      obtain ⟨x, hx, rfl⟩ := Option.map_eq_some_iff.mp hv
      refine g_sig (σ' := [some (.ref a), some (.int p), some (.ref l), some (.int x), none, none]) rfl ?_
      walk_at "py"
      refine g_rSeq (sqL el) fun J2 G2 wk2 hG2 => ?_
      have h64 : (wts p (ns.take i)).length ≤ 4096 := by
        rw [wts_len]
        exact Nat.le_trans (Nat.pow_le_pow_right (by decide) (show (ns.take i).length ≤ 12 by rw [List.length_take]; omega)) (by decide)
      refine lc2_pair (fun v => [some (.ref a), some (.int p), some (.ref l), some (.int x), some v, none]) (fun v u => [some (.ref a), some (.int p), some (.ref l), some (.int x), some v, some u]) (1 - x) x (fun n y => n * y % p) wk2 hG2 (by omega) (fun _ => rfl) (fun _ => rfl) (fun _ _ => rfl) (fun _ _ => rfl) (fun n hn B q' hq => ?_) (fun n hn B q' hq => ?_) (fun n hn y hy B q' hq => ?_) (fun l2 H2 n2 s2 e2 => ?_)
      · walk_at "py"
        exact hq
      · walk_at "py"
        exact hq
      · have hn2 := wts_rest (p := p) (by omega) _ n hn
        walk_at "py"
        exact hq
      · walk_at "py"
        refine ⟨some (.int x), l2, rfl, by walk_at "same", (s1.trans sm).free n2, ?_⟩
        rw [e2, take_snoc hx]
        unfold wts
        rw [List.foldl_append]
        rfl
    · obtain ⟨y, l, rfl, sm, nl, el⟩ := hP
      rw [List.length_map, List.take_length] at el
      walk_at "py"
      exact q l _ nl (s1.trans sm) el
theorem g_weights_at {H : Hp} {Q : VK} {E : XK} {a : Addr} {xs : List V} {ns : List Int} {p : Int} (hS : Sq K H a xs) (hi : intsOf xs = some ns) (hl : ns.length ≤ 12) (hp : 2 ≤ p ∧ p ≤ 1000) (k : ∀ l H', H l = none → L2.Same H H' → H' l = some (.lst ((wts p ns).map V.int)) → Q (.ref l) H') : sp_weights_at K [.ref a, .int p] H Q E := ⟨a, xs, ns, p, rfl, hS, hi, hl, hp, k⟩
local macro_rules | `(tactic| walk_at "call1") => `(tactic| ((with_reducible refine' g_weights_at ?e1 ?e2 ?e3 ?e4 ?_); (case e1 => walk_at "sq"); (case e2 => walk_at "ints"); (case e3 => first | assumption | exact Nat.le_of_ble_eq_true rfl | omega); (case e4 => first | assumption | omega); intro l' H' n' s' e'))

/-! ### weights -/
def WtsOk (p : Int) (ns : List Int) : Prop := ns.length ≤ 6 ∧ Rests p ns
instance {p : Int} {ns : List Int} : Decidable (WtsOk p ns) := by unfold WtsOk; infer_instance
def sp_weights (T : Top K mg) : Sp := fun vs H Q E => ∃ (a : Addr) (xs : List V) (ns : List Int) (p : Int), vs = [.ref a, .int p] ∧ Sq K H a xs ∧ intsOf xs = some ns ∧ xs.length ≤ 100000 ∧
  (p ∈ primesL → WtsOk p ns → ∀ l H', H l = none → L2.Same H H' → H' l = some (.lst ((wts p ns).map V.int)) → Q (.ref l) H') ∧ (p ∉ primesL → Rz E T.x_BadPrime.C "BadPrime" H) ∧ (p ∈ primesL → ¬ WtsOk p ns → Rz E T.x_BadPlace.C "BadPlace" H)
theorem ok_weights (T : Top K mg) : FnOk P w K mg base (L2.CX P w) 6 T.weights.a T.weights.fd ["place", "prime"] (sp_weights T) := by
  refine T.weights.F.okX sc_weights (fun vs H Q E h => ?_) (fun cdv A outer s H vs Q E hr h => ?_)
  · obtain ⟨a, xs, ns, p, rfl, _⟩ := h
    rfl
  · obtain ⟨a, xs, ns, p, rfl, hS, hi, hl, q, r1, r2⟩ := h
    have el : xs.length = ns.length := by
      obtain rfl := intsOf_eq hi
      rw [List.length_map]
    refine ⟨_, (pss_cons (ps_expr (pe_call (ok_look_prime T) (hr.mono (by decide)) rfl T.look_prime.g T.look_prime.F.kp T.look_prime.b .nil (passes_call (takes_of rfl rfl rfl rfl) (fun _ _ _ _ h => h)) (pa_cons (pv 1) pa_nil)))
    (pss_cons (ps_expr (pe_call (ok_look_place T) (hr.mono (by decide)) rfl T.look_place.g T.look_place.F.kp T.look_place.b .nil (passes_call (takes_of rfl rfl rfl rfl) (fun _ _ _ _ h => h)) (pa_cons (pv 0) (pa_cons (pe_callB (call_minI rfl) (by rfl) T.z_min (by decide +kernel) (pa_cons (pe_callB (call_lenQK K rfl) (by rfl) T.z_len (by decide +kernel) (pa_cons (pv 0) pa_nil)) (pa_cons (pe_globI rfl T.c_MOST_LETTERS) pa_nil))) (pa_cons (pv 1) pa_nil)))))
    (pss_one (ps_ret (pe_call (ok_weights_at T) (hr.mono (by decide)) rfl T.weights_at.g T.weights_at.F.kp T.weights_at.b .nil (passes_call (takes_of rfl rfl rfl rfl) (fun _ _ _ _ h => h)) (pa_cons (pv 0) (pa_cons (pv 1) pa_nil))))))), ?_⟩
    refine g_start (σ := [some (.ref a), some (.int p)]) rfl ?_
    by_cases hp : p ∈ primesL
    · have hp2 := primes_bd hp
      by_cases hk : WtsOk p ns
      · have h6 := hk.1
        have hP : PlaceOk p (if (6 : Int) < xs.length then 6 else xs.length) ns := ⟨by rw [if_neg (by omega)]; omega, hk.2⟩
        walk_at "py"
        rename_i H2 s2 l3 H3 n3 s3 e3
        exact q hp hk l3 H3 (s2.free n3) (s2.trans s3) e3
      · have hP : ¬ PlaceOk p (if (6 : Int) < xs.length then 6 else xs.length) ns := fun z => by
          refine hk ⟨?_, z.2⟩
          have := z.1
          split at this <;> omega
        walk_at "py"
        exact (r2 hp hk).mono (by walk_at "same")
    · walk_at "py"
      exact (r1 hp).mono (by walk_at "same")
theorem g_weights {T : Top K mg} {H : Hp} {Q : VK} {E : XK} {a : Addr} {xs : List V} {ns : List Int} {p : Int} (hS : Sq K H a xs) (hi : intsOf xs = some ns) (hl : xs.length ≤ 100000) (hp : p ∈ primesL) (hk : WtsOk p ns) (k : ∀ l H', H l = none → L2.Same H H' → H' l = some (.lst ((wts p ns).map V.int)) → Q (.ref l) H') : sp_weights T [.ref a, .int p] H Q E := ⟨a, xs, ns, p, rfl, hS, hi, hl, fun _ _ => k, fun z => absurd hp z, fun _ z => absurd hk z⟩
theorem g_weightsP {T : Top K mg} {H : Hp} {Q : VK} {E : XK} {a : Addr} {xs : List V} {ns : List Int} {p : Int} (hS : Sq K H a xs) (hi : intsOf xs = some ns) (hl : xs.length ≤ 100000) (hp : p ∉ primesL) (k : Rz E T.x_BadPrime.C "BadPrime" H) : sp_weights T [.ref a, .int p] H Q E := ⟨a, xs, ns, p, rfl, hS, hi, hl, fun z => absurd z hp, fun _ => k, fun z => absurd z hp⟩
theorem g_weightsB {T : Top K mg} {H : Hp} {Q : VK} {E : XK} {a : Addr} {xs : List V} {ns : List Int} {p : Int} (hS : Sq K H a xs) (hi : intsOf xs = some ns) (hl : xs.length ≤ 100000) (hp : p ∈ primesL) (hk : ¬ WtsOk p ns) (k : Rz E T.x_BadPlace.C "BadPlace" H) : sp_weights T [.ref a, .int p] H Q E := ⟨a, xs, ns, p, rfl, hS, hi, hl, fun _ z => absurd z hk, fun z => absurd hp z, fun _ _ => k⟩
local macro_rules | `(tactic| walk_at "call1") => `(tactic| first
  | ((with_reducible refine' g_weights ?e1 ?e2 ?e3 ?e4 ?e5 ?_); (case e1 => walk_at "sq"); (case e2 => walk_at "ints"); (case e3 => first | assumption | exact Nat.le_of_ble_eq_true rfl | (simp; omega)); (case e4 => first | assumption | decide); (case e5 => first | assumption | decide); intro l' H' n' s' e')
  | ((with_reducible refine' g_weightsP ?e1 ?e2 ?e3 ?e4 ?_); (case e1 => walk_at "sq"); (case e2 => walk_at "ints"); (case e3 => first | assumption | exact Nat.le_of_ble_eq_true rfl | (simp; omega)); (case e4 => first | assumption | decide))
  | ((with_reducible refine' g_weightsB ?e1 ?e2 ?e3 ?e4 ?e5 ?_); (case e1 => walk_at "sq"); (case e2 => walk_at "ints"); (case e3 => first | assumption | exact Nat.le_of_ble_eq_true rfl | (simp; omega)); (case e4 => first | assumption | decide); (case e5 => first | assumption | decide)))

/-! ### _law_tried -/
/-- what a refusal brings to whom tried -/
def TrE (T : Top K mg) (Q : VK) (E : XK) : Prop := ∀ (C dd : Addr) (wd : Str) (H' : Hp), PySem.W.exmOne K (.ref C) (.ref T.x_LookError.C) = some true → XfC K C → PySem.W.findIn K (.ref C) "word" = some none → H' dd = some (.xd [("word", .str wd)]) →
  (∀ p, H' p = none → Q (.ref p) (upd H' p (.tup [.non, .str wd]))) → E (.ref C) (some dd) H'
def TTr (T : Top K mg) : (XK → Hp → VK → Prop) → Hp → VK → Prop := fun tl H Q => ∀ (E : XK) (Q1 : VK), TrE T Q E → (∀ v H', (∀ p, H' p = none → Q (.ref p) (upd H' p (.tup [v, .str ""]))) → Q1 v H') → tl E H Q1
theorem tried_gives (T : Top K mg) {X : Cx} (eK : X.K = K) (eM : X.mg = mg) {q : Str} (cdv : Value) : GivesS X ["_law_ask", "_law_found", "_law_word", "e"] "_law_tried" (defScope s_law_tried) T.law_tried.a cdv (defBody s_law_tried) "_law_ask" q (TTr T) := by
  subst eK
  subst eM
  intro f c' s H Q tl act hc h
  refine ⟨_, pss_cons (ps_set (i := 1) sc_law_tried.nd rfl (.inl rfl) pe_non) (pss_cons (ps_set (i := 2) sc_law_tried.nd rfl (.inl rfl) pe_str) (pss_cons
    (ps_try_asMany (i := 3) (n := "e") rfl rfl sc_law_tried.nd rfl rfl takes0 (fun W pn xe tk _ => pss_one (ps_set (i := 1) sc_law_tried.nd rfl (.inl rfl) (act W pn xe _ _ tk)))
      (HdsAs.cons ⟨rfl, by decide, .inl T.x_LookError.gC⟩ (fun a oe cls d pn hz hf => pss_one (ps_set (i := 2) sc_law_tried.nd rfl (.inl rfl) (pe_xfA hz hf (pv 3))))
        (HdsAs.cons ⟨rfl, by decide, .inl T.x_HallError.gC⟩ (fun a oe cls d pn hz hf => pss_one (ps_set (i := 2) sc_law_tried.nd rfl (.inl rfl) (pe_xfA hz hf (pv 3)))) HdsAs.nil)))
    (pss_one (ps_ret (pe_tup (pa_cons (pv 1) (pa_cons (pv 2) pa_nil))))))), ?_⟩
  refine ⟨rfl, hc, h _ _ (fun C dd wd H' h1 h2 h3 h4 h5 => ?_) (fun v H' h5 => ?_)⟩
  · refine ⟨true, h1, fun _ a na => ⟨.ref a, rfl, rfl, C, rfl, h2, h3, dd, _, .str wd, rfl, h4, rfl, ?_⟩, fun z => nomatch z⟩
    exact ⟨_, rfl, _, rfl, by show 2 ≤ sizeLine; decide, h5⟩
  · exact ⟨_, rfl, _, rfl, by show 2 ≤ sizeLine; decide, h5⟩
/-- the pair that comes of it -/
def TriedOk (Q : VK) (H : Hp) (v : V) (wd : Str) : Prop := ∀ p H2, L2.Same H H2 → H2 p = some (.tup [v, .str wd]) → Q (.ref p) H2
theorem TrE.rz {T : Top K mg} {Q : VK} {E : XK} {C : Addr} {name : Str} {H : Hp} (h : TrE T Q E) (up : PySem.W.exmOne K (.ref C) (.ref T.x_LookError.C) = some true) (xf : XfC K C) (no : PySem.W.findIn K (.ref C) "word" = some none) (q : TriedOk Q H .non name) : Rz E C name H :=
  fun d H' sm _ e => h C d name H' up xf no e fun p np => q p _ (sm.trans (same_new np)) upd_same
theorem g_tried {T : Top K mg} {L : List (Addr × Str)} {t : XK → TE} {σ : L2.St} {H : Hp} {Q : VK} (hT : LamX.Tabs L H) (k : ∀ H1, LamX.ExtN H H1 → LamX.Tabs L H1 → ∀ (E : XK) (Q1 : VK), TrE T Q E → (∀ v H', TriedOk Q H' v "" → Q1 v H') → t E σ H1 Q1) : LamX.tLam L (TTr T) t σ H Q :=
  ⟨hT, fun H1 eN T1 E Q1 h1 h2 => k H1 eN T1 E Q1 h1 fun v H' q => h2 v H' fun p np => q p _ (same_new np) upd_same⟩
theorem g_triedQ {Q Q1 : VK} {H : Hp} {v : V} (h : ∀ v H', TriedOk Q H' v "" → Q1 v H') (q : TriedOk Q H v "") : Q1 v H := h v H q
theorem g_TTr {T : Top K mg} {tl : XK → Hp → VK → Prop} {H : Hp} {Q : VK} (k : ∀ (E : XK) (Q1 : VK), TrE T Q E → (∀ v H', TriedOk Q H' v "" → Q1 v H') → tl E H Q1) : TTr T tl H Q :=
  fun E Q1 h1 h2 => k E Q1 h1 fun v H' q => h2 v H' fun p np => q p _ (same_new np) upd_same
local macro_rules | `(tactic| walk_at "call1") => `(tactic| first
  | (with_reducible refine g_TTr (fun E' Q' h1' h2' => ?_))
  | ((with_reducible refine' g_tried ?e1 ?_); (case e1 => walk_at "tabs"); intro H' n' t' E' Q' h1' h2')
  | ((with_reducible refine' g_triedQ ?e1 ?_); (case e1 => assumption); intro p' H' s' e'))

theorem rz_BadPrime {T : Top K mg} {H : Hp} {Q : VK} {E : XK} (h : TrE T Q E) (q : TriedOk Q H .non "BadPrime") : Rz E T.x_BadPrime.C "BadPrime" H := h.rz T.up_BadPrime T.x_BadPrime.xf T.x_BadPrime.no q
local macro_rules | `(tactic| walk_at "call1") => `(tactic| ((with_reducible refine' rz_BadPrime ?e1 ?_); (case e1 => assumption); intro p' H' s' e'))
theorem rz_BadPlace {T : Top K mg} {H : Hp} {Q : VK} {E : XK} (h : TrE T Q E) (q : TriedOk Q H .non "BadPlace") : Rz E T.x_BadPlace.C "BadPlace" H := h.rz T.up_BadPlace T.x_BadPlace.xf T.x_BadPlace.no q
local macro_rules | `(tactic| walk_at "call1") => `(tactic| ((with_reducible refine' rz_BadPlace ?e1 ?_); (case e1 => assumption); intro p' H' s' e'))
/-! ### corner_of -/
def sp_corner_of (K : PySem.W.Frag) : Sp := fun vs H Q _ => ∃ (n k : Int), vs = [.int n, .int k] ∧ (0 ≤ k ∧ k ≤ 1000) ∧ ∀ l H', L2.Same H H' → SqT K H' l ((bt n k.toNat).map V.int) → Q (.ref l) H'
theorem ok_corner_of (T : Top K mg) : FnOk P w K mg base (L2.CX P w) 1 T.corner_of.a T.corner_of.fd ["number", "letters"] (sp_corner_of K) := by
  refine T.corner_of.F.okX sc_corner_of (fun vs H Q E h => ?_) (fun cdv A outer s H vs Q E hr h => ?_)
  · obtain ⟨n, k, rfl, _⟩ := h
    rfl
  · obtain ⟨n, k, rfl, hk, q⟩ := h
    refine ⟨_, (pss_one (ps_ret (pe_callTy (call_tupQK K rfl) (by rfl) T.z_tuple (by decide +kernel) (pa_cons (pe_lc (own := [("at", 2)]) rfl sc_corner_of.nd (pi_range1 (by rfl) T.z_range (pa_cons (pv 1) pa_nil)) (blkOk_by (own := [("at", 2)]) (N := ["number", "letters", "at"]) (sc := defScope s_corner_of) (by decide +kernel)) (fun _ _ _ _ _ => (pg_name (i := 2) sc_corner_of.nd rfl (Or.inl rfl))) (fun _ _ _ _ _ => pts_nil) (fun _ _ _ _ _ => (pe_hid (pe_op op_and1 (pe_op op_shr (pv 0) (pe_op op_sub (pe_op op_sub (pv 1) pe_int) (pv 2))) pe_int)))) pa_nil)))), ?_⟩
    refine g_start (σ := [some (.int n), some (.int k), none]) rfl ?_
    walk_at "py"
    refine lc_intR (fun x => [some (.int n), some (.int k), some x]) (fun i m => m = n / 2 ^ (k.toNat - 1 - i) % 2) (by omega) (fun _ => rfl) (fun _ => rfl) (fun i B hi sm q' hq => ?_) (fun l H' ns n' s' hl hR e' => ?_)
    · walk_at "py"
      refine hq _ _ (L2.Same.refl _) ?_
      rw [show (k - 1 - (0 + (i : Int))).toNat = k.toNat - 1 - i by omega]
    · obtain rfl := bt_ext hl hR
      walk_at "py"
      rename_i l2 H2 s2 e2
      exact q l2 H2 (s'.trans s2) e2
theorem g_corner_of {H : Hp} {Q : VK} {E : XK} {n k : Int} (hk : 0 ≤ k ∧ k ≤ 1000) (h : ∀ l H', L2.Same H H' → SqT K H' l ((bt n k.toNat).map V.int) → Q (.ref l) H') : sp_corner_of K [.int n, .int k] H Q E := ⟨n, k, rfl, hk, h⟩
local macro_rules | `(tactic| walk_at "call1") => `(tactic| ((with_reducible refine' g_corner_of ?e1 ?_); (case e1 => first | assumption | omega); intro l' H' s' e'))

/-! ### corner -/
def CorOk (n k : Int) : Prop := (0 ≤ k ∧ k ≤ 6) ∧ 0 ≤ n ∧ n < 1 * 2 ^ k.toNat
def sp_corner (T : Top K mg) : Sp := fun vs H Q E => ∃ (n k : Int), vs = [.int n, .int k] ∧ (CorOk n k → ∀ l H', L2.Same H H' → SqT K H' l ((bt n k.toNat).map V.int) → Q (.ref l) H') ∧ (¬ CorOk n k → Rz E T.x_BadPlace.C "BadPlace" H)
theorem ok_corner (T : Top K mg) : FnOk P w K mg base (L2.CX P w) 4 T.corner.a T.corner.fd ["number", "letters"] (sp_corner T) := by
  refine T.corner.F.okX sc_corner (fun vs H Q E h => ?_) (fun cdv A outer s H vs Q E hr h => ?_)
  · obtain ⟨n, k, rfl, _⟩ := h
    rfl
  · obtain ⟨n, k, rfl, q, r⟩ := h
    refine ⟨_, (pss_cons (ps_if (PW.pt (pw_or (pt_not (pt_chain op_le op_le pe_int (pv 1) (pe_globI rfl T.c_MOST_LETTERS))) (pw_or1 (pt_not (pt_chain op_le op_lt pe_int (pv 0) (pe_op op_shl pe_int (pv 1))))))) (pss_one (ps_raise rfl (takes_of rfl rfl rfl rfl) (pmk_oex0 T.x_BadPlace.oex T.x_BadPlace.iC T.x_BadPlace.tI (ok_BadPlace_init T) (hr.mono (by decide)) T.x_BadPlace.b .nil passL rfl T.x_BadPlace.gC))) pss_nil)
    (pss_one (ps_ret (pe_call (ok_corner_of T) (hr.mono (by decide)) rfl T.corner_of.g T.corner_of.F.kp T.corner_of.b .nil (passes_call (takes_of rfl rfl rfl rfl) (fun _ _ _ _ h => h)) (pa_cons (pv 0) (pa_cons (pv 1) pa_nil)))))), ?_⟩
    refine g_start (σ := [some (.int n), some (.int k)]) rfl ?_
    walk_at "py"
    all_goals first
      | exact g_raise0 (W := fun cls d _ H => E cls d H) T.x_BadPlace.oex T.x_BadPlace.no ((r (by rintro ⟨⟨h1, h2⟩, h3, h4⟩; contradiction)).mono (L2.Same.refl _))
      | (rename_i l H' s' e'; exact q ⟨⟨by assumption, by assumption⟩, by assumption, by assumption⟩ _ _ s' e')
theorem g_corner {T : Top K mg} {H : Hp} {Q : VK} {E : XK} {n k : Int} (hk : CorOk n k) (h : ∀ l H', L2.Same H H' → SqT K H' l ((bt n k.toNat).map V.int) → Q (.ref l) H') : sp_corner T [.int n, .int k] H Q E := ⟨n, k, rfl, fun _ => h, fun z => absurd hk z⟩
theorem g_cornerB {T : Top K mg} {H : Hp} {Q : VK} {E : XK} {n k : Int} (hk : ¬ CorOk n k) (h : Rz E T.x_BadPlace.C "BadPlace" H) : sp_corner T [.int n, .int k] H Q E := ⟨n, k, rfl, fun z => absurd z hk, fun _ => h⟩
local macro_rules | `(tactic| walk_at "call1") => `(tactic| first
  | ((with_reducible refine' g_corner ?e1 ?_); (case e1 => first | assumption | exact ⟨by decide, by decide, by decide⟩); intro l' H' s' e')
  | ((with_reducible refine' g_cornerB ?e1 ?_); (case e1 => assumption)))

/-! ### _law_power -/
def sp_law_power : Sp := fun vs H Q _ => ∃ (b n p : Int), vs = [.int b, .int n, .int p] ∧ (2 ≤ p ∧ p ≤ 1000000000) ∧ (0 ≤ b ∧ b < p) ∧ (0 ≤ n ∧ n < 1000000) ∧ Q (.int (b ^ n.toNat % p)) H
theorem ok_law_power (T : Top K mg) : FnOk P w K mg base (L2.CX P w) 1 T.law_power.a T.law_power.fd ["_law_uno", "_law_many", "_law_mod"] sp_law_power := by
  refine T.law_power.F.okX sc_law_power (fun vs H Q E h => ?_) (fun cdv A outer s H vs Q E hr h => ?_)
  · obtain ⟨b, n, p, rfl, _⟩ := h
    rfl
  · obtain ⟨b, n, p, rfl, hp, hb, hn, q⟩ := h
    refine ⟨_, (pss_cons (ps_set (i := 3) sc_law_power.nd rfl (Or.inl rfl) pe_int)
    (pss_cons (ps_for (passes_of rfl) rfl (pi_range1 (by rfl) T.z_range (pa_cons (pv 1) pa_nil)) (pg_name (i := 4) sc_law_power.nd rfl (Or.inl rfl)) (pss_one (ps_set (i := 3) sc_law_power.nd rfl (Or.inl rfl) (pe_op op_mod (pe_op op_mul (pv 3) (pv 0)) (pv 2)))))
    (pss_one (ps_ret (pv 3))))), ?_⟩
    refine g_start (σ := [some (.int b), some (.int n), some (.int p), none, none]) rfl ?_
    walk_at "py"
    refine fl_range (fun i σ H' => ∃ y, σ = [some (.int b), some (.int n), some (.int p), some (.int (b ^ i % p)), y] ∧ H' = H) ⟨_, by rw [Int.pow_zero, Int.emod_eq_of_lt (by omega) (by omega)], rfl⟩ (fun i σ H' hi hP => ?_) (fun σ H' hP => ?_)
    · obtain ⟨y, rfl, rfl⟩ := hP
      have b1 := emod_lt' (a := b ^ i) (p := p) (by omega)
      refine g_sig (σ' := [some (.int b), some (.int n), some (.int p), some (.int (b ^ i % p)), some (.int (0 + i))]) rfl ?_
      walk_at "py"
      refine ⟨some (.int (0 + i)), ?_, rfl⟩
      rw [emod_mul_l, ← Int.pow_succ]
    · obtain ⟨y, rfl, rfl⟩ := hP
      walk_at "py"
      exact q
theorem g_law_power {H : Hp} {Q : VK} {E : XK} {b n p : Int} (hp : 2 ≤ p ∧ p ≤ 1000000000) (hb : 0 ≤ b ∧ b < p) (hn : 0 ≤ n ∧ n < 1000000) (k : Q (.int (b ^ n.toNat % p)) H) : sp_law_power [.int b, .int n, .int p] H Q E := ⟨b, n, p, rfl, hp, hb, hn, k⟩
local macro_rules | `(tactic| walk_at "call1") => `(tactic| ((with_reducible refine' g_law_power ?e1 ?e2 ?e3 ?_); (case e1 => first | assumption | omega); (case e2 => first | assumption | omega); (case e3 => first | assumption | omega)))

/-! ### _law_bits -/
def sp_law_bits (K : PySem.W.Frag) : Sp := fun vs H Q _ => ∃ (n k : Int), vs = [.int n, .int k] ∧ (0 ≤ k ∧ k ≤ 1000) ∧ ∀ l H', L2.Same H H' → SqT K H' l ((bt n k.toNat).map V.int) → Q (.ref l) H'
theorem ok_law_bits (T : Top K mg) : FnOk P w K mg base (L2.CX P w) 1 T.law_bits.a T.law_bits.fd ["_law_number", "_law_letters"] (sp_law_bits K) := by
  refine T.law_bits.F.okX sc_law_bits (fun vs H Q E h => ?_) (fun cdv A outer s H vs Q E hr h => ?_)
  · obtain ⟨n, k, rfl, _⟩ := h
    rfl
  · obtain ⟨n, k, rfl, hk, q⟩ := h
    refine ⟨_, (pss_cons (ps_set (i := 2) sc_law_bits.nd rfl (Or.inl rfl) (pe_lst pa_nil))
    (pss_cons (ps_for (passes_of rfl) rfl (pi_range1 (by rfl) T.z_range (pa_cons (pv 1) pa_nil)) (pg_name (i := 3) sc_law_bits.nd rfl (Or.inl rfl)) (pss_cons (ps_set (i := 2) sc_law_bits.nd rfl (Or.inl rfl) (pe_op op_cat (pe_lst (pa_cons (pe_op op_mod (pv 0) pe_int) pa_nil)) (pv 2)))
    (pss_one (ps_set (i := 0) sc_law_bits.nd rfl (Or.inl rfl) (pe_op op_fdiv (pv 0) pe_int)))))
    (pss_one (ps_ret (pe_callTy (call_tupQK K rfl) (by rfl) T.z_tuple (by decide +kernel) (pa_cons (pv 2) pa_nil)))))), ?_⟩
    refine g_start (σ := [some (.int n), some (.int k), none, none]) rfl ?_
    walk_at "py"
    rename_i l1 H1 n1 s1 e1 _ _
    refine fl_range (fun i σ H' => ∃ y l, σ = [some (.int (n / 2 ^ i)), some (.int k), some (.ref l), y] ∧ L2.Same H H' ∧ H' l = some (.lst ((bt n i).map V.int))) ⟨_, _, by rw [Int.pow_zero, Int.ediv_one], s1, e1⟩ (fun i σ H' hi hP => ?_) (fun σ H' hP => ?_)
    · obtain ⟨y, l, rfl, sm, el⟩ := hP
      have hlen : (bt n i).length = i := bt_len n i
      refine g_sig (σ' := [some (.int (n / 2 ^ i)), some (.int k), some (.ref l), some (.int (0 + i))]) rfl ?_
      walk_at "py"
      rename_i l3 H3 n3 s3 e3
      refine ⟨some (.int (0 + i)), l3, ?_, by walk_at "same", ?_⟩
      · rw [Int.pow_succ, ← Int.ediv_ediv_of_nonneg (two_pow_nn _)]
      · rw [e3, bt_succ]
        rfl
    · obtain ⟨y, l, rfl, sm, el⟩ := hP
      walk_at "py"
      rename_i l2 H2 s2 e2
      exact q l2 H2 (sm.trans s2) e2
theorem g_law_bits {H : Hp} {Q : VK} {E : XK} {n k : Int} (hk : 0 ≤ k ∧ k ≤ 1000) (h : ∀ l H', L2.Same H H' → SqT K H' l ((bt n k.toNat).map V.int) → Q (.ref l) H') : sp_law_bits K [.int n, .int k] H Q E := ⟨n, k, rfl, hk, h⟩
local macro_rules | `(tactic| walk_at "call1") => `(tactic| ((with_reducible refine' g_law_bits ?e1 ?_); (case e1 => first | assumption | omega); intro l' H' s' e'))

/-! ### _law_weights -/
theorem pow2_small {n : Nat} (h : n ≤ 6) : (2 : Int) ^ n % 1000000000 = ((2 ^ n : Nat) : Int) := by
  match n, h with
  | 0, _ => rfl
  | 1, _ => rfl
  | 2, _ => rfl
  | 3, _ => rfl
  | 4, _ => rfl
  | 5, _ => rfl
  | 6, _ => rfl
  | n + 7, h => omega
def sp_law_weights (K : PySem.W.Frag) : Sp := fun vs H Q _ => ∃ (a : Addr) (xs : List V) (ns : List Int) (p : Int), vs = [.ref a, .int p] ∧ Sq K H a xs ∧ intsOf xs = some ns ∧ ns.length ≤ 6 ∧ Rests p ns ∧ (2 ≤ p ∧ p ≤ 1000) ∧ ∀ l H', H l = none → L2.Same H H' → H' l = some (.lst ((wts p ns).map V.int)) → Q (.ref l) H'
theorem ok_law_weights (T : Top K mg) : FnOk P w K mg base (L2.CX P w) 3 T.law_weights.a T.law_weights.fd ["_law_place", "_law_mod"] (sp_law_weights K) := by
  refine T.law_weights.F.okX sc_law_weights (fun vs H Q E h => ?_) (fun cdv A outer s H vs Q E hr h => ?_)
  · obtain ⟨a, xs, ns, p, rfl, _⟩ := h
    rfl
  · obtain ⟨a, xs, ns, p, rfl, hS, hi, hl, hR, hp, q⟩ := h
    obtain rfl := intsOf_eq hi
    have el : (ns.map V.int).length = ns.length := List.length_map ..
    have e64 : (2 : Nat) ^ ns.length ≤ 64 := Nat.le_trans (Nat.pow_le_pow_right (by decide) hl) (by decide)
    have e9 : (2 : Int) ^ ((ns.map V.int).length : Int).toNat % 1000000000 = ((2 ^ ns.length : Nat) : Int) := by
      rw [el, Int.toNat_natCast]
      exact pow2_small hl
    refine ⟨_, (pss_cons (ps_set (i := 2) sc_law_weights.nd rfl (Or.inl rfl) (pe_lst pa_nil))
    (pss_cons (ps_for (passes_of rfl) rfl (pi_range1 (by rfl) T.z_range (pa_cons (pe_call (ok_law_power T) (hr.mono (by decide)) rfl T.law_power.g T.law_power.F.kp T.law_power.b .nil (passes_call (takes_of rfl rfl rfl rfl) (fun _ _ _ _ h => h)) (pa_cons pe_int (pa_cons (pe_callB (call_lenQK K rfl) (by rfl) T.z_len (by decide +kernel) (pa_cons (pv 0) pa_nil)) (pa_cons (pe_powC (n := 1000000000) (by decide) (by decide)) pa_nil)))) pa_nil)) (pg_name (i := 3) sc_law_weights.nd rfl (Or.inl rfl)) (pss_cons (ps_set (i := 4) sc_law_weights.nd rfl (Or.inl rfl) pe_int)
    (pss_cons (ps_for (passes_of rfl) rfl (pi_zipQ K rfl (by rfl) T.z_zip (pa_cons (pe_call (ok_law_bits T) (hr.mono (by decide)) rfl T.law_bits.g T.law_bits.F.kp T.law_bits.b .nil (passes_call (takes_of rfl rfl rfl rfl) (fun _ _ _ _ h => h)) (pa_cons (pv 3) (pa_cons (pe_callB (call_lenQK K rfl) (by rfl) T.z_len (by decide +kernel) (pa_cons (pv 0) pa_nil)) pa_nil))) (pa_cons (pv 0) pa_nil))) (pg_sqsK K rfl rfl (pgs_cons (pg_name (i := 5) sc_law_weights.nd rfl (Or.inl rfl)) (pgs_cons (pg_name (i := 6) sc_law_weights.nd rfl (Or.inl rfl)) pgs_nil))) (pss_one (ps_set (i := 4) sc_law_weights.nd rfl (Or.inl rfl) (pe_op op_mul (pv 4) (pe_ifExp (pt_cmpR op_eq (pv 5) pe_int (nomark _)) (pv 6) (pe_op op_sub pe_int (pv 6)))))))
    (pss_one (ps_expr (pe_bmK K rfl PySem.F.plainAttrs_list PySem.F.slot_list_append PySem.F.type_list_append mt_append (pv 2) (pa_cons (pe_hid (pe_op op_mod (pv 4) (pv 1))) pa_nil)))))))
    (pss_one (ps_ret (pv 2))))), ?_⟩
    refine g_start (σ := [some (.ref a), some (.int p), none, none, none, none, none]) rfl ?_
    walk_at "py"
    rename_i l1 H1 n1 s1 e1 _ _
    rw [e9, Int.toNat_natCast]
    refine fl_range (fun i σ H' => ∃ y1 y2 y3 y4, σ = [some (.ref a), some (.int p), some (.ref l1), y1, y2, y3, y4] ∧ L2.Same H H' ∧ H' l1 = some (.lst (((lawW p ns).take i).map V.int))) ⟨_, _, _, _, rfl, s1, e1⟩ (fun i σ H' hi hP => ?_) (fun σ H' hP => ?_)
    · obtain ⟨y1, y2, y3, y4, rfl, sm, e2⟩ := hP
      have hz : ((lawW p ns).take i).length < 1000 := by rw [List.length_take]; omega
      refine g_sig (σ' := [some (.ref a), some (.int p), some (.ref l1), some (.int (0 + i)), y2, y3, y4]) rfl ?_
      walk_at "py"
      rename_i lb H3 s3 e3
      rw [el, Int.toNat_natCast, Int.zero_add] at e3
      refine g_zipQ (Or.inr e3) (hS.mono (sm.trans s3)) (by rw [List.length_map, List.length_map, bt_len]) fun J G wk hG => ?_
      rw [List.length_map, bt_len] at wk
      refine fl_pair wk (fun j σ H' => ∃ y3 y4, σ = [some (.ref a), some (.int p), some (.ref l1), some (.int (0 + i)), some (.int ((((bt (i : Int) ns.length).zip ns).take j).foldl pwS 1)), y3, y4] ∧ L2.Same H3 H') ⟨_, _, rfl, L2.Same.refl _⟩ (fun j σ H' _ hP => hG _ (by obtain ⟨_, _, _, x⟩ := hP; exact x)) (fun j x y Tt σ Ha Hb hj hx hy hP sT eT => ?_) (fun σ H' hP => ?_)
      · obtain ⟨y3, y4, rfl, sx⟩ := hP
        rw [List.getElem?_map] at hx hy
        obtain ⟨b, hb, rfl⟩ := Option.map_eq_some_iff.mp hx
        obtain ⟨c, hc, rfl⟩ := Option.map_eq_some_iff.mp hy
        have hz2 : ((bt (i : Int) ns.length).zip ns)[j]? = some (b, c) := List.getElem?_zip_eq_some.mpr ⟨hb, hc⟩
        have hc2 := hR c (List.mem_of_getElem? hc)
        walk_at "py"
        · rename_i hb1
          refine ⟨some (.int b), some (.int c), ?_, by walk_at "same"⟩
          rw [take_snoc hz2, List.foldl_append]
          show _ = [_, _, _, _, some (V.int (pwS _ (b, c))), _, _]
          unfold pwS
          rw [if_pos hb1]
        · rename_i hb1
          refine ⟨some (.int b), some (.int c), ?_, by walk_at "same"⟩
          rw [take_snoc hz2, List.foldl_append]
          show _ = [_, _, _, _, some (V.int (pwS _ (b, c))), _, _]
          unfold pwS
          rw [if_neg hb1]
      · obtain ⟨y3, y4, rfl, sx⟩ := hP
        have e5 : H' l1 = some (.lst (((lawW p ns).take i).map V.int)) := sx _ _ (s3 _ _ e2)
        have hi2 : (lawW p ns)[i]? = some (pw (bt (i : Int) ns.length) ns % p) := by
          unfold lawW
          rw [List.getElem?_map, List.getElem?_range hi]
          rfl
        have ez : (((bt (i : Int) ns.length).zip ns).take ns.length).foldl pwS 1 = pw (bt (i : Int) ns.length) ns := by
          unfold pw
          rw [List.take_of_length_le (by rw [List.length_zip, bt_len]; omega)]
        walk_at "py"
        rename_i B6 ys6 s6 d6
        refine app_end d6 s6 (L2.Same.refl _) (.int _) (by rw [List.length_map]; omega) fun H7 w7 => ?_
        have s7 := LcW.same w7
        have e7 := lcw_ints w7
        walk_at "py"
        refine ⟨_, _, _, _, rfl, s7, ?_⟩
        rw [e7, take_snoc hi2, ez]
    · obtain ⟨y1, y2, y3, y4, rfl, sm, e2⟩ := hP
      rw [List.take_of_length_le (by unfold lawW; simp), ← wts_law (by omega)] at e2
      walk_at "py"
      exact q l1 _ n1 sm e2
theorem g_law_weights {H : Hp} {Q : VK} {E : XK} {a : Addr} {xs : List V} {ns : List Int} {p : Int} (hS : Sq K H a xs) (hi : intsOf xs = some ns) (hl : ns.length ≤ 6) (hR : Rests p ns) (hp : 2 ≤ p ∧ p ≤ 1000) (k : ∀ l H', H l = none → L2.Same H H' → H' l = some (.lst ((wts p ns).map V.int)) → Q (.ref l) H') : sp_law_weights K [.ref a, .int p] H Q E := ⟨a, xs, ns, p, rfl, hS, hi, hl, hR, hp, k⟩
local macro_rules | `(tactic| walk_at "call1") => `(tactic| ((with_reducible refine' g_law_weights ?e1 ?e2 ?e3 ?e4 ?e5 ?_); (case e1 => walk_at "sq"); (case e2 => walk_at "ints"); (case e3 => first | assumption | omega); (case e4 => first | assumption | walk_at "rests"); (case e5 => first | assumption | omega); intro l' H' n' s' e'))

/-! ### law -/
def sp_law (K : PySem.W.Frag) (tb : Addr) : Sp := fun vs H Q _ => ∃ (a : Addr) (ns : List Int), vs = [.ref a] ∧ SqL K H a (ns.map V.int) ∧ ns.length ≤ 63 ∧ H tb = some (.tbl #[]) ∧ ∀ H', Q (.bl true) H'
local macro_rules | `(tactic| walk_at "eqd") => `(tactic| first | rfl | assumption)
theorem cor_lt {n k : Int} (h : CorOk n k) : n < 64 ∧ n < 2 ^ k.toNat % 1000000000 := by
  obtain ⟨⟨h1, h2⟩, h3, h4⟩ := h
  have h5 : k.toNat ≤ 6 := by omega
  generalize k.toNat = m at *
  match m, h5 with
  | 0, _ => exact ⟨by omega, by omega⟩
  | 1, _ => exact ⟨by omega, by omega⟩
  | 2, _ => exact ⟨by omega, by omega⟩
  | 3, _ => exact ⟨by omega, by omega⟩
  | 4, _ => exact ⟨by omega, by omega⟩
  | 5, _ => exact ⟨by omega, by omega⟩
  | 6, _ => exact ⟨by omega, by omega⟩
  | m + 7, h => omega
theorem cor_no {n k : Int} (h : ¬ CorOk n k) (hg : (0 ≤ k ∧ k ≤ 6) ∧ 0 ≤ n) : ¬ n < 2 ^ k.toNat % 1000000000 := fun z => h ⟨hg.1, hg.2, by
  have h5 : k.toNat ≤ 6 := by omega
  generalize k.toNat = m at *
  match m, h5 with
  | 0, _ => omega
  | 1, _ => omega
  | 2, _ => omega
  | 3, _ => omega
  | 4, _ => omega
  | 5, _ => omega
  | 6, _ => omega
  | m + 7, h => omega⟩
set_option maxHeartbeats 8000000 in
theorem ok_law (T : Top K mg) (TB : LamX.TabB base mg T.law.c T.law.tb) : FnOk P w K mg base (L2.CX P w) 30 T.law.a T.law.fd ["_law_script"] (sp_law K T.law.tb) := by
  refine T.law.F.okX sc_law (fun vs H Q E h => ?_) (fun A outer s H vs Q E hr h => ?_)
  · obtain ⟨a, ns, rfl, _⟩ := h
    rfl
  · obtain ⟨a, ns, rfl, hS, hl, hT, q⟩ := h
    have T0 : LamX.Tabs [(T.law.tb, lamQ_law)] H := fun p hp => by
      rw [List.mem_singleton.mp hp]
      exact LamX.TabS.nil hT
    refine ⟨_, (pss_cons (ps_set (i := 1) sc_law.nd rfl (Or.inl rfl) (pe_call (ok_law_begin T) (hr.mono (by decide)) rfl T.law_begin.g T.law_begin.F.kp T.law_begin.b .nil (passes_call (takes_of rfl rfl rfl rfl) (fun _ _ _ _ h => h)) (pa_cons (pv 0) pa_nil)))
    (pss_cons (ps_for (passes_of rfl) rfl (pi_range1 (by rfl) T.z_range (pa_cons pe_int pa_nil)) (pg_name (i := 2) sc_law.nd rfl (Or.inl rfl)) (pss_cons (ps_set (i := 3) sc_law.nd rfl (Or.inr rfl) (pe_op op_sub (pe_call (ok_law_pick T) (hr.mono (by decide)) rfl T.law_pick.g T.law_pick.F.kp T.law_pick.b .nil (passes_call (takes_of rfl rfl rfl rfl) (fun _ _ _ _ h => h)) (pa_cons (pv 1) (pa_cons pe_int pa_nil))) pe_int))
    (pss_cons (ps_set (i := 4) sc_law.nd rfl (Or.inr rfl) (pe_call (ok_law_one T) (hr.mono (by decide)) rfl T.law_one.g T.law_one.F.kp T.law_one.b .nil (passes_call (takes_of rfl rfl rfl rfl) (fun _ _ _ _ h => h)) (pa_cons (pv 1) (pa_cons (pe_lst (pa_cons (pe_call (ok_law_pick T) (hr.mono (by decide)) rfl T.law_pick.g T.law_pick.F.kp T.law_pick.b .nil (passes_call (takes_of rfl rfl rfl rfl) (fun _ _ _ _ h => h)) (pa_cons (pv 1) (pa_cons pe_int pa_nil))) (pa_cons (pe_call (ok_law_pick T) (hr.mono (by decide)) rfl T.law_pick.g T.law_pick.F.kp T.law_pick.b .nil (passes_call (takes_of rfl rfl rfl rfl) (fun _ _ _ _ h => h)) (pa_cons (pv 1) (pa_cons pe_int pa_nil))) (pa_cons (pe_un un_neg pe_int) (pa_cons (pe_call (ok_law_far T) (hr.mono (by decide)) rfl T.law_far.g T.law_far.F.kp T.law_far.b .nil (passes_call (takes_of rfl rfl rfl rfl) (fun _ _ _ _ h => h)) (pa_cons (pv 1) pa_nil)) pa_nil))))) pa_nil))))
    (pss_cons (ps_set (i := 5) sc_law.nd rfl (Or.inl rfl) (pe_and (pe_chain op_le op_le pe_int (pv 3) pe_int) (pe_one (pe_chain op_le op_lt pe_int (pv 4) (pe_powC (n := 64) (by decide) (by decide))))))
    (pss_cons (ps_set (i := 6) sc_law.nd rfl (Or.inl rfl) (pe_tup (pa_cons pe_non (pa_cons pe_str pa_nil))))
    (pss_cons (ps_if (PW.pt (pw_and (pt_val (pv 5)) (pw_and1 (pt_cmpR op_lt (pv 4) (pe_call (ok_law_power T) (hr.mono (by decide)) rfl T.law_power.g T.law_power.F.kp T.law_power.b .nil (passes_call (takes_of rfl rfl rfl rfl) (fun _ _ _ _ h => h)) (pa_cons pe_int (pa_cons (pv 3) (pa_cons (pe_powC (n := 1000000000) (by decide) (by decide)) pa_nil)))) (nomark _))))) (pss_one (ps_set (i := 6) sc_law.nd rfl (Or.inl rfl) (pe_tup (pa_cons (pe_call (ok_law_bits T) (hr.mono (by decide)) rfl T.law_bits.g T.law_bits.F.kp T.law_bits.b .nil (passes_call (takes_of rfl rfl rfl rfl) (fun _ _ _ _ h => h)) (pa_cons (pv 4) (pa_cons (pv 3) pa_nil))) (pa_cons pe_str pa_nil))))) pss_nil)
    (pss_cons (ps_if (pt_not (pt_val (pe_call (ok_law_same T) (hr.mono (by decide)) rfl T.law_same.g T.law_same.F.kp T.law_same.b .nil (passes_call (takes_of rfl rfl rfl rfl) (fun _ _ _ _ h => h)) (pa_cons (pe_lamS (T := [(T.law.tb, lamQ_law)]) (k := 20) rfl T.law_tried.g T.law_tried.F T.law_tried.b sc_law_tried rfl (Or.inl rfl) (fun cdv => tried_gives T rfl rfl cdv) TB rfl (List.mem_singleton.mpr rfl) (fun p hp _ => by rw [List.mem_singleton.mp hp] <;> rfl) (hr.mono (by decide)) (LamX.lamS_by (sc := defScope s_law) (by decide +kernel)) rfl (fun _ _ _ _ _ => rfl) (fun E A outer s H f c' hr2 => (pe_call (ok_corner T) (hr2.mono (by decide)) rfl T.corner.g T.corner.F.kp T.corner.b .nil (passes_call (takes_of rfl rfl rfl rfl) (fun _ _ _ _ h => h)) (pa_cons (pv 4) (pa_cons (pv 3) pa_nil))))) (pa_cons (pv 6) pa_nil))))) (pss_one (ps_ret pe_bl)) pss_nil)
    (pss_cons (ps_set (i := 7) sc_law.nd rfl (Or.inr rfl) (pe_call (ok_law_prime T) (hr.mono (by decide)) rfl T.law_prime.g T.law_prime.F.kp T.law_prime.b .nil (passes_call (takes_of rfl rfl rfl rfl) (fun _ _ _ _ h => h)) (pa_cons (pv 1) pa_nil)))
    (pss_cons (ps_set (i := 8) sc_law.nd rfl (Or.inl rfl) (pe_call (ok_law_rests T) (hr.mono (by decide)) rfl T.law_rests.g T.law_rests.F.kp T.law_rests.b .nil (passes_call (takes_of rfl rfl rfl rfl) (fun _ _ _ _ h => h)) (pa_cons (pv 1) (pa_cons (pe_call (ok_law_pick T) (hr.mono (by decide)) rfl T.law_pick.g T.law_pick.F.kp T.law_pick.b .nil (passes_call (takes_of rfl rfl rfl rfl) (fun _ _ _ _ h => h)) (pa_cons (pv 1) (pa_cons pe_int pa_nil))) (pa_cons (pv 7) pa_nil)))))
    (pss_cons (ps_set (i := 9) sc_law.nd rfl (Or.inl rfl) (pe_callTy (call_listQK K rfl) (by rfl) T.z_list (by decide +kernel) (pa_cons (pv 8) pa_nil)))
    (pss_cons (ps_for (passes_of rfl) rfl (pi_range1 (by rfl) T.z_range (pa_cons pe_int pa_nil)) (pg_name (i := 10) sc_law.nd rfl (Or.inl rfl)) (pss_cons (ps_set (i := 11) sc_law.nd rfl (Or.inl rfl) (pe_callN (ok_weights T) (hr.mono (by decide)) rfl T.weights.g T.weights.F.kp T.weights.kb (passes_call (takes_of rfl rfl rfl rfl) (fun _ _ _ _ h => h)) (pa_cons (pv 9) pa_nil) (pk_cons (pv 7) pk_nil)))
    (pss_cons (ps_if (PW.pt (pw_or (pt_not (pt_val (pe_call (ok_law_same T) (hr.mono (by decide)) rfl T.law_same.g T.law_same.F.kp T.law_same.b .nil (passes_call (takes_of rfl rfl rfl rfl) (fun _ _ _ _ h => h)) (pa_cons (pv 11) (pa_cons (pe_call (ok_law_weights T) (hr.mono (by decide)) rfl T.law_weights.g T.law_weights.F.kp T.law_weights.b .nil (passes_call (takes_of rfl rfl rfl rfl) (fun _ _ _ _ h => h)) (pa_cons (pv 8) (pa_cons (pv 7) pa_nil))) pa_nil))))) (pw_or (pt_cmpR op_ne (pe_op op_mod (pe_callB (cr_sumK K rfl rfl) (by rfl) T.z_sum (by decide +kernel) (pa_cons (pv 11) pa_nil)) (pv 7)) pe_int (nomark _)) (pw_or1 (pt_cmpR (op_neDK K rfl hr) (pv 9) (pv 8) (nomark _)))))) (pss_one (ps_ret pe_bl)) pss_nil)
    (pss_one (ps_expr (pe_bm0Q K rfl PySem.F.plainAttrs_list PySem.F.slot_list_clear PySem.F.type_list_clear mt_clear (pv 11)))))))
    (pss_cons (ps_set (i := 12) sc_law.nd rfl (Or.inr rfl) (pe_call (ok_law_bent_rests T) (hr.mono (by decide)) rfl T.law_bent_rests.g T.law_bent_rests.F.kp T.law_bent_rests.b .nil (passes_call (takes_of rfl rfl rfl rfl) (fun _ _ _ _ h => h)) (pa_cons (pv 1) (pa_cons (pe_op op_cat (pv 8) (pe_lst (pa_cons pe_int pa_nil))) (pa_cons (pv 7) pa_nil)))))
    (pss_cons (ps_set (i := 11) sc_law.nd rfl (Or.inl rfl) (pe_lst (pa_cons (pe_lamS (T := [(T.law.tb, lamQ_law)]) (k := 20) rfl T.law_tried.g T.law_tried.F T.law_tried.b sc_law_tried rfl (Or.inl rfl) (fun cdv => tried_gives T rfl rfl cdv) TB rfl (List.mem_singleton.mpr rfl) (fun p hp _ => by rw [List.mem_singleton.mp hp] <;> rfl) (hr.mono (by decide)) (LamX.lamS_by (sc := defScope s_law) (by decide +kernel)) rfl (fun _ _ _ _ _ => rfl) (fun E A outer s H f c' hr2 => (pe_callN (ok_weights T) (hr2.mono (by decide)) rfl T.weights.g T.weights.F.kp T.weights.kb (passes_call (takes_of rfl rfl rfl rfl) (fun _ _ _ _ h => h)) (pa_cons (pv 12) pa_nil) (pk_cons (pv 7) pk_nil)))) (pa_cons (pe_lamD (T := [(T.law.tb, lamQ_law)]) (k := 20) (b1 := "_law_a") (d := 0) rfl T.law_tried.g T.law_tried.F T.law_tried.b sc_law_tried rfl (Or.inl rfl) (fun cdv => tried_gives T rfl rfl cdv) TB rfl (List.mem_singleton.mpr rfl) (fun p hp _ => by rw [List.mem_singleton.mp hp] <;> rfl) (hr.mono (by decide)) (lamD_by (N := ["_law_script", "_law_draw", "_law_turn", "_law_letters", "_law_number", "_law_good", "_law_want", "_law_mod", "_law_place", "_law_handed", "_law_again", "_law_found", "_law_bad"]) (sc := defScope s_law) (by decide +kernel)) rfl rfl rfl (fun _ _ _ _ _ _ _ => ⟨_, rfl, fun _ => rfl⟩) (fun E A outer s H f c' hr2 => (pe_callN (ok_weights T) (hr2.mono (by decide)) rfl T.weights.g T.weights.F.kp T.weights.kb (passes_call (takes_of rfl rfl rfl rfl) (fun _ _ _ _ h => h)) (pa_cons (pv 12) pa_nil) (pk_cons pe_int pk_nil)))) pa_nil))))
    (pss_cons (ps_expr (pe_bmK K rfl PySem.F.plainAttrs_list PySem.F.slot_list_append PySem.F.type_list_append mt_append (pv 11) (pa_cons (pe_hid (pe_lamS (T := [(T.law.tb, lamQ_law)]) (k := 20) rfl T.law_tried.g T.law_tried.F T.law_tried.b sc_law_tried rfl (Or.inl rfl) (fun cdv => tried_gives T rfl rfl cdv) TB rfl (List.mem_singleton.mpr rfl) (fun p hp _ => by rw [List.mem_singleton.mp hp] <;> rfl) (hr.mono (by decide)) (LamX.lamS_by (sc := defScope s_law) (by decide +kernel)) rfl (fun _ _ _ _ _ => rfl) (fun E A outer s H f c' hr2 => (pe_callN (ok_weights T) (hr2.mono (by decide)) rfl T.weights.g T.weights.F.kp T.weights.kb (passes_call (takes_of rfl rfl rfl rfl) (fun _ _ _ _ h => h)) (pa_cons (pe_op op_rep (pe_lst (pa_cons pe_int pa_nil)) pe_int) pa_nil) (pk_cons (pv 7) pk_nil))))) pa_nil)))
    (pss_one (ps_if (pt_not (pt_val (pe_call (ok_law_same T) (hr.mono (by decide)) rfl T.law_same.g T.law_same.F.kp T.law_same.b .nil (passes_call (takes_of rfl rfl rfl rfl) (fun _ _ _ _ h => h)) (pa_cons (pv 11) (pa_cons (pe_lst (pa_cons (pe_tup (pa_cons pe_non (pa_cons pe_str pa_nil))) (pa_cons (pe_tup (pa_cons pe_non (pa_cons pe_str pa_nil))) (pa_cons (pe_tup (pa_cons pe_non (pa_cons pe_str pa_nil))) pa_nil)))) pa_nil))))) (pss_one (ps_ret pe_bl)) pss_nil))))))))))))))))
    (pss_one (ps_ret (pe_call (ok_law_same T) (hr.mono (by decide)) rfl T.law_same.g T.law_same.F.kp T.law_same.b .nil (passes_call (takes_of rfl rfl rfl rfl) (fun _ _ _ _ h => h)) (pa_cons (pe_lst (pa_cons (pe_call (ok_weights T) (hr.mono (by decide)) rfl T.weights.g T.weights.F.kp T.weights.bd T.weights.bv (passes_call (takes_of rfl rfl rfl rfl) (fun _ _ _ _ h => h)) (pa_cons (pe_lst pa_nil) pa_nil)) (pa_cons (pe_call (ok_weights T) (hr.mono (by decide)) rfl T.weights.g T.weights.F.kp T.weights.bd T.weights.bv (passes_call (takes_of rfl rfl rfl rfl) (fun _ _ _ _ h => h)) (pa_cons (pe_tup (pa_cons pe_int pa_nil)) pa_nil)) (pa_cons (pe_call (ok_corner T) (hr.mono (by decide)) rfl T.corner.g T.corner.F.kp T.corner.b .nil (passes_call (takes_of rfl rfl rfl rfl) (fun _ _ _ _ h => h)) (pa_cons pe_int (pa_cons pe_int pa_nil))) pa_nil)))) (pa_cons (pe_lst (pa_cons (pe_lst (pa_cons pe_int pa_nil)) (pa_cons (pe_lst (pa_cons pe_int (pa_cons pe_int pa_nil))) (pa_cons (pe_tup (pa_cons pe_int (pa_cons pe_int (pa_cons pe_int pa_nil)))) pa_nil)))) pa_nil))))))), ?_⟩
    refine g_start (σ := [some (.ref a), none, none, none, none, none, none, none, none, none, none, none, none]) rfl ?_
    walk_at "py"
    rename_i dr H1 s1 d1 _ _
    refine fl_range (fun i σ H' => ∃ x2 x3 x4 x5 x6 x7 x8 x9 x10 x11 x12, σ = [some (.ref a), some (.ref dr), x2, x3, x4, x5, x6, x7, x8, x9, x10, x11, x12] ∧ Drw H' dr ∧ LamX.Tabs [(T.law.tb, lamQ_law)] H') ⟨_, _, _, _, _, _, _, _, _, _, _, rfl, d1, by walk_at "tabs"⟩ (fun i σ H' hi hP => ?_) (fun σ H' hP => ?_)
    · obtain ⟨x2, x3, x4, x5, x6, x7, x8, x9, x10, x11, x12, rfl, d2, t2⟩ := hP
      refine g_sig (σ' := [some (.ref a), some (.ref dr), some (.int (0 + i)), x3, x4, x5, x6, x7, x8, x9, x10, x11, x12]) rfl ?_
      walk_at "st"
      rename_i _ _ r H2 r0 r1 s2
      walk_at "st"
      rename_i n Hn hn sn
      refine g_cut4 fun N hN => ?_
      have key : ∀ (gd wv : Option V) (Hc : Hp), Drw Hc dr → LamX.Tabs [(T.law.tb, lamQ_law)] Hc → N [some (.ref a), some (.ref dr), some (.int (0 + i)), some (.int (r - 1)), some (.int n), gd, wv, x7, x8, x9, x10, x11, x12] Hc := by
        intro gd wv Hc dc tc
        refine hN _ _ ?_
        walk_at "py"
        rename_i p H2 hp s2 hp2 _ _ r7 H3 r70 r71 s3 pl rs H4 n4 hl4 hR4 s4 e4 _ _ hd H5 n5 s5 e5 _ _
        have hrl : rs.length ≤ 6 := by omega
        have hW : WtsOk p rs := ⟨hrl, hR4⟩
        have hwl : (wts p rs).length ≤ 100000 := by
          rw [wts_len]
          exact Nat.le_trans (Nat.pow_le_pow_right (by decide) hrl) (by decide)
        have hsum := wts_sum (p := p) (by omega) rs
        refine fl_range (fun j σ H' => ∃ y10 y11, σ = [some (.ref a), some (.ref dr), some (.int (0 + i)), some (.int (r - 1)), some (.int n), gd, wv, some (.int p), some (.ref pl), some (.ref hd), y10, y11, x12] ∧ L2.Same H5 H') ⟨_, _, rfl, L2.Same.refl _⟩ (fun j σ H' hj hP => ?_) (fun σ H' hP => ?_)
        · obtain ⟨y10, y11, rfl, sm⟩ := hP
          refine g_sig (σ' := [some (.ref a), some (.ref dr), some (.int (0 + i)), some (.int (r - 1)), some (.int n), gd, wv, some (.int p), some (.ref pl), some (.ref hd), some (.int (0 + j)), y11, x12]) rfl ?_
          walk_at "py"
          rename_i l8 H8 n8 s8 e8 _ _ l9 H9 n9 s9 e9 H10 s10
          refine g_clear (l := l8) (by walk_at "hp") ?_
          walk_at "py"
          exact ⟨_, _, rfl, same_mut (by walk_at "same") (sm.free n8)⟩
        · obtain ⟨y10, y11, rfl, sm⟩ := hP
          walk_at "py"
          rename_i l10 H10 n10 s10 e10 l11 H11 n11 s11 e11
          replace e11 : H11 l11 = some (.lst ((rs ++ [1]).map V.int)) := by
            rw [e11]
            simp
          walk_at "py"
          rename_i l12 i12 o12 H12 n12 h12 b12 c12 s12 e12 _ _ H13 x13 t13 E13 Q13 q13 q14
          have hB : ¬ WtsOk p ((rs ++ [1]).set i12 o12) := fun z => b12 (z.2 o12 (List.mem_of_getElem? (List.getElem?_set_self h12)))
          have h7 : ¬ WtsOk p [0, 0, 0, 0, 0, 0, 0] := fun z => absurd z.1 (by decide)
          have h100 : ((rs ++ [1]).set i12 o12).length ≤ 100 := by
            rw [List.length_set, List.length_append]
            show rs.length + 1 ≤ 100
            omega
          walk_at "py"
          exact ⟨_, _, _, _, _, _, _, _, _, _, _, rfl, by walk_at "drw", by walk_at "tabs"⟩
      clear hN
      by_cases hcor : CorOk n (r - 1)
      · obtain ⟨⟨k0, k6⟩, n0, nk⟩ := id hcor
        obtain ⟨h64, hpw⟩ := cor_lt hcor
        have hbl : (bt n (r - 1).toNat).length ≤ 100000 := by
          rw [bt_len]
          omega
        walk_at "py"
        exact key _ _ _ (by walk_at "drw") (by walk_at "tabs")
      · by_cases hg : (0 ≤ r - 1 ∧ r - 1 ≤ 6) ∧ 0 ≤ n
        · have hno := cor_no hcor hg
          walk_at "py"
          all_goals exact key _ _ _ (by walk_at "drw") (by walk_at "tabs")
        · walk_at "py"
          all_goals exact key _ _ _ (by walk_at "drw") (by walk_at "tabs")
    · obtain ⟨x2, x3, x4, x5, x6, x7, x8, x9, x10, x11, x12, rfl, d2, t2⟩ := hP
      walk_at "py"
      exact q _

end
theorem all_mk {l : PySem.W.OpenLaw} {w : World} {K : PySem.W.Frag} {h : Heap} {mg : Str → Option Value} {fa : Addr} (X : K.In h) (G : h.Ns mainGlobals mg) (hfa : mg "law" = some (.ref fa))
    {q : Program} {dr : DefRec} (tabs : ∀ (y : Str) (c P : Addr) (dr : DefRec), (recsOf q).find? (fun e => e.name == y) = some dr → PySem.W.tabIn K y = some (c, P) → PySem.W.CodeHd h c P ∧ h.get? P = some { cls := .none, data := .fields #[] })
    (hrec : (recsOf q).find? (fun e => e.name == ("law" : Str)) = some dr)
    {f0 : Addr} {od0 an0 : Option Addr} {sl0 : Array (Option Value)} {oc0 dc0 pm0 ct0 : Value} {cd0 : Value} {kV0 : Value}
    (a0 : PySem.W.nsIn K mainGlobals "_law_begin" = some (some (.ref f0))) (l0 : K.lookup f0 = some ⟨oc0, od0, .func (PySem.W.fnOf "_law_begin" "_law_begin" (defArgs s_law_begin) (defBody s_law_begin) (defScope s_law_begin) .none kV0 dc0 pm0 an0 cd0 ct0), sl0⟩) (c0 : PySem.W.codeIn K cd0 "_law_begin" = true) (k0 : PySem.W.keepIn K (.ref f0) = true)
    {f1 : Addr} {od1 an1 : Option Addr} {sl1 : Array (Option Value)} {oc1 dc1 pm1 ct1 : Value} {cd1 : Value} {kV1 : Value}
    (a1 : PySem.W.nsIn K mainGlobals "_law_same" = some (some (.ref f1))) (l1 : K.lookup f1 = some ⟨oc1, od1, .func (PySem.W.fnOf "_law_same" "_law_same" (defArgs s_law_same) (defBody s_law_same) (defScope s_law_same) .none kV1 dc1 pm1 an1 cd1 ct1), sl1⟩) (c1 : PySem.W.codeIn K cd1 "_law_same" = true) (k1 : PySem.W.keepIn K (.ref f1) = true)
    {f2 : Addr} {od2 an2 : Option Addr} {sl2 : Array (Option Value)} {oc2 dc2 pm2 ct2 : Value} {cd2 : Value} {kV2 : Value}
    (a2 : PySem.W.nsIn K mainGlobals "_law_pick" = some (some (.ref f2))) (l2 : K.lookup f2 = some ⟨oc2, od2, .func (PySem.W.fnOf "_law_pick" "_law_pick" (defArgs s_law_pick) (defBody s_law_pick) (defScope s_law_pick) .none kV2 dc2 pm2 an2 cd2 ct2), sl2⟩) (c2 : PySem.W.codeIn K cd2 "_law_pick" = true) (k2 : PySem.W.keepIn K (.ref f2) = true)
    {f3 : Addr} {od3 an3 : Option Addr} {sl3 : Array (Option Value)} {oc3 dc3 pm3 ct3 : Value} {cd3 : Value} {kV3 : Value}
    (a3 : PySem.W.nsIn K mainGlobals "_law_one" = some (some (.ref f3))) (l3 : K.lookup f3 = some ⟨oc3, od3, .func (PySem.W.fnOf "_law_one" "_law_one" (defArgs s_law_one) (defBody s_law_one) (defScope s_law_one) .none kV3 dc3 pm3 an3 cd3 ct3), sl3⟩) (c3 : PySem.W.codeIn K cd3 "_law_one" = true) (k3 : PySem.W.keepIn K (.ref f3) = true)
    {f4 : Addr} {od4 an4 : Option Addr} {sl4 : Array (Option Value)} {oc4 dc4 pm4 ct4 : Value} {cd4 : Value} {kV4 : Value}
    (a4 : PySem.W.nsIn K mainGlobals "_law_primes" = some (some (.ref f4))) (l4 : K.lookup f4 = some ⟨oc4, od4, .func (PySem.W.fnOf "_law_primes" "_law_primes" (defArgs s_law_primes) (defBody s_law_primes) (defScope s_law_primes) .none kV4 dc4 pm4 an4 cd4 ct4), sl4⟩) (c4 : PySem.W.codeIn K cd4 "_law_primes" = true) (k4 : PySem.W.keepIn K (.ref f4) = true)
    {f5 : Addr} {od5 an5 : Option Addr} {sl5 : Array (Option Value)} {oc5 dc5 pm5 ct5 : Value} {cd5 : Value} {kV5 : Value}
    (a5 : PySem.W.nsIn K mainGlobals "_law_prime" = some (some (.ref f5))) (l5 : K.lookup f5 = some ⟨oc5, od5, .func (PySem.W.fnOf "_law_prime" "_law_prime" (defArgs s_law_prime) (defBody s_law_prime) (defScope s_law_prime) .none kV5 dc5 pm5 an5 cd5 ct5), sl5⟩) (c5 : PySem.W.codeIn K cd5 "_law_prime" = true) (k5 : PySem.W.keepIn K (.ref f5) = true)
    {f6 : Addr} {od6 an6 : Option Addr} {sl6 : Array (Option Value)} {oc6 dc6 pm6 ct6 : Value} {cd6 : Value} {kV6 : Value}
    (a6 : PySem.W.nsIn K mainGlobals "_law_rests" = some (some (.ref f6))) (l6 : K.lookup f6 = some ⟨oc6, od6, .func (PySem.W.fnOf "_law_rests" "_law_rests" (defArgs s_law_rests) (defBody s_law_rests) (defScope s_law_rests) .none kV6 dc6 pm6 an6 cd6 ct6), sl6⟩) (c6 : PySem.W.codeIn K cd6 "_law_rests" = true) (k6 : PySem.W.keepIn K (.ref f6) = true)
    {f7 : Addr} {od7 an7 : Option Addr} {sl7 : Array (Option Value)} {oc7 dc7 pm7 ct7 : Value} {cd7 : Value} {kV7 : Value}
    (a7 : PySem.W.nsIn K mainGlobals "_law_far" = some (some (.ref f7))) (l7 : K.lookup f7 = some ⟨oc7, od7, .func (PySem.W.fnOf "_law_far" "_law_far" (defArgs s_law_far) (defBody s_law_far) (defScope s_law_far) .none kV7 dc7 pm7 an7 cd7 ct7), sl7⟩) (c7 : PySem.W.codeIn K cd7 "_law_far" = true) (k7 : PySem.W.keepIn K (.ref f7) = true)
    {f8 : Addr} {od8 an8 : Option Addr} {sl8 : Array (Option Value)} {oc8 dc8 pm8 ct8 : Value} {cd8 : Value} {kV8 : Value}
    (a8 : PySem.W.nsIn K mainGlobals "_law_bent_rests" = some (some (.ref f8))) (l8 : K.lookup f8 = some ⟨oc8, od8, .func (PySem.W.fnOf "_law_bent_rests" "_law_bent_rests" (defArgs s_law_bent_rests) (defBody s_law_bent_rests) (defScope s_law_bent_rests) .none kV8 dc8 pm8 an8 cd8 ct8), sl8⟩) (c8 : PySem.W.codeIn K cd8 "_law_bent_rests" = true) (k8 : PySem.W.keepIn K (.ref f8) = true)
    {f9 : Addr} {od9 an9 : Option Addr} {sl9 : Array (Option Value)} {oc9 dc9 pm9 ct9 : Value} {cd9 : Value} {kV9 : Value}
    (a9 : PySem.W.nsIn K mainGlobals "look_prime" = some (some (.ref f9))) (l9 : K.lookup f9 = some ⟨oc9, od9, .func (PySem.W.fnOf "look_prime" "look_prime" (defArgs s_look_prime) (defBody s_look_prime) (defScope s_look_prime) .none kV9 dc9 pm9 an9 cd9 ct9), sl9⟩) (c9 : PySem.W.codeIn K cd9 "look_prime" = true) (k9 : PySem.W.keepIn K (.ref f9) = true)
    {f10 : Addr} {od10 an10 : Option Addr} {sl10 : Array (Option Value)} {oc10 dc10 pm10 ct10 : Value} {cd10 : Value} {kV10 : Value}
    (a10 : PySem.W.nsIn K mainGlobals "are_rests" = some (some (.ref f10))) (l10 : K.lookup f10 = some ⟨oc10, od10, .func (PySem.W.fnOf "are_rests" "are_rests" (defArgs s_are_rests) (defBody s_are_rests) (defScope s_are_rests) .none kV10 dc10 pm10 an10 cd10 ct10), sl10⟩) (c10 : PySem.W.codeIn K cd10 "are_rests" = true) (k10 : PySem.W.keepIn K (.ref f10) = true)
    {f11 : Addr} {od11 an11 : Option Addr} {sl11 : Array (Option Value)} {oc11 dc11 pm11 ct11 : Value} {cd11 : Value} {kV11 : Value}
    (a11 : PySem.W.nsIn K mainGlobals "look_place" = some (some (.ref f11))) (l11 : K.lookup f11 = some ⟨oc11, od11, .func (PySem.W.fnOf "look_place" "look_place" (defArgs s_look_place) (defBody s_look_place) (defScope s_look_place) .none kV11 dc11 pm11 an11 cd11 ct11), sl11⟩) (c11 : PySem.W.codeIn K cd11 "look_place" = true) (k11 : PySem.W.keepIn K (.ref f11) = true)
    {f12 : Addr} {od12 an12 : Option Addr} {sl12 : Array (Option Value)} {oc12 dc12 pm12 ct12 : Value} {cd12 : Value} {kV12 : Value}
    (a12 : PySem.W.nsIn K mainGlobals "weights_at" = some (some (.ref f12))) (l12 : K.lookup f12 = some ⟨oc12, od12, .func (PySem.W.fnOf "weights_at" "weights_at" (defArgs s_weights_at) (defBody s_weights_at) (defScope s_weights_at) .none kV12 dc12 pm12 an12 cd12 ct12), sl12⟩) (c12 : PySem.W.codeIn K cd12 "weights_at" = true) (k12 : PySem.W.keepIn K (.ref f12) = true)
    {f13 : Addr} {od13 an13 : Option Addr} {sl13 : Array (Option Value)} {oc13 dc13 pm13 ct13 : Value} {cd13 : Value} {D13 : Addr}
    (a13 : PySem.W.nsIn K mainGlobals "weights" = some (some (.ref f13))) (l13 : K.lookup f13 = some ⟨oc13, od13, .func (PySem.W.fnOf "weights" "weights" (defArgs s_weights) (defBody s_weights) (defScope s_weights) .none (.ref D13) dc13 pm13 an13 cd13 ct13), sl13⟩) (c13 : PySem.W.codeIn K cd13 "weights" = true) (k13 : PySem.W.keepIn K (.ref f13) = true)
    {kt13_0 : Tok} (kd13_0 : PySem.W.nsIn K D13 "prime" = some (some (.int 31 kt13_0)))
    {f14 : Addr} {od14 an14 : Option Addr} {sl14 : Array (Option Value)} {oc14 dc14 pm14 ct14 : Value} {cd14 : Value} {kV14 : Value}
    (a14 : PySem.W.nsIn K mainGlobals "_law_tried" = some (some (.ref f14))) (l14 : K.lookup f14 = some ⟨oc14, od14, .func (PySem.W.fnOf "_law_tried" "_law_tried" (defArgs s_law_tried) (defBody s_law_tried) (defScope s_law_tried) .none kV14 dc14 pm14 an14 cd14 ct14), sl14⟩) (c14 : PySem.W.codeIn K cd14 "_law_tried" = true) (k14 : PySem.W.keepIn K (.ref f14) = true)
    {f15 : Addr} {od15 an15 : Option Addr} {sl15 : Array (Option Value)} {oc15 dc15 pm15 ct15 : Value} {cd15 : Value} {kV15 : Value}
    (a15 : PySem.W.nsIn K mainGlobals "corner_of" = some (some (.ref f15))) (l15 : K.lookup f15 = some ⟨oc15, od15, .func (PySem.W.fnOf "corner_of" "corner_of" (defArgs s_corner_of) (defBody s_corner_of) (defScope s_corner_of) .none kV15 dc15 pm15 an15 cd15 ct15), sl15⟩) (c15 : PySem.W.codeIn K cd15 "corner_of" = true) (k15 : PySem.W.keepIn K (.ref f15) = true)
    {f16 : Addr} {od16 an16 : Option Addr} {sl16 : Array (Option Value)} {oc16 dc16 pm16 ct16 : Value} {cd16 : Value} {kV16 : Value}
    (a16 : PySem.W.nsIn K mainGlobals "corner" = some (some (.ref f16))) (l16 : K.lookup f16 = some ⟨oc16, od16, .func (PySem.W.fnOf "corner" "corner" (defArgs s_corner) (defBody s_corner) (defScope s_corner) .none kV16 dc16 pm16 an16 cd16 ct16), sl16⟩) (c16 : PySem.W.codeIn K cd16 "corner" = true) (k16 : PySem.W.keepIn K (.ref f16) = true)
    {f17 : Addr} {od17 an17 : Option Addr} {sl17 : Array (Option Value)} {oc17 dc17 pm17 ct17 : Value} {cd17 : Value} {kV17 : Value}
    (a17 : PySem.W.nsIn K mainGlobals "_law_power" = some (some (.ref f17))) (l17 : K.lookup f17 = some ⟨oc17, od17, .func (PySem.W.fnOf "_law_power" "_law_power" (defArgs s_law_power) (defBody s_law_power) (defScope s_law_power) .none kV17 dc17 pm17 an17 cd17 ct17), sl17⟩) (c17 : PySem.W.codeIn K cd17 "_law_power" = true) (k17 : PySem.W.keepIn K (.ref f17) = true)
    {f18 : Addr} {od18 an18 : Option Addr} {sl18 : Array (Option Value)} {oc18 dc18 pm18 ct18 : Value} {cd18 : Value} {kV18 : Value}
    (a18 : PySem.W.nsIn K mainGlobals "_law_bits" = some (some (.ref f18))) (l18 : K.lookup f18 = some ⟨oc18, od18, .func (PySem.W.fnOf "_law_bits" "_law_bits" (defArgs s_law_bits) (defBody s_law_bits) (defScope s_law_bits) .none kV18 dc18 pm18 an18 cd18 ct18), sl18⟩) (c18 : PySem.W.codeIn K cd18 "_law_bits" = true) (k18 : PySem.W.keepIn K (.ref f18) = true)
    {f19 : Addr} {od19 an19 : Option Addr} {sl19 : Array (Option Value)} {oc19 dc19 pm19 ct19 : Value} {cd19 : Value} {kV19 : Value}
    (a19 : PySem.W.nsIn K mainGlobals "_law_weights" = some (some (.ref f19))) (l19 : K.lookup f19 = some ⟨oc19, od19, .func (PySem.W.fnOf "_law_weights" "_law_weights" (defArgs s_law_weights) (defBody s_law_weights) (defScope s_law_weights) .none kV19 dc19 pm19 an19 cd19 ct19), sl19⟩) (c19 : PySem.W.codeIn K cd19 "_law_weights" = true) (k19 : PySem.W.keepIn K (.ref f19) = true)
    {f20 : Addr} {od20 an20 : Option Addr} {sl20 : Array (Option Value)} {oc20 dc20 pm20 ct20 : Value} {cc20 P20 : Addr} {kV20 : Value}
    (a20 : PySem.W.nsIn K mainGlobals "law" = some (some (.ref f20))) (l20 : K.lookup f20 = some ⟨oc20, od20, .func (PySem.W.fnOf "law" "law" (defArgs s_law) (defBody s_law) (defScope s_law) .none kV20 dc20 pm20 an20 (.ref cc20) ct20), sl20⟩) (c20 : PySem.W.codeIn K (.ref cc20) "law" = true) (k20 : PySem.W.keepIn K (.ref f20) = true)
    {to20 : Obj} {tv20 : Array Value} (tl20 : K.lookup cc20 = some to20) (tf20 : to20.data = .fields tv20) (tp20 : tv20[11]? = some (.ref P20)) (t20 : PySem.W.tabIn K "law" = some (cc20, P20)) (u20 : K.lookup P20 = none)
    (z0 : PySem.W.nsIn K mainGlobals "all" = some none)
    (z1 : PySem.W.nsIn K mainGlobals "len" = some none)
    (z2 : PySem.W.nsIn K mainGlobals "tuple" = some none)
    (z3 : PySem.W.nsIn K mainGlobals "range" = some none)
    (z4 : PySem.W.nsIn K mainGlobals "min" = some none)
    (z5 : PySem.W.nsIn K mainGlobals "list" = some none)
    (z6 : PySem.W.nsIn K mainGlobals "isinstance" = some none)
    (z7 : PySem.W.nsIn K mainGlobals "bool" = some none)
    (z8 : PySem.W.nsIn K mainGlobals "int" = some none)
    (z9 : PySem.W.nsIn K mainGlobals "str" = some none)
    (z10 : PySem.W.nsIn K mainGlobals "zip" = some none)
    (z11 : PySem.W.nsIn K mainGlobals "sum" = some none)
    {g0 : Addr} {ob0 : Obj} {it0 : Array Value} {nn0 : Nat} (y0 : PySem.W.nsIn K mainGlobals "PRIMES" = some (some (.ref g0))) (yl0 : K.lookup g0 = some ob0) (yc0 : ob0.cls = .type "tuple") (yd0 : ob0.data = .seq it0 nn0) (yv0 : absL it0.toList = some [.int 3, .int 5, .int 7, .int 11, .int 13, .int 17, .int 19, .int 23, .int 29, .int 31, .int 37, .int 41, .int 43, .int 47, .int 53, .int 59, .int 61])
    {tk1 : Tok} (y1 : PySem.W.nsIn K mainGlobals "PRIME" = some (some (.int 31 tk1)))
    {tk2 : Tok} (y2 : PySem.W.nsIn K mainGlobals "MOST_LETTERS" = some (some (.int 6 tk2)))
    {C0 g_0 : Addr} {xo0 xa0 : Option Addr} {xs0 : Array (Option Value)} {xoc0 xkv0 xdc0 xpm0 xcd0 xct0 : Value}
    (xg0 : PySem.W.nsIn K mainGlobals "LookError" = some (some (.ref C0)))
    (xfc0 : PySem.W.findCls K (.ref C0) (.type "type") "__init__" = some (.val (.ref g_0)))
    {xT0 : Addr} {xob0 : Obj} {xn0 : Nat}
    (xf0 : K.lookup g_0 = some ⟨xoc0, xo0, .func (PySem.W.fnOf "__init__" "LookError.__init__" (defArgs s_LookError_init) (defBody s_LookError_init) (defScope s_LookError_init) (.ref xT0) xkv0 xdc0 xpm0 xa0 xcd0 xct0), xs0⟩)
    (xc0 : PySem.W.codeIn K xcd0 "LookError.__init__" = true) (xk0 : PySem.W.keepIn K (.ref g_0) = true)
    {xv0_0 : Value}
    (xt0 : K.lookup xT0 = some xob0) (xq0 : xob0.data = .seq #[xv0_0] xn0)
    (xrd0 : PySem.W.readsIn K C0 (.type "type") = true) (xga0 : PySem.W.specialIn K (.ref C0) "__getattribute__" = some (some (.builtin "type.__getattribute__")))
    {C1 g_1 : Addr} {xo1 xa1 : Option Addr} {xs1 : Array (Option Value)} {xoc1 xkv1 xdc1 xpm1 xcd1 xct1 : Value}
    (xg1 : PySem.W.nsIn K mainGlobals "HallError" = some (some (.ref C1)))
    (xfc1 : PySem.W.findCls K (.ref C1) (.type "type") "__init__" = some (.val (.ref g_1)))
    {xT1 : Addr} {xob1 : Obj} {xn1 : Nat}
    (xf1 : K.lookup g_1 = some ⟨xoc1, xo1, .func (PySem.W.fnOf "__init__" "HallError.__init__" (defArgs s_HallError_init) (defBody s_HallError_init) (defScope s_HallError_init) (.ref xT1) xkv1 xdc1 xpm1 xa1 xcd1 xct1), xs1⟩)
    (xc1 : PySem.W.codeIn K xcd1 "HallError.__init__" = true) (xk1 : PySem.W.keepIn K (.ref g_1) = true)
    {xv1_0 : Value}
    (xt1 : K.lookup xT1 = some xob1) (xq1 : xob1.data = .seq #[xv1_0] xn1)
    (xrd1 : PySem.W.readsIn K C1 (.type "type") = true) (xga1 : PySem.W.specialIn K (.ref C1) "__getattribute__" = some (some (.builtin "type.__getattribute__")))
    {C2 g_2 : Addr} {xo2 xa2 : Option Addr} {xs2 : Array (Option Value)} {xoc2 xkv2 xdc2 xpm2 xcd2 xct2 : Value}
    (xg2 : PySem.W.nsIn K mainGlobals "BadPrime" = some (some (.ref C2)))
    (xi2 : PySem.W.findIn K (.ref C2) "__init__" = some (some (.ref g_2)))
    (xf2 : K.lookup g_2 = some ⟨xoc2, xo2, .func (PySem.W.fnOf "__init__" "BadPrime.__init__" (defArgs s_BadPrime_init) (defBody s_BadPrime_init) (defScope s_BadPrime_init) .none xkv2 xdc2 xpm2 xa2 xcd2 xct2), xs2⟩)
    (xc2 : PySem.W.codeIn K xcd2 "BadPrime.__init__" = true) (xk2 : PySem.W.keepIn K (.ref g_2) = true)
    {nm2 qq2 : Str} {NN2 : Addr} {bs2 bm2 sub2 : List Value} {sn2 : List Str} {ab2 : Bool} {col2 : Option Bool} {dd2 : Option Addr} {k0_2 k1_2 k2_2 k3_2 k5_2 : Option Value}
    (xl2 : K.lookup C2 = some (excClassObj nm2 qq2 C2 NN2 bs2 bm2 true sn2 sub2 ab2 col2 dd2 k0_2 k1_2 k2_2 k3_2 k5_2 "ValueError.__new__")) (xr2 : PySem.HandSPX.refsVE bm2 = true) (xsa2 : PySem.W.findIn K (.ref C2) "__setattr__" = some (some (.builtin "object.__setattr__"))) (xex2 : PySem.W.subIn K (.ref C2) (.type "BaseException") = some true) (xty2 : PySem.W.typeIn K (.ref C2) = some (.type "type")) (xkc2 : PySem.W.keepIn K (.ref C2) = true) (xti2 : PySem.W.typeIn K (.ref g_2) = some (.type "function")) (xxf2 : xfB K C2 = true) (xno2 : PySem.W.findIn K (.ref C2) "word" = some none) (xup2 : PySem.W.exmOne K (.ref C2) (.ref C0) = some true)
    {C3 g_3 : Addr} {xo3 xa3 : Option Addr} {xs3 : Array (Option Value)} {xoc3 xkv3 xdc3 xpm3 xcd3 xct3 : Value}
    (xg3 : PySem.W.nsIn K mainGlobals "BadPlace" = some (some (.ref C3)))
    (xi3 : PySem.W.findIn K (.ref C3) "__init__" = some (some (.ref g_3)))
    (xf3 : K.lookup g_3 = some ⟨xoc3, xo3, .func (PySem.W.fnOf "__init__" "BadPlace.__init__" (defArgs s_BadPlace_init) (defBody s_BadPlace_init) (defScope s_BadPlace_init) .none xkv3 xdc3 xpm3 xa3 xcd3 xct3), xs3⟩)
    (xc3 : PySem.W.codeIn K xcd3 "BadPlace.__init__" = true) (xk3 : PySem.W.keepIn K (.ref g_3) = true)
    {nm3 qq3 : Str} {NN3 : Addr} {bs3 bm3 sub3 : List Value} {sn3 : List Str} {ab3 : Bool} {col3 : Option Bool} {dd3 : Option Addr} {k0_3 k1_3 k2_3 k3_3 k5_3 : Option Value}
    (xl3 : K.lookup C3 = some (excClassObj nm3 qq3 C3 NN3 bs3 bm3 true sn3 sub3 ab3 col3 dd3 k0_3 k1_3 k2_3 k3_3 k5_3 "ValueError.__new__")) (xr3 : PySem.HandSPX.refsVE bm3 = true) (xsa3 : PySem.W.findIn K (.ref C3) "__setattr__" = some (some (.builtin "object.__setattr__"))) (xex3 : PySem.W.subIn K (.ref C3) (.type "BaseException") = some true) (xty3 : PySem.W.typeIn K (.ref C3) = some (.type "type")) (xkc3 : PySem.W.keepIn K (.ref C3) = true) (xti3 : PySem.W.typeIn K (.ref g_3) = some (.type "function")) (xxf3 : xfB K C3 = true) (xno3 : PySem.W.findIn K (.ref C3) "word" = some none) (xup3 : PySem.W.exmOne K (.ref C3) (.ref C0) = some true) : LamX.LawAtS l w K (L2.CX l.prog w) 30 63 "_law_script" mg fa h := by
  have e : fa = f20 := Value.ref.inj (Option.some.inj (hfa.symm.trans (PySem.W.mg_of X G a20)))
  rw [e]
  have FD13 := funD_of (st := s_weights) (kws := [("prime", .int 31)]) l13 c13 k13 (fun q hq => by
    obtain rfl := List.mem_singleton.mp hq
    exact ⟨_, kd13_0, ⟨_, rfl⟩⟩)
  obtain ⟨ds13, bv13, bd13⟩ := FD13.binds0 (ps := ["place", "prime"]) 1 (by simp) rfl (fun D doc pm an cdv ct us ks hu hk => match us, hu, ks, hk with | [_], _, [_], _ => ⟨_, _, _, _, _, _, rfl, rfl, rfl⟩)
  let T : Top K mg := {
    law_begin := ⟨f0, _, fun_mk (st := s_law_begin) l0 c0 k0, (fun_mk (st := s_law_begin) l0 c0 k0).binds (ps := ["_law_script"]) (fun _ _ _ _ _ _ us hl => match us, hl with | [_], _ => rfl), PySem.W.mg_of X G a0⟩,
    law_same := ⟨f1, _, fun_mk (st := s_law_same) l1 c1 k1, (fun_mk (st := s_law_same) l1 c1 k1).binds (ps := ["_law_found", "_law_due"]) (fun _ _ _ _ _ _ us hl => match us, hl with | [_, _], _ => rfl), PySem.W.mg_of X G a1⟩,
    law_pick := ⟨f2, _, fun_mk (st := s_law_pick) l2 c2 k2, (fun_mk (st := s_law_pick) l2 c2 k2).binds (ps := ["_law_draw", "_law_many"]) (fun _ _ _ _ _ _ us hl => match us, hl with | [_, _], _ => rfl), PySem.W.mg_of X G a2⟩,
    law_one := ⟨f3, _, fun_mk (st := s_law_one) l3 c3 k3, (fun_mk (st := s_law_one) l3 c3 k3).binds (ps := ["_law_draw", "_law_some"]) (fun _ _ _ _ _ _ us hl => match us, hl with | [_, _], _ => rfl), PySem.W.mg_of X G a3⟩,
    law_primes := ⟨f4, _, fun_mk (st := s_law_primes) l4 c4 k4, (fun_mk (st := s_law_primes) l4 c4 k4).binds (ps := []) (fun _ _ _ _ _ _ us hl => match us, hl with | [], _ => rfl), PySem.W.mg_of X G a4⟩,
    law_prime := ⟨f5, _, fun_mk (st := s_law_prime) l5 c5 k5, (fun_mk (st := s_law_prime) l5 c5 k5).binds (ps := ["_law_draw"]) (fun _ _ _ _ _ _ us hl => match us, hl with | [_], _ => rfl), PySem.W.mg_of X G a5⟩,
    law_rests := ⟨f6, _, fun_mk (st := s_law_rests) l6 c6 k6, (fun_mk (st := s_law_rests) l6 c6 k6).binds (ps := ["_law_draw", "_law_many", "_law_mod"]) (fun _ _ _ _ _ _ us hl => match us, hl with | [_, _, _], _ => rfl), PySem.W.mg_of X G a6⟩,
    law_far := ⟨f7, _, fun_mk (st := s_law_far) l7 c7 k7, (fun_mk (st := s_law_far) l7 c7 k7).binds (ps := ["_law_draw"]) (fun _ _ _ _ _ _ us hl => match us, hl with | [_], _ => rfl), PySem.W.mg_of X G a7⟩,
    law_bent_rests := ⟨f8, _, fun_mk (st := s_law_bent_rests) l8 c8 k8, (fun_mk (st := s_law_bent_rests) l8 c8 k8).binds (ps := ["_law_draw", "_law_row", "_law_mod"]) (fun _ _ _ _ _ _ us hl => match us, hl with | [_, _, _], _ => rfl), PySem.W.mg_of X G a8⟩,
    look_prime := ⟨f9, _, fun_mk (st := s_look_prime) l9 c9 k9, (fun_mk (st := s_look_prime) l9 c9 k9).binds (ps := ["prime"]) (fun _ _ _ _ _ _ us hl => match us, hl with | [_], _ => rfl), PySem.W.mg_of X G a9⟩,
    are_rests := ⟨f10, _, fun_mk (st := s_are_rests) l10 c10 k10, (fun_mk (st := s_are_rests) l10 c10 k10).binds (ps := ["row", "prime"]) (fun _ _ _ _ _ _ us hl => match us, hl with | [_, _], _ => rfl), PySem.W.mg_of X G a10⟩,
    look_place := ⟨f11, _, fun_mk (st := s_look_place) l11 c11 k11, (fun_mk (st := s_look_place) l11 c11 k11).binds (ps := ["place", "letters", "prime"]) (fun _ _ _ _ _ _ us hl => match us, hl with | [_, _, _], _ => rfl), PySem.W.mg_of X G a11⟩,
    weights_at := ⟨f12, _, fun_mk (st := s_weights_at) l12 c12 k12, (fun_mk (st := s_weights_at) l12 c12 k12).binds (ps := ["place", "prime"]) (fun _ _ _ _ _ _ us hl => match us, hl with | [_, _], _ => rfl), PySem.W.mg_of X G a12⟩,
    weights := ⟨f13, _, funA_of l13 c13 k13, PySem.W.mg_of X G a13, ds13, bv13, bd13, kbn_of (fun us ws h1 h2 => match us, h1, ws, h2 with | [_], _, [_], _ => rfl)⟩,
    law_tried := ⟨f14, _, fun_mk (st := s_law_tried) l14 c14 k14, (fun_mk (st := s_law_tried) l14 c14 k14).binds (ps := ["_law_ask"]) (fun _ _ _ _ _ _ us hl => match us, hl with | [_], _ => rfl), PySem.W.mg_of X G a14⟩,
    corner_of := ⟨f15, _, fun_mk (st := s_corner_of) l15 c15 k15, (fun_mk (st := s_corner_of) l15 c15 k15).binds (ps := ["number", "letters"]) (fun _ _ _ _ _ _ us hl => match us, hl with | [_, _], _ => rfl), PySem.W.mg_of X G a15⟩,
    corner := ⟨f16, _, fun_mk (st := s_corner) l16 c16 k16, (fun_mk (st := s_corner) l16 c16 k16).binds (ps := ["number", "letters"]) (fun _ _ _ _ _ _ us hl => match us, hl with | [_, _], _ => rfl), PySem.W.mg_of X G a16⟩,
    law_power := ⟨f17, _, fun_mk (st := s_law_power) l17 c17 k17, (fun_mk (st := s_law_power) l17 c17 k17).binds (ps := ["_law_uno", "_law_many", "_law_mod"]) (fun _ _ _ _ _ _ us hl => match us, hl with | [_, _, _], _ => rfl), PySem.W.mg_of X G a17⟩,
    law_bits := ⟨f18, _, fun_mk (st := s_law_bits) l18 c18 k18, (fun_mk (st := s_law_bits) l18 c18 k18).binds (ps := ["_law_number", "_law_letters"]) (fun _ _ _ _ _ _ us hl => match us, hl with | [_, _], _ => rfl), PySem.W.mg_of X G a18⟩,
    law_weights := ⟨f19, _, fun_mk (st := s_law_weights) l19 c19 k19, (fun_mk (st := s_law_weights) l19 c19 k19).binds (ps := ["_law_place", "_law_mod"]) (fun _ _ _ _ _ _ us hl => match us, hl with | [_, _], _ => rfl), PySem.W.mg_of X G a19⟩,
    law := ⟨f20, _, cc20, P20, funC_of l20 c20 k20, (fun_mk (st := s_law) l20 c20 k20).binds (ps := ["_law_script"]) (fun _ _ _ _ _ _ us hl => match us, hl with | [_], _ => rfl), PySem.W.mg_of X G a20, t20⟩,
    z_all := PySem.W.mg_none_of X G z0,
    z_len := PySem.W.mg_none_of X G z1,
    z_tuple := PySem.W.mg_none_of X G z2,
    z_range := PySem.W.mg_none_of X G z3,
    z_min := PySem.W.mg_none_of X G z4,
    z_list := PySem.W.mg_none_of X G z5,
    z_isinstance := PySem.W.mg_none_of X G z6,
    z_bool := PySem.W.mg_none_of X G z7,
    z_int := PySem.W.mg_none_of X G z8,
    z_str := PySem.W.mg_none_of X G z9,
    z_zip := PySem.W.mg_none_of X G z10,
    z_sum := PySem.W.mg_none_of X G z11,
    a_PRIMES := g0,
    c_PRIMES := PySem.W.mg_of X G y0,
    q_PRIMES := fun H => sqT_K yl0 yc0 yd0 yv0 (by decide),
    c_PRIME := ⟨_, PySem.W.mg_of X G y1⟩,
    c_MOST_LETTERS := ⟨_, PySem.W.mg_of X G y2⟩,
    x_LookError := ⟨C0, g_0, _, PySem.W.mg_of X G xg0, funA_of (st := s_LookError_init) xf0 xc0 xk0, binds_df xt0 xq0 (fun us hl => match us, hl with | [_, _], _ => ⟨_, rfl, rfl⟩), ⟨xrd0, xga0⟩, xfc0⟩,
    x_HallError := ⟨C1, g_1, _, PySem.W.mg_of X G xg1, funA_of (st := s_HallError_init) xf1 xc1 xk1, binds_df xt1 xq1 (fun us hl => match us, hl with | [_, _], _ => ⟨_, rfl, rfl⟩), ⟨xrd1, xga1⟩, xfc1⟩,
    x_BadPrime := ⟨C2, g_2, _, PySem.W.mg_of X G xg2, ⟨⟨nm2, qq2, NN2, bs2, bm2, sn2, sub2, ab2, col2, dd2, k0_2, k1_2, k2_2, k3_2, k5_2, xl2, xr2⟩, xsa2, xex2, xty2, xkc2⟩, xi2, xti2, funA_of (st := s_BadPrime_init) xf2 xc2 xk2, .all (fun us hl => match us, hl with | [_], _ => rfl), xfB_ok xxf2, xno2⟩,
    up_BadPrime := xup2,
    x_BadPlace := ⟨C3, g_3, _, PySem.W.mg_of X G xg3, ⟨⟨nm3, qq3, NN3, bs3, bm3, sn3, sub3, ab3, col3, dd3, k0_3, k1_3, k2_3, k3_3, k5_3, xl3, xr3⟩, xsa3, xex3, xty3, xkc3⟩, xi3, xti3, funA_of (st := s_BadPlace_init) xf3 xc3 xk3, .all (fun us hl => match us, hl with | [_], _ => rfl), xfB_ok xxf3, xno3⟩,
    up_BadPlace := xup3 }
  obtain ⟨h1, h2⟩ := tabs _ _ _ _ hrec t20
  refine ⟨T.law.fd, [(cc20, P20)], sp_law K P20, fun p hp => ?_, fun p hp => ?_, fun p hp => ?_, fun s v => .of_eq rfl, fun H a ns hl _ hH hS => ⟨a, ns, rfl, hS, hl, hH _ (List.mem_singleton.mpr rfl), fun _ => rfl⟩, fun base _ _ TB => ok_law T (TB _ (List.mem_singleton.mpr rfl))⟩
  · rw [List.mem_singleton.mp hp]
    exact h2
  · rw [List.mem_singleton.mp hp]
    exact u20
  · rw [List.mem_singleton.mp hp]
    exact h1
end Wk
open PySem PySem.W PyProof.Rows
set_option maxHeartbeats 0 in
theorem PySem.Challenge.cw_weaklook_k10_corners_and_weights_holds : PySem.Challenge.rw_weaklook_k10_corners_and_weights.Holds := by
  w_on; o_law; k_head; (case hw => w_witness2)
  k_fill
  refine Wk.walk_W (l := PySem.Challenge.rw_weaklook_k10_corners_and_weights) (n := 63) (k := 30) (x := "_law_script") (CX := fun w => L2.CX PySem.Challenge.rw_weaklook_k10_corners_and_weights.prog w) rfl (by decide) rfl ⟨rfl, by decide, by decide⟩ (fun w h Y => by first | exact PySem.W.kIn_of Y | exact PySem.W.km_in_of Y) ?F (fun _ _ _ _ _ h => Wk.cx_no h)
  case F =>
    intro w mg fa h KX G hmg tabs
    refine' Wk.all_mk KX G hmg tabs ?hrec ?a0 ?l0 ?c0 ?k0 ?a1 ?l1 ?c1 ?k1 ?a2 ?l2 ?c2 ?k2 ?a3 ?l3 ?c3 ?k3 ?a4 ?l4 ?c4 ?k4 ?a5 ?l5 ?c5 ?k5 ?a6 ?l6 ?c6 ?k6 ?a7 ?l7 ?c7 ?k7 ?a8 ?l8 ?c8 ?k8 ?a9 ?l9 ?c9 ?k9 ?a10 ?l10 ?c10 ?k10 ?a11 ?l11 ?c11 ?k11 ?a12 ?l12 ?c12 ?k12 ?a13 ?l13 ?c13 ?k13 ?kd13_0 ?a14 ?l14 ?c14 ?k14 ?a15 ?l15 ?c15 ?k15 ?a16 ?l16 ?c16 ?k16 ?a17 ?l17 ?c17 ?k17 ?a18 ?l18 ?c18 ?k18 ?a19 ?l19 ?c19 ?k19 ?a20 ?l20 ?c20 ?k20 ?tl20 ?tf20 ?tp20 ?t20 ?u20 ?z0 ?z1 ?z2 ?z3 ?z4 ?z5 ?z6 ?z7 ?z8 ?z9 ?z10 ?z11 ?y0 ?yl0 ?yc0 ?yd0 ?yv0 ?y1 ?y2 ?xg0 ?xfc0 ?xf0 ?xc0 ?xk0 ?xt0 ?xq0 ?xrd0 ?xga0 ?xg1 ?xfc1 ?xf1 ?xc1 ?xk1 ?xt1 ?xq1 ?xrd1 ?xga1 ?xg2 ?xi2 ?xf2 ?xc2 ?xk2 ?xl2 ?xr2 ?xsa2 ?xex2 ?xty2 ?xkc2 ?xti2 ?xxf2 ?xno2 ?xup2 ?xg3 ?xi3 ?xf3 ?xc3 ?xk3 ?xl3 ?xr3 ?xsa3 ?xex3 ?xty3 ?xkc3 ?xti3 ?xxf3 ?xno3 ?xup3
    (case hrec => rfl)
    (case a0 => k_is)
    (case l0 => k_is)
    (case c0 => k_is)
    (case k0 => k_is)
    (case a1 => k_is)
    (case l1 => k_is)
    (case c1 => k_is)
    (case k1 => k_is)
    (case a2 => k_is)
    (case l2 => k_is)
    (case c2 => k_is)
    (case k2 => k_is)
    (case a3 => k_is)
    (case l3 => k_is)
    (case c3 => k_is)
    (case k3 => k_is)
    (case a4 => k_is)
    (case l4 => k_is)
    (case c4 => k_is)
    (case k4 => k_is)
    (case a5 => k_is)
    (case l5 => k_is)
    (case c5 => k_is)
    (case k5 => k_is)
    (case a6 => k_is)
    (case l6 => k_is)
    (case c6 => k_is)
    (case k6 => k_is)
    (case a7 => k_is)
    (case l7 => k_is)
    (case c7 => k_is)
    (case k7 => k_is)
    (case a8 => k_is)
    (case l8 => k_is)
    (case c8 => k_is)
    (case k8 => k_is)
    (case a9 => k_is)
    (case l9 => k_is)
    (case c9 => k_is)
    (case k9 => k_is)
    (case a10 => k_is)
    (case l10 => k_is)
    (case c10 => k_is)
    (case k10 => k_is)
    (case a11 => k_is)
    (case l11 => k_is)
    (case c11 => k_is)
    (case k11 => k_is)
    (case a12 => k_is)
    (case l12 => k_is)
    (case c12 => k_is)
    (case k12 => k_is)
    (case a13 => k_is)
    (case l13 => k_is)
    (case c13 => k_is)
    (case k13 => k_is)
    (case kd13_0 => k_is)
    (case a14 => k_is)
    (case l14 => k_is)
    (case c14 => k_is)
    (case k14 => k_is)
    (case a15 => k_is)
    (case l15 => k_is)
    (case c15 => k_is)
    (case k15 => k_is)
    (case a16 => k_is)
    (case l16 => k_is)
    (case c16 => k_is)
    (case k16 => k_is)
    (case a17 => k_is)
    (case l17 => k_is)
    (case c17 => k_is)
    (case k17 => k_is)
    (case a18 => k_is)
    (case l18 => k_is)
    (case c18 => k_is)
    (case k18 => k_is)
    (case a19 => k_is)
    (case l19 => k_is)
    (case c19 => k_is)
    (case k19 => k_is)
    (case a20 => k_is)
    (case l20 => k_is)
    (case c20 => k_is)
    (case k20 => k_is)
    (case tl20 => k_is)
    (case tf20 => rfl)
    (case tp20 => rfl)
    (case t20 => kernel_rfl)
    (case u20 => kernel_rfl)
    (case z0 => k_is)
    (case z1 => k_is)
    (case z2 => k_is)
    (case z3 => k_is)
    (case z4 => k_is)
    (case z5 => k_is)
    (case z6 => k_is)
    (case z7 => k_is)
    (case z8 => k_is)
    (case z9 => k_is)
    (case z10 => k_is)
    (case z11 => k_is)
    (case y0 => k_is)
    (case yl0 => k_is)
    (case yc0 => rfl)
    (case yd0 => rfl)
    (case yv0 => rfl)
    (case y1 => k_is)
    (case y2 => k_is)
    (case xg0 => k_is)
    (case xfc0 => k_is)
    (case xf0 => k_is)
    (case xc0 => k_is)
    (case xk0 => k_is)
    (case xt0 => k_is)
    (case xq0 => rfl)
    (case xrd0 => k_is)
    (case xga0 => k_is)
    (case xg1 => k_is)
    (case xfc1 => k_is)
    (case xf1 => k_is)
    (case xc1 => k_is)
    (case xk1 => k_is)
    (case xt1 => k_is)
    (case xq1 => rfl)
    (case xrd1 => k_is)
    (case xga1 => k_is)
    (case xg2 => k_is)
    (case xi2 => k_is)
    (case xf2 => k_is)
    (case xc2 => k_is)
    (case xk2 => k_is)
    (case xl2 => k_is)
    (case xr2 => rfl)
    (case xsa2 => k_is)
    (case xex2 => k_is)
    (case xty2 => k_is)
    (case xkc2 => k_is)
    (case xti2 => k_is)
    (case xxf2 => kernel_rfl)
    (case xno2 => k_is)
    (case xup2 => kernel_rfl)
    (case xg3 => k_is)
    (case xi3 => k_is)
    (case xf3 => k_is)
    (case xc3 => k_is)
    (case xk3 => k_is)
    (case xl3 => k_is)
    (case xr3 => rfl)
    (case xsa3 => k_is)
    (case xex3 => k_is)
    (case xty3 => k_is)
    (case xkc3 => k_is)
    (case xti3 => k_is)
    (case xxf3 => kernel_rfl)
    (case xno3 => k_is)
    (case xup3 => kernel_rfl)
